import PyProof.Rows.All
import Wide.All
import OpenK.AllK
import Wide.FinOn
import KE.IntText
import KE.SortData
import HandS.ForMost
import HandS.Exc
import HandS.TryMany
import HandS.ExcInit
import HandS.ExcOwn
import HandS.ExcField
import HandS.ExcIs
import HandS.IsInst
import HandS.Conv
import HandS.Deep
import HandS.Flow
import HandS.Wide
import HandS.Defaults
import HandS.Zip
import HandS.TupAny
import HandS.TupMul
import HandS.SortInts
import KE.KDictKeyed
import HandS.TupLen
import KE.KDictOf
import HandS.CallSlots
import KE.GoesEnum
import KE.KDictWalk
import HandS.NoneIn
import PyProof.Rows.TupDisplay
import HandS.DictComp
import HandS.ReCall
import HandS.More
import PyProof.TupleOfSeq
import PyProof.Transfer
import HandS.Text
import HandS.Style
import PyProof.Rows.StrStep
import HandS.SetFor
import HandS.Strs
import HandS.ClsMeth
import KE.KUnpackStar
import KE.KStateDown
import HandS.Base
import HandS.Call
import HandS.Ends
import HandS.Words
import HandS.WordsExc
import HandS.Head0
import HandS.Head1
import HandS.Head2
import HandS.HeadEnd
import HandS.HeadHook1
import HandS.HeadHook2
import HandS.MakeKwOnly
import PyProof.ExcBaseAll.ValueError
import PySem.Challenge.RW_alldrawings_k31_refusals_stand_apart
set_option linter.all false
/-! The pure evaluator: a small Python over plain data. -/
namespace Ad
open PySem

abbrev D := PyData

/-- builtins by values -/
inductive Pr where
  | len | list | tuple | sorted | sitems | int | abs | max2 | min2 | dict | sum | str | maxD | sset | rng | rev
  deriving DecidableEq

/-- kinds for isinstance -/
inductive Ty where
  | int | bool | str | tuple | list | cls (x : Str) (cs : List Str)
  deriving DecidableEq

/-- methods that only read -/
inductive Mt where
  | get | count | index | join | split
  deriving DecidableEq

mutual
inductive E where
  | var (i : Nat)
  | lit (d : D)
  | gl (x : Str) (d : D)
  | bin (op : Operator) (a b : E)
  | neg (a : E)
  | not (a : E)
  | bop (op : BoolOp) (es : List E)
  | ite (c a b : E)
  | cmp (op : CmpOp) (a b : E)
  | chn (o1 o2 : CmpOp) (a b c : E)
  | tup (es : List E)
  | lst (es : List E)
  | dct (kvs : List (E × E))
  | idx (a i : E)
  | slc (a : E) (lo hi : Option E)
  | call (f : Nat) (es : List E) (ks : List (Str × E))
  | callV (i : Nat) (es : List E)
  | fnv (f : Nat)
  | pr (p : Pr) (es : List E)
  | isi (a : E) (t : Ty)
  | mt (m : Mt) (a : E) (es : List E)
  | lc (elt : E) (t : T) (it : I) (ifs : List E) (own : List Nat)
  | dc (k v : E) (t : T) (it : I) (ifs : List E) (own : List Nat)
  | fld (i : Nat) (f : Str)
inductive I where
  | seq (e : E)
  | rng (es : List E)
  | enum (e : E)
  | zip (a b : E)
  | items (e : E)
inductive T where
  | nm (i : Nat)
  | tp (ts : List T)
  | st (i j : Nat)
end

/-- an expression that may pop -/
inductive F where
  | pure (e : E)
  | pop (i : Nat) (e : E)
  | tup (fs : List F)
  | ite (c : E) (a b : F)

inductive S where
  | asg (t : T) (e : E)
  | asgN (i : Nat) (c : E) (f g : Nat)
  | own (i : Nat) (e : E)
  | asgF (i : Nat) (f : F)
  | par (ts : List T) (es : List E)
  | app (i : Nat) (f : F)
  | put (i : Nat) (k e : E)
  | aug (i : Nat) (e : E)
  | augI (i : Nat) (k e : E)
  | popD (i : Nat) (e : E)
  | rem (i : Nat) (e : E)
  | ext (i : Nat) (e : E)
  | put2 (i : Nat) (k : E) (j : Nat) (l : E) (a b : E)
  | expr (e : E)
  | ret (e : E)
  | retN
  | ifs (c : E) (a b : List S)
  | forS (t : T) (it : I) (b : List S)
  | whil (c : E) (b : List S)
  | raise (c : Str) (fs : List Str) (es : List E)
  | tryS (b : List S) (hs : List (List Str × Option Nat × List S))
  | pass
  | cont
  | frz (i : Nat)
  | never

/-- what a slot holds -/
inductive Sl where
  | un
  | fz (d : D)
  | ow (d : D)
  | ln (d : D)
  | fn (f : Nat)
  | ex (c : Str) (fs : List (Str × D))

inductive R (α : Type) where
  | ok (a : α)
  | ex (c : Str) (fs : List (Str × D))
  | bad

@[inline] def R.bind {α β : Type} : R α → (α → R β) → R β
  | .ok a, f => f a
  | .ex c fs, _ => .ex c fs
  | .bad, _ => .bad
instance : Monad R where
  pure := .ok
  bind := R.bind
def R.of {α : Type} : Option α → R α
  | some a => .ok a
  | none => .bad

inductive Out where
  | nx (ρ : List Sl)
  | rt (d : D)
  | ct (ρ : List Sl)
  | ex (c : Str) (fs : List (Str × D)) (ρ : List Sl)
/-- an expression in a statement -/
def lift {α : Type} (ρ : List Sl) (r : R α) (f : α → Option Out) : Option Out := match r with
  | .ok a => f a
  | .ex c fs => some (.ex c fs ρ)
  | .bad => none

structure Fn where
  name : Str
  ps : List Str
  kwd : List (Str × D)
  N : List Str
  body : List S

def line : Nat := 16777216

mutual
def noLst : D → Bool
  | .list _ => false
  | .tuple xs => noLsts xs
  | .dict kvs => noLstP kvs
  | _ => true
def noLsts : List D → Bool
  | [] => true
  | x :: r => noLst x && noLsts r
def noLstP : List (D × D) → Bool
  | [] => true
  | (k, v) :: r => noLst k && noLst v && noLstP r
end
mutual
/-- data without dicts, of small depth is checked apart -/
def noDct : D → Bool
  | .dict _ => false
  | .tuple xs => noDcts xs
  | .list xs => noDcts xs
  | _ => true
def noDcts : List D → Bool
  | [] => true
  | x :: r => noDct x && noDcts r
end

def truth : D → Bool
  | .none => false
  | .bool b => b
  | .int i => i != 0
  | .str x => x.length != 0
  | .list xs => !xs.isEmpty
  | .tuple xs => !xs.isEmpty
  | .dict kvs => !kvs.isEmpty

mutual
/-- order: ints, texts, tuples of these -/
def ltD : D → D → Option Bool
  | .int i, .int j => some (decide (i < j))
  | .str x, .str y => some (decide (x.cps.toList < y.cps.toList))
  | .tuple xs, .tuple ys => ltDs xs ys
  | _, _ => none
def ltDs : List D → List D → Option Bool
  | _, [] => some false
  | [], _ :: _ => some true
  | x :: xs, y :: ys => if PyData.eqv x y then ltDs xs ys else ltD x y
end

def leD (x y : D) : Bool := !PySem.W.dataLt y x
/-- x set into a sorted list, ahead of its equals -/
def insL (x : D) : List D → List D
  | [] => [x]
  | y :: r => if leD x y then x :: y :: r else y :: insL x r
def isort : List D → List D
  | [] => []
  | x :: r => insL x (isort r)
def tup1 : D → Bool
  | .tuple (_ :: _) => true
  | _ => false
def noTup : D → Bool
  | .none => false
  | .tuple _ => false
  | _ => true
def sortOk (xs : List D) : Bool := xs.all (fun a => xs.all fun b => PySem.W.alike a b) && (xs.all tup1 || xs.all noTup) && xs.all (fun d => d.canLay0 && decide (d.depth ≤ 60)) && decide (xs.length ≤ line)
def sortD (xs : List D) : Option (List D) := if sortOk xs then some (isort xs) else none

def findK (k : D) : List (D × D) → Option D
  | [] => none
  | (k', v) :: r => if PyData.eqv k' k then some v else findK k r
def putK (k v : D) : List (D × D) → List (D × D)
  | [] => [(k, v)]
  | (k', v') :: r => if PyData.eqv k' k then (k', v) :: r else (k', v') :: putK k v r
def delK (k : D) : List (D × D) → List (D × D)
  | [] => []
  | (k', v') :: r => if PyData.eqv k' k then r else (k', v') :: delK k r

mutual
/-- keys: ints, texts, tuples of them -/
def keyOk : D → Bool
  | .int _ => true
  | .str _ => true
  | .tuple xs => keyOks xs
  | _ => false
def keyOks : List D → Bool
  | [] => true
  | x :: r => keyOk x && keyOks r
end
mutual
def depth : D → Nat
  | .tuple xs => 1 + depths xs
  | .list xs => 1 + depths xs
  | _ => 0
def depths : List D → Nat
  | [] => 0
  | x :: r => max (depth x) (depths r)
end
/-- a good key: nested at most four deep -/
def keyed (d : D) : Bool := keyOk d && decide (depth d ≤ 4)
/-- a flat key -/
def keyF : D → Bool
  | .int _ => true
  | .str _ => true
  | _ => false
/-- a key for this dict: flat keys or tuples, not both -/
def okK (k : D) (kvs : List (D × D)) : Bool := keyed k && (match kvs with
  | [] => true
  | p :: _ => keyF p.1 == keyF k)
/-- data that can be compared -/
def eqOk (d : D) : Bool := d.canLay0 && decide (d.depth ≤ 60)

def ixOf (n : Nat) (i : Int) : Option Nat :=
  if 0 ≤ i then (if i < n then some i.toNat else none) else if -(n : Int) ≤ i then some (i + n).toNat else none
def at? {α : Type} (xs : List α) (i : Int) : Option α := (ixOf xs.length i).bind fun j => xs[j]?
/-- a slice's bound -/
def bnd (n d : Nat) : Option Int → Nat
  | none => d
  | some i => if i < 0 then (i + (n : Int)).toNat else min i.toNat n
def cut {α : Type} (xs : List α) (lo hi : Option Int) : List α :=
  (xs.drop (bnd xs.length 0 lo)).take (bnd xs.length xs.length hi - bnd xs.length 0 lo)

def strOf (n : Int) : Str := toString n

def inL (x : D) : List D → Bool
  | [] => false
  | y :: r => PyData.eqv y x || inL x r
def idxL (x : D) : List D → Option Nat
  | [] => none
  | y :: r => if PyData.eqv y x then some 0 else (idxL x r).map (· + 1)
def remL (x : D) : List D → Option (List D)
  | [] => none
  | y :: r => if PyData.eqv y x then some r else (remL x r).map (y :: ·)
def cntL (x : D) : List D → Nat
  | [] => 0
  | y :: r => (if PyData.eqv y x then 1 else 0) + cntL x r
def ints? : List D → Option (List Int)
  | [] => some []
  | .int i :: r => (ints? r).map (i :: ·)
  | _ => none
def rngL (a : Int) (c : Int) : Nat → List D
  | 0 => []
  | n + 1 => .int a :: rngL (a + c) c n
def rangeL : List D → R (List D)
  | [.int n] => if n.natAbs ≤ line then .ok (rngL 0 1 n.toNat) else .bad
  | [.int a, .int b] => if a.natAbs ≤ line ∧ b.natAbs ≤ line then .ok (rngL a 1 (b - a).toNat) else .bad
  | [.int a, .int b, .int c] => if a.natAbs ≤ line ∧ b.natAbs ≤ line ∧ c.natAbs ≤ line ∧ c ≠ 0 ∧ Builtin.Range.small a b c = true then .ok (rngL a c (Builtin.Range.rangeSize a b c).toNat) else .bad
  | _ => .bad
def enumL (i : Int) : List D → List D
  | [] => []
  | x :: r => .tuple [.int i, x] :: enumL (i + 1) r
def zipL : List D → List D → List D
  | x :: r, y :: s => .tuple [x, y] :: zipL r s
  | _, _ => []
def itemsL : List (D × D) → List D
  | [] => []
  | (k, v) :: r => .tuple [k, v] :: itemsL r
def dedup : List D → List D
  | [] => []
  | x :: r => if inL x r then dedup r else x :: dedup r

def fits (n : Nat) : Bool := decide (n ≤ line)

/-- a product that the model makes -/
def mulB (i j : Int) : Bool := decide (i.natAbs.log2 < 60) || decide (j.natAbs.log2 < 60) || decide (i.natAbs.log2 + j.natAbs.log2 < 1000000)
def binD : Operator → D → D → R D
  | .Add, .int i, .int j => .ok (.int (i + j))
  | .Add, .str x, .str y => if x.length + y.length ≤ line then .ok (.str (x ++ y)) else .bad
  | .Add, .list xs, .list ys => if xs.length + ys.length ≤ line then .ok (.list (xs ++ ys)) else .bad
  | .Add, .tuple xs, .tuple ys => if xs.length + ys.length ≤ line then .ok (.tuple (xs ++ ys)) else .bad
  | .Sub, .int i, .int j => .ok (.int (i - j))
  | .Mult, .int i, .int j => if mulB i j = true then .ok (.int (i * j)) else .bad
  | .Mult, .list xs, .int j => if j.natAbs ≤ 1000 ∧ xs.length ≤ 1000 then .ok (.list (List.replicate j.toNat xs).flatten) else .bad
  | .Mult, .tuple xs, .int j => if j = 1 then .ok (.tuple xs) else if 2 ≤ j ∧ j ≤ 1000 ∧ xs.length ≤ 1000 ∧ xs ≠ [] then .ok (.tuple (List.replicate j.toNat xs).flatten) else .bad
  | .Mod, .int i, .int j => if j ≠ 0 then .ok (.int (i.fmod j)) else .bad
  | .FloorDiv, .int i, .int j => if j ≠ 0 then .ok (.int (i.fdiv j)) else .bad
  | .Pow, .int i, .int j => if 0 ≤ j ∧ j ≤ 1000 ∧ i.natAbs ≤ 1000 then .ok (.int (i ^ j.toNat)) else .bad
  | _, _, _ => .bad

def flatD : D → Bool
  | .none => true
  | .bool _ => true
  | .int _ => true
  | .str _ => true
  | _ => false
def ltI : D → D → Option Bool
  | .int i, .int j => some (decide (i < j))
  | _, _ => none
def isNone : D → Bool
  | .none => true
  | _ => false
def inD (a : D) : D → R Bool
  | .list xs => if eqOk a && eqOk (.list xs) then .ok (inL a xs) else .bad
  | .tuple xs => if flatD a && xs.all flatD then .ok (inL a xs) else .bad
  | .dict kvs => if okK a kvs then .ok (findK a kvs).isSome else .bad
  | .str z => (match a with
    | .str ⟨⟨[c]⟩⟩ => .ok (decide (c ∈ z.cps.toList))
    | _ => .bad)
  | _ => .bad
def cmpD : CmpOp → D → D → R Bool
  | .Eq, a, b => if eqOk a && eqOk b then .ok (PyData.eqv a b) else .bad
  | .NotEq, a, b => if eqOk a && eqOk b then .ok (!PyData.eqv a b) else .bad
  | .Lt, a, b => .of (ltI a b)
  | .Gt, a, b => .of (ltI b a)
  | .LtE, a, b => .of ((ltI b a).map (!·))
  | .GtE, a, b => .of ((ltI a b).map (!·))
  | .Is, a, b => (match b with | .none => .ok (isNone a) | _ => .bad)
  | .IsNot, a, b => (match b with | .none => .ok (!isNone a) | _ => .bad)
  | .In, a, b => inD a b
  | .NotIn, a, b => (inD a b).bind fun t => .ok (!t)

def idxD : D → D → R D
  | .list xs, .int i => .of (at? xs i)
  | .tuple xs, .int i => .of (at? xs i)
  | .dict kvs, k => if okK k kvs then .of (findK k kvs) else .bad
  | .str z, .int i => (match at? z.cps.toList i with | some c => if z.length ≤ line then .ok (.str ⟨#[c]⟩) else .bad | none => .bad)
  | _, _ => .bad
def slcD (d : D) (lo hi : Option Int) : R D := match d with
  | .list xs => .ok (.list (cut xs lo hi))
  | .tuple xs => .ok (.tuple (cut xs lo hi))
  | .str z => if z.length ≤ line then .ok (.str ⟨(cut z.cps.toList lo hi).toArray⟩) else .bad
  | _ => .bad

def isiD : D → Ty → R D
  | .dict _, _ => .bad
  | _, .cls _ _ => .bad
  | .none, _ => .ok (.bool false)
  | .bool _, .int => .ok (.bool true)
  | .bool _, .bool => .ok (.bool true)
  | .bool _, _ => .ok (.bool false)
  | .int _, .int => .ok (.bool true)
  | .int _, _ => .ok (.bool false)
  | .str _, .str => .ok (.bool true)
  | .str _, _ => .ok (.bool false)
  | .tuple _, .tuple => .ok (.bool true)
  | .tuple _, _ => .ok (.bool false)
  | .list _, .list => .ok (.bool true)
  | .list _, _ => .ok (.bool false)

def splitOn1 (c : List Nat) : Nat → List Nat → List Nat → List (List Nat)
  | 0, _, acc => [acc.reverse]
  | n + 1, [], acc => [acc.reverse]
  | n + 1, x :: r, acc => if c.isPrefixOf (x :: r) then acc.reverse :: splitOn1 c n ((x :: r).drop c.length) [] else splitOn1 c n r (x :: acc)
def splitS (z c : Str) : List D := (splitOn1 c.cps.toList (z.length + 1) z.cps.toList []).map fun l => .str ⟨l.toArray⟩
def strs? : List D → Option (List Str)
  | [] => some []
  | .str x :: r => (strs? r).map (x :: ·)
  | _ => none
def joinS (sep : Str) : List Str → Str
  | [] => ⟨#[]⟩
  | [x] => x
  | x :: r => x ++ sep ++ joinS sep r

def lenD : List D → R D
  | [.list xs] => .ok (.int xs.length)
  | [.tuple xs] => .ok (.int xs.length)
  | [.dict xs] => .ok (.int xs.length)
  | [.str x] => if x.length ≤ line then .ok (.int x.length) else .bad
  | _ => .bad
def listD : List D → R D
  | [.list xs] => .ok (.list xs)
  | [.tuple xs] => .ok (.list xs)
  | _ => .bad
def tupleD : List D → R D
  | [.list xs] => .ok (.tuple xs)
  | [.tuple xs] => .ok (.tuple xs)
  | _ => .bad
def sortedD : List D → R D
  | [.list xs] => R.of ((sortD xs).map .list)
  | [.dict kvs] => if kvs.all (fun p => keyF p.1) then R.of ((sortD (kvs.map (·.1))).map .list) else .bad
  | [.tuple xs] => R.of ((sortD xs).map .list)
  | _ => .bad
def sitemsD : List D → R D
  | [.dict kvs] => R.of ((sortD (itemsL kvs)).map .list)
  | _ => .bad
def intD : List D → R D
  | [.int i] => .ok (.int i)
  | [.bool b] => .ok (.int (if b then 1 else 0))
  | [.str x] => (match intText? x with | some n => if x.length ≤ 640 then .ok (.int n) else .bad | none => .bad)
  | _ => .bad
def absD : List D → R D
  | [.int i] => .ok (.int (if i < 0 then -i else i))
  | _ => .bad
def max2D : List D → R D
  | [.int i, .int j] => .ok (.int (if j > i then j else i))
  | _ => .bad
def min2D : List D → R D
  | [.int i, .int j] => .ok (.int (if j < i then j else i))
  | _ => .bad
def pairsD : List D → List (D × D) → R D
  | [], acc => .ok (.dict acc)
  | .tuple [k, v] :: r, acc => if okK k acc && fits (acc.length + 1) then pairsD r (putK k v acc) else .bad
  | _, _ => .bad
def putsD : List (D × D) → List (D × D) → R D
  | [], acc => .ok (.dict acc)
  | (k, v) :: r, acc => if okK k acc && fits (acc.length + 1) then putsD r (putK k v acc) else .bad
def dictD : List D → R D
  | [.dict []] => .ok (.dict [])
  | [.dict [(.tuple ks, v)]] => .ok (.dict [(.tuple ks, v)])
  | _ => .bad
def sumD : List D → R D
  | [.list xs] => R.of ((ints? xs).map fun ns => .int ns.sum)
  | _ => .bad
def strD : List D → R D
  | [.int i] => if i.natAbs.log2 < 1920 then .ok (.str (strOf i)) else .bad
  | _ => .bad
def maxDD : List D → R D
  | [.list [], d] => .ok d
  | [.list (x :: xs), _] => R.of ((ints? (x :: xs)).map fun ns => .int (ns.foldl max (ns.headD 0)))
  | _ => .bad
/-- k set into a rising list -/
def uins (k : Int) : List Int → List Int
  | [] => [k]
  | a :: r => if k < a then k :: a :: r else if k = a then a :: r else a :: uins k r
/-- each once, rising -/
def usort : List Int → List Int
  | [] => []
  | k :: r => uins k (usort r)
def ssetD : List D → R D
  | [.list xs] => R.of ((ints? xs).bind fun ns => if ns.length < 64 then some (.list ((usort ns).map .int)) else none)
  | _ => .bad
def revS (z : Str) : Str := Txt.sliceBy z none none (-1, 0)
/-- a text from behind -/
def revD : List D → R D
  | [.str z] => if z.length ≤ line then .ok (.str (revS z)) else .bad
  | _ => .bad
def prD : Pr → List D → R D
  | .rev, ds => revD ds
  | .len, ds => lenD ds
  | .list, ds => listD ds
  | .tuple, ds => tupleD ds
  | .sorted, ds => sortedD ds
  | .sitems, ds => sitemsD ds
  | .int, ds => intD ds
  | .abs, ds => absD ds
  | .max2, ds => max2D ds
  | .min2, ds => min2D ds
  | .dict, ds => dictD ds
  | .sum, ds => sumD ds
  | .str, ds => strD ds
  | .maxD, ds => maxDD ds
  | .sset, ds => ssetD ds
  | .rng, ds => (rangeL ds).bind fun l => .ok (.list l)

def mtD : Mt → D → List D → R D
  | .get, .dict kvs, [k, d] => if okK k kvs then .ok ((findK k kvs).getD d) else .bad
  | .count, .list xs, [x] => if eqOk x && eqOk (.list xs) then .ok (.int (cntL x xs)) else .bad
  | .count, .tuple xs, [x] => if eqOk x && eqOk (.list xs) then .ok (.int (cntL x xs)) else .bad
  | .index, .list xs, [x] => if eqOk x && eqOk (.list xs) then (match idxL x xs with | some k => .ok (.int k) | none => .bad) else .bad
  | .join, .str s, [.list xs] => (match strs? xs with | some ys => if (ys.map (·.length)).sum + ys.length * s.length ≤ 16777216 then .ok (.str (Txt.join s ys)) else .bad | none => .bad)
  | .split, .str s, [.str c] => if (c.length == 0) = false ∧ s.length + 2 ≤ line then .ok (.list ((Txt.split s c).map .str)) else .bad
  | _, _, _ => .bad

/-! ### slots -/
def getV (ρ : List Sl) (i : Nat) : R D := match ρ[i]? with
  | some (.fz d) => .ok d
  | _ => .bad
def getR (ρ : List Sl) (i : Nat) : R D := match ρ[i]? with
  | some (.fz d) => .ok d
  | some (.ow d) => .ok d
  | some (.ln d) => .ok d
  | _ => .bad
def Sl.lend : Sl → Sl
  | .ow d => .ln d
  | s => s
def lend (ρ : List Sl) : List Sl := ρ.map Sl.lend
def wipeS (ρ : List Sl) : List Nat → List Sl
  | [] => ρ
  | v :: vs => (wipeS ρ vs).set v .un
def isLent (ρ : List Sl) (i : Nat) : Bool := match ρ[i]? with
  | some (.ow (.list _)) => true
  | some (.ln (.list _)) => true
  | _ => false

mutual
def bindT (ρ : List Sl) : T → D → Option (List Sl)
  | .nm i, d => if i < ρ.length then some (ρ.set i (.fz d)) else none
  | .tp ts, .tuple ds => bindTs ρ ts ds
  | .tp ts, .list ds => bindTs ρ ts ds
  | .st i j, .list (d :: ds) => if i < ρ.length ∧ j < ρ.length ∧ i ≠ j then some ((ρ.set i (.fz d)).set j (.fz (.list ds))) else none
  | _, _ => none
def bindTs (ρ : List Sl) : List T → List D → Option (List Sl)
  | [], [] => some ρ
  | t :: ts, d :: ds => match bindT ρ t d with
    | some ρ' => bindTs ρ' ts ds
    | none => none
  | _, _ => none
end

section
variable (cl : Nat → List D → List (Str × D) → R D)

inductive Md where
  | v | r | t
def tok : D → Bool
  | .str x => decide (x.length ≤ line)
  | _ => true
def Md.sub : Md → Md
  | .t => .t
  | _ => .v
def Md.fin : Md → D → R D
  | .t, d => if tok d then .ok (.bool (truth d)) else .bad
  | _, d => .ok d
def filtD {α : Type} (f : D → R (Option α)) : List D → R (List α)
  | [] => .ok []
  | d :: r => match f d with
    | .ok o => (filtD f r).bind fun ys => .ok (match o with | some y => y :: ys | none => ys)
    | _ => .bad

def isLentD (ρ : List Sl) (i : Nat) : Bool := match ρ[i]? with
  | some (.ow (.list _)) => false
  | some (.ow _) => true
  | some (.ln (.list _)) => false
  | some (.ln _) => true
  | _ => false
def lentDict (ρ : List Sl) : List E → Bool
  | [] => false
  | .var i :: r => isLentD ρ i || lentDict ρ r
  | _ :: r => lentDict ρ r
def lentAny (ρ : List Sl) : List E → Bool
  | [] => false
  | .var i :: r => isLent ρ i || lentAny ρ r
  | _ :: r => lentAny ρ r
/-- lists were lent: none comes back -/
def cutR (b : Bool) (r : R D) : R D := match b, r with
  | true, .ok d => if noLst d then .ok d else .bad
  | true, .ex c fs => if fs.all (fun q => noLst q.2) then .ex c fs else .bad
  | _, r => r
def isiV (s : Option Sl) (t : Ty) : R D := match s, t with
  | some (.ex c _), .cls _ cs => .ok (.bool (cs.contains c))
  | some (.fz d), t => isiD d t
  | _, _ => .bad
def seqL : D → R (List D)
  | .list xs => .ok xs
  | .tuple xs => .ok xs
  | .dict kvs => .ok (kvs.map (·.1))
  | .str z => .ok (z.cps.toList.map fun c => .str ⟨#[c]⟩)
  | _ => .bad
def seq2 : D → R (List D)
  | .list xs => .ok xs
  | .tuple xs => .ok xs
  | _ => .bad
def zipD : D → D → R (List D)
  | .list xs, .list ys => .ok (zipL xs ys)
  | .tuple xs, .tuple ys => .ok (zipL xs ys)
  | _, _ => .bad
def itemsD : D → R (List D)
  | .dict kvs => .ok (itemsL kvs)
  | _ => .bad
def negD : D → R D
  | .int i => .ok (.int (-i))
  | _ => .bad
def intO : D → R (Option Int)
  | .int i => .ok (some i)
  | _ => .bad

def mtTy : Mt → D → Bool
  | .get, .dict _ => true
  | .count, .list _ => true
  | .count, .tuple _ => true
  | .index, .list _ => true
  | .join, .str _ => true
  | .split, .str _ => true
  | _, _ => false
def Mt.md : Mt → Md
  | .join => .r
  | _ => .v
/-- a name of small letters -/
def smallB (z : Str) : Bool := z.cps.toList.all fun c => decide (c ∈ ("abcdefghijklmnopqrstuvwxyz" : Str).cps.toList)
/-- what a new book tells of keeping a claim; i: the numbers of three functions -/
def keepD (i : Nat) (z : Str) (p c : D) : R D := if decide (1 ≤ z.length) && decide (z.length ≤ 12) && smallB z then (match cl (i / 1000000) [p, c] [] with
    | .ok _ => (match cl (i / 1000 % 1000) [p, c] [] with
      | .ok (.str y) => if y == ("yes" : Str) then (match cl (i % 1000) [.dict [], .str z, .tuple [p, c]] [] with
        | .ok d => .ok d
        | _ => .bad) else .bad
      | _ => .bad)
    | _ => .bad) else if z.length ≤ 1000 then .ex "BadName" [("name", .str z)] else .bad
def bkD (i : Nat) : List D → R D
  | [.tuple [.str k, .str z, p, c]] => if k == ("keep" : Str) then (match keepD cl i z p c with
    | .ok _ => .ok .none
    | .ex _ _ => .ok (.list [.str "name", .str z])
    | .bad => .bad) else .bad
  | _ => .bad
/-- a claim kept in a new book, then used, by picks that are too few or too many; g: the number of look -/
def useB (i g : Nat) : D → Bool
  | .tuple [.str z, p, c, .str z2, p2, .list xs] => (match keepD cl i z p c with
    | .ok (.dict kvs) => okK (.str z2) kvs && (match findK (.str z2) kvs with
      | some (.tuple [.tuple ks, _]) => (match cl g [p2] [] with | .ok _ => decide (xs.length ≠ ks.length) | _ => false)
      | _ => false)
    | _ => false)
  | _ => false
mutual
/-- v: the value; r: where it is only read, an owned name too; t: its truth -/
def ev (ρ : List Sl) : Md → E → R D
  | m, .var i => (match m with | .v => getV ρ i | _ => getR ρ i).bind m.fin
  | m, .lit d => m.fin d
  | m, .gl _ d => m.fin d
  | m, .bin op a b => (ev ρ .r a).bind fun x => (ev ρ .r b).bind fun y => (binD op x y).bind m.fin
  | m, .neg a => (ev ρ .v a).bind fun x => (negD x).bind m.fin
  | m, .not a => (ev ρ m.sub a).bind fun b => if tok b then .ok (.bool (!truth b)) else .bad
  | m, .bop op es => evB ρ m op es
  | m, .ite c a b => (ev ρ .t c).bind fun t => if truth t then ev ρ m.sub a else ev ρ m.sub b
  | m, .cmp op a b => (ev ρ .r a).bind fun x => (ev ρ .r b).bind fun y => (cmpD op x y).bind fun t => .ok (.bool t)
  | m, .chn o1 o2 a b c => (ev ρ .v a).bind fun x => (ev ρ .v b).bind fun y => (cmpD o1 x y).bind fun t => if t then (ev ρ .v c).bind fun z => (cmpD o2 y z).bind fun u => .ok (.bool u) else .ok (.bool false)
  | m, .tup es => (evs ρ .v es).bind fun ds => m.fin (.tuple ds)
  | m, .lst es => (evs ρ .v es).bind fun ds => m.fin (.list ds)
  | m, .dct kvs => (evDct ρ kvs []).bind m.fin
  | m, .idx a i => (ev ρ .r a).bind fun x => (ev ρ .v i).bind fun y => (idxD x y).bind m.fin
  | m, .slc a lo hi => (ev ρ .r a).bind fun x => (evO ρ lo).bind fun l => (evO ρ hi).bind fun h => (slcD x l h).bind m.fin
  | m, .call f es ks => if lentDict ρ es then .bad else (evs ρ .r es).bind fun ds => (evK ρ ks).bind fun kd => (cutR (lentAny ρ es) (cl f ds kd)).bind m.fin
  | m, .callV i es => (evs ρ .v es).bind fun ds => (bkD cl i ds).bind m.fin
  | _, .fnv _ => .bad
  | m, .pr p es => (evs ρ .r es).bind fun ds => (prD p ds).bind m.fin
  | m, .isi a t => (match a with
    | .var i => isiV ρ[i]? t
    | a => (ev ρ .v a).bind fun d => isiV (some (.fz d)) t)
  | m, .mt q a es => (ev ρ .r a).bind fun x => if mtTy q x then (evs ρ q.md es).bind fun ds => (mtD q x ds).bind m.fin else .bad
  | m, .lc elt t it ifs own => (evI ρ .r it).bind fun ds => (filtD (fun d => match bindT (wipeS (lend ρ) own) t d with
      | some ρ' => (evFs ρ' ifs).bind fun b => if b then (ev ρ' .v elt).bind fun x => .ok (some x) else .ok none
      | none => .bad) ds).bind fun xs => if fits ds.length then m.fin (.list xs) else .bad
  | m, .dc k v t it ifs own => (evI ρ .r it).bind fun ds => (filtD (fun d => match bindT (wipeS (lend ρ) own) t d with
      | some ρ' => (evFs ρ' ifs).bind fun b => if b then (ev ρ' .v k).bind fun x => (ev ρ' .v v).bind fun y => .ok (some (x, y)) else .ok none
      | none => .bad) ds).bind fun ps => (putsD ps []).bind m.fin
  | m, .fld i f => if f = ("rows" : Str) then (match ρ[i]? with | some (.fn _) => m.fin (.dict []) | _ => .bad) else match ρ[i]? with
    | some (.ex _ fs) => (R.of (fs.lookup f)).bind m.fin
    | _ => .bad
def evs (ρ : List Sl) : Md → List E → R (List D)
  | _, [] => .ok []
  | m, e :: r => (ev ρ m e).bind fun x => (evs ρ m r).bind fun xs => .ok (x :: xs)
def evK (ρ : List Sl) : List (Str × E) → R (List (Str × D))
  | [] => .ok []
  | (n, e) :: r => (ev ρ .v e).bind fun x => (evK ρ r).bind fun xs => .ok ((n, x) :: xs)
def evO (ρ : List Sl) : Option E → R (Option Int)
  | none => .ok none
  | some e => (ev ρ .v e).bind intO
def evDct (ρ : List Sl) : List (E × E) → List (D × D) → R D
  | [], acc => .ok (.dict acc)
  | (k, v) :: r, acc => (ev ρ .v k).bind fun x => (ev ρ .v v).bind fun y => if okK x acc && fits (acc.length + 1) then evDct ρ r (putK x y acc) else .bad
/-- and, or: by value, or (t) by truth -/
def evB (ρ : List Sl) : Md → BoolOp → List E → R D
  | _, _, [] => .bad
  | m, op, e :: r => (ev ρ m.sub e).bind fun x => match r with
    | [] => .ok x
    | r => if tok x then (match op with
      | .And => if truth x then evB ρ m op r else .ok x
      | .Or => if truth x then .ok x else evB ρ m op r) else .bad
/-- the tests of a comprehension -/
def evFs (ρ : List Sl) : List E → R Bool
  | [] => .ok true
  | e :: r => (ev ρ .t e).bind fun x => match r with
    | [] => .ok (truth x)
    | _ => .bad
def evI (ρ : List Sl) : Md → I → R (List D)
  | m, .seq e => (ev ρ m e).bind seqL
  | _, .rng es => (evs ρ .v es).bind rangeL
  | m, .enum e => (ev ρ m e).bind fun x => (seq2 x).bind fun xs => .ok (enumL 0 xs)
  | m, .zip a b => (ev ρ m a).bind fun x => (ev ρ m b).bind fun y => zipD x y
  | m, .items e => (ev ρ m e).bind itemsD
end

def R.nox {α : Type} : R α → R α
  | .ok a => .ok a
  | _ => .bad
mutual
def evF (ρ : List Sl) : F → R (D × List Sl)
  | .pure e => (ev cl ρ .v e).bind fun d => .ok (d, ρ)
  | .pop i e => (ev cl ρ .v e).nox.bind fun k => match ρ[i]?, k with
    | some (.ow (.list xs)), .int n => if n.natAbs ≤ line then (match ixOf xs.length n with
      | some j => (match xs[j]? with
        | some x => .ok (x, ρ.set i (.ow (.list (xs.eraseIdx j))))
        | none => .bad)
      | none => .bad) else .bad
    | _, _ => .bad
  | .tup fs => (evFL ρ fs).bind fun p => if fits fs.length then .ok (.tuple p.1, p.2) else .bad
  | .ite c a b => (ev cl ρ .t c).nox.bind fun t => if truth t then (evF ρ a).nox else (evF ρ b).nox
def evFL (ρ : List Sl) : List F → R (List D × List Sl)
  | [] => .ok ([], ρ)
  | f :: r => (evF ρ f).nox.bind fun p => (evFL p.2 r).nox.bind fun q => .ok (p.1 :: q.1, q.2)
end

def isMut : D → Bool
  | .list _ => true
  | .dict _ => true
  | _ => false
def forL (f : List Sl → D → Option Out) : List D → List Sl → Option Out
  | [], ρ => some (.nx ρ)
  | d :: r, ρ => match f ρ d with
    | some (.nx ρ') => forL f r ρ'
    | some (.ct ρ') => forL f r ρ'
    | o => o
def whileL (c : List Sl → R Bool) (f : List Sl → Option Out) : Nat → List Sl → Option Out
  | 0, _ => none
  | n + 1, ρ => lift ρ (c ρ) fun t => if t then (match f ρ with
      | some (.nx ρ') => whileL c f n ρ'
      | some (.ct ρ') => whileL c f n ρ'
      | o => o)
    else some (.nx ρ)
def parT (ρ : List Sl) : List T → List D → Option (List Sl)
  | [], [] => some ρ
  | .nm i :: ts, d :: ds => if i < ρ.length then parT (ρ.set i (.fz d)) ts ds else none
  | _, _ => none
def most : Nat := 1000000000000

def putAt (d k v : D) : Option D := match d with
  | .list xs => (match k with
    | .int n => (match ixOf xs.length n with | some j => some (.list (xs.set j v)) | none => none)
    | _ => none)
  | .dict kvs => if okK k kvs && fits (kvs.length + 1) then some (.dict (putK k v kvs)) else none
  | _ => none
def ofNx : Option (List Sl) → Option Out
  | some ρ => some (.nx ρ)
  | none => none
/-- an owned slot -/
def owned (ρ : List Sl) (i : Nat) (f : D → Option Out) : Option Out := match ρ[i]? with
  | some (.ow d) => f d
  | _ => none
def Sl.unx : Sl → Sl
  | .ex _ _ => .un
  | s => s
def unEx (i : Nat) : Option Out → Option Out
  | some (.nx ρ) => some (.nx ((ρ.map Sl.unx).set i .un))
  | some (.ct ρ) => some (.ct ((ρ.map Sl.unx).set i .un))
  | some (.rt d) => some (.rt d)
  | _ => none
def noEx : Option Out → Option Out
  | some (.nx ρ) => some (.nx (ρ.map Sl.unx))
  | some (.ct ρ) => some (.ct (ρ.map Sl.unx))
  | some (.rt d) => some (.rt d)
  | _ => none

mutual
def evS (ρ : List Sl) : S → Option Out
  | .asg t e => lift ρ (ev cl ρ .v e) fun d => ofNx (bindT ρ t d)
  | .asgN i e f g => (match ρ[i]?, ev cl ρ .v e with
    | some .un, .ok d => if useB cl f g d then some (.ex "BadPicks" [] ρ) else none
    | _, _ => none)
  | .own i e => lift ρ (ev cl ρ .v e) fun d => if isMut d && decide (i < ρ.length) then some (.nx (ρ.set i (.ow d))) else none
  | .asgF i f => lift ρ (evF cl ρ f) fun p => if i < ρ.length then some (.nx (p.2.set i (.fz p.1))) else none
  | .par ts es => lift ρ (evs cl ρ .v es) fun ds => ofNx (parT ρ ts ds)
  | .app i f => if isLent ρ i then lift ρ (evF cl ρ f) fun p => owned p.2 i fun d => match d with
    | .list xs => if xs.length < line then some (.nx (p.2.set i (.ow (.list (xs ++ [p.1]))))) else none
    | _ => none else none
  | .put i k e => lift ρ (ev cl ρ .v e) fun v => owned ρ i fun d => lift ρ (ev cl ρ .v k) fun kd => match putAt d kd v with
    | some d' => some (.nx (ρ.set i (.ow d')))
    | none => none
  | .aug i e => lift ρ (getV ρ i) fun x => lift ρ (ev cl ρ .v e) fun y => match x, y with
    | .int a, .int b => some (.nx (ρ.set i (.fz (.int (a + b)))))
    | _, _ => none
  | .augI i k e => lift ρ (ev cl ρ .v k) fun kd => owned ρ i fun d => lift ρ (idxD d kd) fun x => lift ρ (ev cl ρ .v e) fun y => match x, y with
      | .int a, .int b => (match putAt d kd (.int (a + b)) with
        | some d' => some (.nx (ρ.set i (.ow d')))
        | none => none)
      | _, _ => none
  | .popD i e => lift ρ (ev cl ρ .v e) fun k => owned ρ i fun d => match d with
    | .dict kvs => if okK k kvs && (findK k kvs).isSome then some (.nx (ρ.set i (.ow (.dict (delK k kvs))))) else none
    | _ => none
  | .rem i e => lift ρ (ev cl ρ .v e) fun x => owned ρ i fun d => match d with
    | .list xs => if eqOk x && eqOk (.list xs) then (match remL x xs with
      | some ys => some (.nx (ρ.set i (.ow (.list ys))))
      | none => none) else none
    | _ => none
  | .ext i e => lift ρ (ev cl ρ .r e) fun x => owned ρ i fun d => match d, x with
    | .list xs, .list ys => if xs.length + ys.length ≤ line then some (.nx (ρ.set i (.ow (.list (xs ++ ys))))) else none
    | _, _ => none
  | .put2 i k j l a b => lift ρ (ev cl ρ .v a) fun x => lift ρ (ev cl ρ .v b) fun y => lift ρ (ev cl ρ .v k) fun kd => owned ρ i fun d => match putAt d kd x with
    | some d' => lift ρ (ev cl ρ .v l) fun ld => owned (ρ.set i (.ow d')) j fun d2 => (match putAt d2 ld y with
      | some d3 => some (.nx ((ρ.set i (.ow d')).set j (.ow d3)))
      | none => none)
    | none => none
  | .expr e => lift ρ (ev cl ρ .v e) fun _ => some (.nx ρ)
  | .ret e => lift ρ (ev cl ρ .v e) fun d => some (.rt d)
  | .retN => some (.rt .none)
  | .ifs c a b => lift ρ (ev cl ρ .t c) fun t => if truth t then evSs ρ a else evSs ρ b
  | .forS t it b => lift ρ (evI cl ρ .v it) fun ds => forL (fun ρ d => match bindT ρ t d with
      | some ρ' => evSs ρ' b
      | none => none) ds ρ
  | .whil c b => whileL (fun ρ => (ev cl ρ .t c).bind fun b => .ok (truth b)) (fun ρ => evSs ρ b) most ρ
  | .raise c fs es => lift ρ (evs cl ρ .v es) fun ds => if fs.length = ds.length then some (.ex c (fs.zip ds) ρ) else none
  | .tryS b hs => match evSs ρ b with
    | some (.ex c fs ρ') => evH ρ' c fs hs
    | o => o
  | .pass => some (.nx ρ)
  | .cont => some (.ct ρ)
  | .never => none
  | .frz _ => none
def evSs (ρ : List Sl) : List S → Option Out
  | [] => some (.nx ρ)
  | s :: r => match s with
    | .frz i => (match ρ[i]? with
      | some (.ow d) => evSs (ρ.set i (.fz d)) r
      | some (.fz d) => evSs ρ r
      | _ => none)
    | s => (match evS ρ s with
      | some (.nx ρ') => evSs ρ' r
      | o => o)
def evH (ρ : List Sl) (c : Str) (fs : List (Str × D)) : List (List Str × Option Nat × List S) → Option Out
  | [] => some (.ex c fs ρ)
  | (cs, n, b) :: r => if cs.contains c then (match n with
      | none => noEx (evSs ρ b)
      | some i => if i < ρ.length then unEx i (evSs (ρ.set i (.ex c fs)) b) else none)
    else evH ρ c fs r
end
end

def startS (N : List Str) (vs : List D) : List Sl := vs.map .fz ++ List.replicate (N.length - vs.length) .un
def kwArgs : List (Str × D) → List (Str × D) → List D
  | [], _ => []
  | (n, d) :: r, kd => (match kd.lookup n with | some x => x | none => d) :: kwArgs r kd
def endF : Option Out → R D
  | some (.rt d) => .ok d
  | some (.nx _) => .ok .none
  | some (.ex c fs _) => .ex c fs
  | _ => .bad
/-- a function with all its arguments -/
def runF (cl : Nat → List D → List (Str × D) → R D) (fn : Fn) (ds : List D) : R D :=
  if ds.length = fn.ps.length then endF (evSs cl (startS fn.N ds) fn.body) else .bad
/-- a call, at most so deep -/
def callF (Γ : List Fn) : Nat → Nat → List D → List (Str × D) → R D
  | 0, _, _, _ => .bad
  | n + 1, f, ds, kd => match Γ[f]? with
    | some fn => if kd.all (fun q => (fn.kwd.lookup q.1).isSome) then runF (callF Γ n) fn (ds ++ kwArgs fn.kwd kd) else .bad
    | none => .bad
end Ad
set_option Elab.async false
set_option linter.all false
set_option maxRecDepth 100000
set_option maxHeartbeats 4000000
/-! Data in the heap, frozen and owned. -/
namespace Ad
open PySem PySem.Spec PyProof.Rows L2

abbrev Fr := PySem.W.Frag

/-! ### dicts, raw -/
def dObj (es : List DictEntry) (ep : Nat) : Obj := { cls := .type "dict", data := .dict es.toArray ep }
def dHO (a : Addr) (es : List DictEntry) (ep : Nat) : HO := .ext (fun h => h.get? a = some (dObj es ep))
def DcAt (K : Fr) (H : Hp) (a : Addr) (es : List DictEntry) (ep : Nat) : Prop :=
  (a == sysModules) = false ∧ (H a = some (dHO a es ep) ∨ K.lookup a = some (dObj es ep))

mutual
def nkey : D → NestedKey
  | .int i => .num i
  | .str x => .text x
  | .tuple xs => .tup (nkeys xs)
  | _ => .none
def nkeys : List D → List NestedKey
  | [] => []
  | x :: r => nkey x :: nkeys r
end
def hashD (w : World) : D → Int
  | .int i => hashInt i
  | .str x => hashStr w x
  | d => (nkey d).hash w

/-- a tuple whose object has no dict -/
def SqP (K : Fr) (H : Hp) (a : Addr) (xs : List V) : Prop :=
  (∃ o : Obj, o.dict = none ∧ H a = some (.frz o (.tup xs))) ∨ ∃ (o : Obj) (its : Array Value) (n : Nat), o.dict = none ∧ K.lookup a = some o ∧ o.cls = .type "tuple" ∧ o.data = .seq its n ∧ its.size ≤ sizeLine ∧ Vals xs its.toList
theorem SqP.t {K : Fr} {H : Hp} {a : Addr} {xs : List V} (h : SqP K H a xs) : SqT K H a xs := by
  rcases h with ⟨o, _, h⟩ | ⟨o, its, n, _, h1, h2, h3, h4, h5⟩
  · exact .inl (.inr ⟨o, h⟩)
  · exact .inr ⟨o, its, n, h1, h2, h3, h4, h5⟩
theorem SqP.of {K : Fr} {H : Hp} {a : Addr} {xs : List V} {o : Obj} (d : o.dict = none) (h : H a = some (.frz o (.tup xs))) : SqP K H a xs := .inl ⟨o, d, h⟩

mutual
def Rep (w : World) (K : Fr) (H : Hp) : V → D → Prop
  | v, .none => v = .non
  | v, .bool b => v = .bl b
  | v, .int i => v = .int i
  | v, .str x => v = .str x
  | v, .list ds => ∃ a xs, v = .ref a ∧ SqL K H a xs ∧ RepL w K H xs ds
  | v, .tuple ds => ∃ a xs, v = .ref a ∧ SqP K H a xs ∧ RepL w K H xs ds
  | v, .dict kvs => ∃ a es ep, v = .ref a ∧ DcAt K H a es ep ∧ kvs.length ≤ sizeLine ∧ RepP w K H es kvs
def RepL (w : World) (K : Fr) (H : Hp) : List V → List D → Prop
  | [], [] => True
  | v :: vs, d :: ds => Rep w K H v d ∧ RepL w K H vs ds
  | _, _ => False
def RepP (w : World) (K : Fr) (H : Hp) : List DictEntry → List (D × D) → Prop
  | [], [] => True
  | e :: es, (k, d) :: r => (∃ x, RelV x e.key ∧ Rep w K H x k) ∧ (∃ y, RelV y e.val ∧ Rep w K H y d) ∧ e.hash = hashD w k ∧ (keyed k && r.all fun p => keyF p.1 == keyF k) = true ∧ findK k r = none ∧ RepP w K H es r
  | _, _ => False
end

def Sub (H H' : Hp) : Prop := ∀ a o, H a = some o → H' a = some o
theorem Sub.refl {H : Hp} : Sub H H := fun _ _ h => h
theorem Sub.trans {H H1 H2 : Hp} (a : Sub H H1) (b : Sub H1 H2) : Sub H H2 := fun p o h => b p o (a p o h)
theorem Sub.upd {H : Hp} {p : Addr} {o : HO} (h : H p = none) : Sub H (upd H p o) := fun a u e => by
  rw [upd_ne (ne_of_none e h)]; exact e
theorem SqL.sub {K : Fr} {H H' : Hp} {a : Addr} {xs : List V} (s : Sub H H') (h : SqL K H a xs) : SqL K H' a xs := by
  rcases h with (h | ⟨o, h⟩) | h
  · exact .inl (.inl (s _ _ h))
  · exact .inl (.inr ⟨o, s _ _ h⟩)
  · exact .inr h
theorem SqT.sub {K : Fr} {H H' : Hp} {a : Addr} {xs : List V} (s : Sub H H') (h : SqT K H a xs) : SqT K H' a xs := by
  rcases h with (h | ⟨o, h⟩) | h
  · exact .inl (.inl (s _ _ h))
  · exact .inl (.inr ⟨o, s _ _ h⟩)
  · exact .inr h
theorem SqP.sub {K : Fr} {H H' : Hp} {a : Addr} {xs : List V} (s : Sub H H') (h : SqP K H a xs) : SqP K H' a xs := by
  rcases h with ⟨o, d, h⟩ | h
  · exact .inl ⟨o, d, s _ _ h⟩
  · exact .inr h
theorem DcAt.sub {K : Fr} {H H' : Hp} {a : Addr} {es : List DictEntry} {ep : Nat} (s : Sub H H') (h : DcAt K H a es ep) : DcAt K H' a es ep :=
  ⟨h.1, h.2.imp (fun h => s _ _ h) id⟩

section
variable {w : World} {K : Fr} {H H' : Hp}
mutual
theorem Rep.sub (s : Sub H H') : ∀ (d : D) (v : V), Rep w K H v d → Rep w K H' v d
  | .none, _, h => by simpa only [Rep] using h
  | .bool b, _, h => by simpa only [Rep] using h
  | .int i, _, h => by simpa only [Rep] using h
  | .str x, _, h => by simpa only [Rep] using h
  | .list ds, v, h => by
    simp only [Rep] at h ⊢
    obtain ⟨a, xs, e, q, r⟩ := h
    exact ⟨a, xs, e, SqL.sub s q, RepL.sub s ds xs r⟩
  | .tuple ds, v, h => by
    simp only [Rep] at h ⊢
    obtain ⟨a, xs, e, q, r⟩ := h
    exact ⟨a, xs, e, SqP.sub s q, RepL.sub s ds xs r⟩
  | .dict kvs, v, h => by
    simp only [Rep] at h ⊢
    obtain ⟨a, es, ep, e, q, z, r⟩ := h
    exact ⟨a, es, ep, e, q.sub s, z, RepP.sub s kvs es r⟩
theorem RepL.sub (s : Sub H H') : ∀ (ds : List D) (vs : List V), RepL w K H vs ds → RepL w K H' vs ds
  | [], [], _ => by simp only [RepL]
  | [], _ :: _, h => by simp only [RepL] at h
  | _ :: _, [], h => by simp only [RepL] at h
  | d :: ds, v :: vs, h => by
    simp only [RepL] at h ⊢
    exact ⟨Rep.sub s d v h.1, RepL.sub s ds vs h.2⟩
theorem RepP.sub (s : Sub H H') : ∀ (kvs : List (D × D)) (es : List DictEntry), RepP w K H es kvs → RepP w K H' es kvs
  | [], [], _ => by simp only [RepP]
  | [], _ :: _, h => by simp only [RepP] at h
  | _ :: _, [], h => by simp only [RepP] at h
  | (k, d) :: r, e :: es, h => by
    simp only [RepP] at h ⊢
    obtain ⟨⟨x, h1, h2⟩, ⟨y, h3, h4⟩, h5, h6, h7, h8⟩ := h
    exact ⟨⟨x, h1, Rep.sub s k x h2⟩, ⟨y, h3, Rep.sub s d y h4⟩, h5, h6, h7, RepP.sub s r es h8⟩
end
theorem RepL.length : ∀ {ds : List D} {vs : List V}, RepL w K H vs ds → vs.length = ds.length
  | [], [], _ => rfl
  | [], _ :: _, h => by simp only [RepL] at h
  | _ :: _, [], h => by simp only [RepL] at h
  | d :: ds, v :: vs, h => by
    simp only [RepL] at h
    simp [RepL.length h.2]
theorem RepP.length : ∀ {kvs : List (D × D)} {es : List DictEntry}, RepP w K H es kvs → es.length = kvs.length
  | [], [], _ => rfl
  | [], _ :: _, h => by simp only [RepP] at h
  | _ :: _, [], h => by simp only [RepP] at h
  | (k, d) :: r, e :: es, h => by
    simp only [RepP] at h
    simp [RepP.length h.2.2.2.2.2]
theorem RepL.get : ∀ {ds : List D} {vs : List V} {i : Nat} {d : D}, RepL w K H vs ds → ds[i]? = some d → ∃ v, vs[i]? = some v ∧ Rep w K H v d
  | [], _, _, _, _, e => by simp at e
  | _ :: _, [], _, _, h, _ => by simp only [RepL] at h
  | d :: ds, v :: vs, 0, d', h, e => by
    simp only [RepL] at h
    simp at e; subst e
    exact ⟨v, rfl, h.1⟩
  | d :: ds, v :: vs, i + 1, d', h, e => by
    simp only [RepL] at h
    obtain ⟨u, h1, h2⟩ := RepL.get (i := i) (d := d') h.2 (by simpa using e)
    exact ⟨u, by simpa using h1, h2⟩
theorem RepL.append : ∀ {ds es : List D} {vs us : List V}, RepL w K H vs ds → RepL w K H us es → RepL w K H (vs ++ us) (ds ++ es)
  | [], _, [], _, _, h => h
  | [], _, _ :: _, _, h, _ => by simp only [RepL] at h
  | _ :: _, _, [], _, h, _ => by simp only [RepL] at h
  | d :: ds, es, v :: vs, us, h, h' => by
    simp only [RepL] at h
    simp only [List.cons_append, RepL]
    exact ⟨h.1, RepL.append h.2 h'⟩
theorem RepL.take : ∀ {ds : List D} {vs : List V} (n : Nat), RepL w K H vs ds → RepL w K H (vs.take n) (ds.take n)
  | [], [], n, h => by simpa using h
  | [], _ :: _, _, h => by simp only [RepL] at h
  | _ :: _, [], _, h => by simp only [RepL] at h
  | d :: ds, v :: vs, 0, _ => by simp only [List.take_zero, RepL]
  | d :: ds, v :: vs, n + 1, h => by
    simp only [RepL] at h
    simp only [List.take_succ_cons, RepL]
    exact ⟨h.1, RepL.take n h.2⟩
theorem RepL.drop : ∀ {ds : List D} {vs : List V} (n : Nat), RepL w K H vs ds → RepL w K H (vs.drop n) (ds.drop n)
  | [], [], n, h => by simpa using h
  | [], _ :: _, _, h => by simp only [RepL] at h
  | _ :: _, [], _, h => by simp only [RepL] at h
  | d :: ds, v :: vs, 0, h => h
  | d :: ds, v :: vs, n + 1, h => by
    simp only [RepL] at h
    simp only [List.drop_succ_cons]
    exact RepL.drop n h.2
theorem RepL.set : ∀ {ds : List D} {vs : List V} (n : Nat) {v : V} {d : D}, RepL w K H vs ds → Rep w K H v d → RepL w K H (vs.set n v) (ds.set n d)
  | [], [], n, _, _, h, _ => by simp only [List.set_nil, RepL]
  | [], _ :: _, _, _, _, h, _ => by simp only [RepL] at h
  | _ :: _, [], _, _, _, h, _ => by simp only [RepL] at h
  | d :: ds, v :: vs, 0, _, _, h, h' => by
    simp only [RepL] at h
    simp only [List.set_cons_zero, RepL]
    exact ⟨h', h.2⟩
  | d :: ds, v :: vs, n + 1, _, _, h, h' => by
    simp only [RepL] at h
    simp only [List.set_cons_succ, RepL]
    exact ⟨h.1, RepL.set n h.2 h'⟩
theorem RepL.erase : ∀ {ds : List D} {vs : List V} (n : Nat), RepL w K H vs ds → RepL w K H (vs.eraseIdx n) (ds.eraseIdx n)
  | [], [], n, h => by simpa using h
  | [], _ :: _, _, h => by simp only [RepL] at h
  | _ :: _, [], _, h => by simp only [RepL] at h
  | d :: ds, v :: vs, 0, h => by
    simp only [RepL] at h
    simpa using h.2
  | d :: ds, v :: vs, n + 1, h => by
    simp only [RepL] at h
    simp only [List.eraseIdx_cons_succ, RepL]
    exact ⟨h.1, RepL.erase n h.2⟩
end

/-! ### frozen and owned -/
/-- a step that changes nothing that stood -/
structure Ext (F H F' H' : Hp) : Prop where
  sub : Sub H H'
  subF : Sub F F'
  inn : Sub F' H'
  grow : ∀ a, F' a ≠ none → F a ≠ none ∨ H a = none
theorem Ext.refl {F H : Hp} (s : Sub F H) : Ext F H F H := ⟨.refl, .refl, s, fun _ h => .inl h⟩
theorem Ext.trans {F H F1 H1 F2 H2 : Hp} (a : Ext F H F1 H1) (b : Ext F1 H1 F2 H2) : Ext F H F2 H2 where
  sub := a.sub.trans b.sub
  subF := a.subF.trans b.subF
  inn := b.inn
  grow := fun p h => by
    rcases b.grow p h with h | h
    · exact a.grow p h
    · right
      cases e : H p with
      | none => rfl
      | some o => rw [a.sub p o e] at h; cases h
/-- a new frozen object -/
theorem Ext.new {F H : Hp} {p : Addr} {o : HO} (s : Sub F H) (h : H p = none) : Ext F H (upd F p o) (upd H p o) where
  sub := Sub.upd h
  subF := fun a u e => by
    have : a ≠ p := fun z => by subst z; rw [s _ _ e] at h; cases h
    rw [upd_ne this]; exact e
  inn := fun a u e => by
    by_cases z : a = p
    · subst z; rw [upd_same] at e ⊢; exact e
    · rw [upd_ne z] at e ⊢; exact s _ _ e
  grow := fun a e => by
    by_cases z : a = p
    · subst z; exact .inr h
    · rw [upd_ne z] at e; exact .inl e
/-- a new object that is not frozen -/
theorem Ext.newO {F H : Hp} {p : Addr} {o : HO} (s : Sub F H) (h : H p = none) : Ext F H F (upd H p o) where
  sub := Sub.upd h
  subF := .refl
  inn := s.trans (Sub.upd h)
  grow := fun a e => .inl e

/-- an owned list or dict at p: its items are frozen -/
def Own (w : World) (K : Fr) (F H : Hp) (p : Addr) : D → Prop
  | .list ds => ∃ xs, H p = some (.lst xs) ∧ RepL w K F xs ds
  | .dict kvs => (p == sysModules) = false ∧ kvs.length ≤ sizeLine ∧ ∃ es ep, H p = some (dHO p es ep) ∧ RepP w K F es kvs
  | _ => False
/-- what may be read -/
def RepR (w : World) (K : Fr) (F H : Hp) (v : V) (d : D) : Prop := Rep w K F v d ∨ ∃ p, v = .ref p ∧ Own w K F H p d

/-- the entry: frozen, all -/
structure Zt where
  F : Hp
  H : Hp
def XFs (w : World) (K : Fr) (F : Hp) : List (Str × V) → List (Str × D) → Prop
  | [], [] => True
  | (f, v) :: r, (g, d) :: s => f = g ∧ Rep w K F v d ∧ XFs w K F r s
  | _, _ => False
/-- an exception's own dict -/
def XD (w : World) (K : Fr) (F : Hp) : Option Addr → List (Str × D) → Prop
  | none, fs => fs = []
  | some dx, fs => ∃ vs, F dx = some (.xd vs) ∧ XFs w K F vs fs
/-- Z: the entry; fn: where the functions stand; cls: where the classes stand; exc: the exception that is handled: its object, its class, its dict -/
structure Pm where
  Z : Zt
  fn : Nat → Option Addr
  cls : Str → Option Addr
  exc : Option (Addr × Addr × Option Addr)

/-- an object of an own class, whose rows are an empty dict -/
def BkS (w : World) (K : Fr) (F H : Hp) (p : Addr) : Prop := ∃ C dx fs r, H p = some (.ins C dx fs) ∧ Cls K C ∧ NoAttr K C "rows" ∧ fs.lookup ("rows" : Str) = some r ∧ Rep w K F r (.dict [])
theorem BkS.sub {w : World} {K : Fr} {F H F' H' : Hp} {p : Addr} (h : BkS w K F H p) (sF : Sub F F') (sH : ∀ o, H p = some o → H' p = some o) : BkS w K F' H' p := by
  obtain ⟨C, dx, fs, r, h1, h2, h3, h4, h5⟩ := h
  exact ⟨C, dx, fs, r, sH _ h1, h2, h3, h4, Rep.sub sF _ _ h5⟩
def SlOk (w : World) (K : Fr) (M : Pm) (F H : Hp) (o : Option (Option V)) : Sl → Prop
  | .un => True
  | .fz d => ∃ v, o = some (some v) ∧ Rep w K F v d
  | .ow d => ∃ p, o = some (some (.ref p)) ∧ F p = none ∧ M.Z.H p = none ∧ Own w K F H p d
  | .ln d => ∃ p, o = some (some (.ref p)) ∧ F p = none ∧ Own w K F H p d
  | .fn f => ∃ p, o = some (some (.ref p)) ∧ M.fn f = some p ∧ BkS w K F H p
  | .ex c fs => ∃ a C dA, M.exc = some (a, C, dA) ∧ o = some (some (.ref a)) ∧ M.cls c = some C ∧ XD w K F dA fs
def Sl.held : Sl → Bool
  | .ow _ => true
  | .ln _ => true
  | _ => false
structure Ok (w : World) (K : Fr) (M : Pm) (F H : Hp) (σ : L2.St) (ρ : List Sl) : Prop where
  sub : Sub F H
  base : Sub M.Z.H H
  baseF : Sub M.Z.F F
  grow : ∀ a, F a ≠ none → M.Z.F a ≠ none ∨ M.Z.H a = none
  len : ρ.length = σ.length
  slot : ∀ (i : Nat) (s : Sl), ρ[i]? = some s → SlOk w K M F H σ[i]? s
  sep : ∀ (i j : Nat) (s t : Sl) (p q : Addr), i ≠ j → ρ[i]? = some s → ρ[j]? = some t → s.held = true → t.held = true → σ[i]? = some (some (.ref p)) → σ[j]? = some (some (.ref q)) → p ≠ q

section
variable {w : World} {K : Fr} {F H F' H' : Hp}
theorem Own.ext {p : Addr} {d : D} (x : Ext F H F' H') (h : Own w K F H p d) : Own w K F' H' p d := by
  cases d with
  | list ds => obtain ⟨xs, h1, h2⟩ := h; exact ⟨xs, x.sub _ _ h1, RepL.sub x.subF _ _ h2⟩
  | dict kvs => obtain ⟨z, z2, es, ep, h1, h2⟩ := h; exact ⟨z, z2, es, ep, x.sub _ _ h1, RepP.sub x.subF _ _ h2⟩
  | _ => exact h.elim
theorem Own.there {p : Addr} {d : D} (h : Own w K F H p d) : H p ≠ none := by
  cases d with
  | list ds => obtain ⟨xs, h1, h2⟩ := h; rw [h1]; intro z; cases z
  | dict kvs => obtain ⟨z, z2, es, ep, h1, h2⟩ := h; rw [h1]; intro z; cases z
  | _ => exact h.elim
theorem RepR.ext {v : V} {d : D} (x : Ext F H F' H') (h : RepR w K F H v d) : RepR w K F' H' v d :=
  h.imp (Rep.sub x.subF _ _) fun ⟨p, e, o⟩ => ⟨p, e, o.ext x⟩
theorem Ext.stays {p : Addr} (x : Ext F H F' H') (h : F p = none) (h' : H p ≠ none) : F' p = none := by
  cases e : F' p with
  | none => rfl
  | some o =>
    rcases x.grow p (by rw [e]; intro z; cases z) with z | z
    · exact absurd h z
    · exact absurd z h'
end
section
variable {w : World} {K : Fr} {F H F' H' : Hp}
theorem XFs.sub (s : Sub F F') : ∀ {vs : List (Str × V)} {fs : List (Str × D)}, XFs w K F vs fs → XFs w K F' vs fs
  | [], [], _ => trivial
  | [], _ :: _, h => h.elim
  | _ :: _, [], h => h.elim
  | (f, v) :: r, (g, d) :: t, h => ⟨h.1, Rep.sub s _ _ h.2.1, XFs.sub s h.2.2⟩
theorem XD.sub (s : Sub F F') {dA : Option Addr} {fs : List (Str × D)} (h : XD w K F dA fs) : XD w K F' dA fs := by
  cases dA with
  | none => exact h
  | some dx => obtain ⟨vs, h1, h2⟩ := h; exact ⟨vs, s _ _ h1, h2.sub s⟩
theorem Ok.ext {M : Pm} {σ : L2.St} {ρ : List Sl} (k : Ok w K M F H σ ρ) (x : Ext F H F' H') : Ok w K M F' H' σ ρ where
  sub := x.inn
  base := k.base.trans x.sub
  baseF := k.baseF.trans x.subF
  grow := fun a h => by
    rcases x.grow a h with h | h
    · exact k.grow a h
    · right
      cases e : M.Z.H a with
      | none => rfl
      | some o => rw [k.base a o e] at h; cases h
  len := k.len
  slot := fun i s e => by
    have q := k.slot i s e
    cases s with
    | un => trivial
    | fz d => obtain ⟨v, h1, h2⟩ := q; exact ⟨v, h1, Rep.sub x.subF _ _ h2⟩
    | ow d => obtain ⟨p, h1, h2, h3, h4⟩ := q; exact ⟨p, h1, x.stays h2 h4.there, h3, h4.ext x⟩
    | ln d => obtain ⟨p, h1, h2, h4⟩ := q; exact ⟨p, h1, x.stays h2 h4.there, h4.ext x⟩
    | fn f => obtain ⟨p, h1, h2, h3⟩ := q; exact ⟨p, h1, h2, h3.sub x.subF fun o e => x.sub _ _ e⟩
    | ex c fs => obtain ⟨a, C, dA, h1, h2, h3, h4⟩ := q; exact ⟨a, C, dA, h1, h2, h3, h4.sub x.subF⟩
  sep := k.sep
end

/-! ### what is wanted behind a piece -/
def After (w : World) (K : Fr) (M : Pm) (W : WX) (σ : L2.St) (F H : Hp) {α : Type} (r : R α) (P : α → Hp → Hp → Prop) : Prop := match r with
  | .ok a => ∀ F' H', Ext F H F' H' → P a F' H'
  | .ex c fs => ∀ F' H' C dA, Ext F H F' H' → M.cls c = some C → XD w K F' dA fs → W (.ref C) dA σ H'
  | .bad => False
section
variable {w : World} {K : Fr} {M : Pm} {W : WX} {σ : L2.St} {F H F' H' : Hp} {α β : Type}
theorem After.ext {r : R α} {P : α → Hp → Hp → Prop} (h : After w K M W σ F H r P) (x : Ext F H F' H') : After w K M W σ F' H' r P := by
  cases r with
  | ok a => exact fun F2 H2 y => h F2 H2 (x.trans y)
  | ex c fs => exact fun F2 H2 C dA y => h F2 H2 C dA (x.trans y)
  | bad => exact h
theorem After.bind {r : R α} {f : α → R β} {P : β → Hp → Hp → Prop} (h : After w K M W σ F H (r.bind f) P) : After w K M W σ F H r fun a F' H' => After w K M W σ F' H' (f a) P := by
  cases r with
  | ok a => exact fun F2 H2 y => After.ext (r := f a) h y
  | ex c fs => exact h
  | bad => exact h
theorem After.imp {r : R α} {P P' : α → Hp → Hp → Prop} (h : After w K M W σ F H r P) (i : ∀ a F' H', Ext F H F' H' → P a F' H' → P' a F' H') : After w K M W σ F H r P' := by
  cases r with
  | ok a => exact fun F2 H2 y => i a F2 H2 y (h F2 H2 y)
  | ex c fs => exact h
  | bad => exact h
theorem After.ok {a : α} {P : α → Hp → Hp → Prop} (h : After w K M W σ F H (.ok a) P) (s : Sub F H) : P a F H := h F H (.refl s)
end
/-- an operation by values: its result is frozen -/
def Res (w : World) (K : Fr) (F H : Hp) (r : R D) (Q : VK) : Prop := match r with
  | .ok d => ∀ v F' H', Ext F H F' H' → Rep w K F' v d → Q v H'
  | _ => False
/-- .. a new list or dict, not frozen yet -/
def ResO (w : World) (K : Fr) (F H : Hp) (r : R D) (Q : VK) : Prop := match r with
  | .ok d => ∀ p F' H', Ext F H F' H' → H p = none → F' p = none → Own w K F' H' p d → Q (.ref p) H'
  | _ => False
theorem ext_freeze {F H F' H' : Hp} {p : Addr} {o : HO} (x : Ext F H F' H') (h0 : H p = none) (h2 : H' p = some o) : Ext F H (upd F' p o) H' := by
  refine ⟨x.sub, fun a u e => ?_, fun a u e => ?_, fun a e => ?_⟩
  · by_cases z : a = p
    · subst z
      have := x.inn _ _ (x.subF _ _ e)
      rw [h2] at this; cases this
      rw [upd_same]
    · rw [upd_ne z]; exact x.subF _ _ e
  · by_cases z : a = p
    · subst z; rw [upd_same] at e; cases e; exact h2
    · rw [upd_ne z] at e; exact x.inn _ _ e
  · by_cases z : a = p
    · subst z; exact .inr h0
    · rw [upd_ne z] at e; exact x.grow _ e
theorem sub_upd_of {F : Hp} {p : Addr} {o : HO} (h : F p = none) : Sub F (upd F p o) := Sub.upd h
theorem Res.own {w : World} {K : Fr} {F H : Hp} {r : R D} {Q : VK} (h : Res w K F H r Q) : ResO w K F H r Q := by
  cases r with
  | ok d =>
    intro p F' H' x h0 hf o
    cases d with
    | list ds =>
      obtain ⟨xs, h1, h2⟩ := o
      refine h (.ref p) _ H' (ext_freeze x h0 h1) ?_
      simp only [Rep]
      exact ⟨p, xs, rfl, SqL.of upd_same, RepL.sub (Sub.upd hf) _ _ h2⟩
    | dict kvs =>
      obtain ⟨z, z2, es, ep, h1, h2⟩ := o
      refine h (.ref p) _ H' (ext_freeze x h0 h1) ?_
      simp only [Rep]
      exact ⟨p, es, ep, rfl, ⟨z, .inl upd_same⟩, z2, RepP.sub (Sub.upd hf) _ _ h2⟩
    | _ => exact o.elim
  | _ => exact h
end Ad
set_option Elab.async false
set_option linter.all false
set_option maxRecDepth 100000
set_option maxHeartbeats 4000000
/-! Tuples whose object is known to have no dict: where they come from. -/
namespace Ad
open PySem PySem.Spec PyProof.Rows L2
section
variable {X : Cx} {pins : List (Addr × Obj)} {σ : L2.St} {H : Hp} {s : Shared}
def tob (us : List Value) : Obj := { cls := .type "tuple", data := .seq us.toArray }
/-- a new tuple -/
def NewT (H : Hp) (Q : VK) (xs : List V) : Prop := ∀ p o, H p = none → o.dict = none → Q (.ref p) (upd H p (.frz o (.tup xs)))
theorem newT (I : Inv X pins σ H s) {Q : VK} {xs : List V} {us : List Value} (q : NewT H Q xs) (r : Vals xs us) (z : xs.length ≤ sizeLine) : EP X pins σ Q (.ref s.heap.objs.size) { s with heap := s.heap.push (tob us) } := by
  refine ⟨.ref s.heap.objs.size, upd H s.heap.objs.size (.frz (tob us) (.tup xs)), ?_, rfl, q _ _ (I.hok.fresh (Nat.le_refl _)) rfl⟩
  refine I.laid (t' := s.toks) (fun b ob h => Heap.get?_push_of_some _ h) (Nat.le_refl _) ?_
  exact ⟨Heap.get?_push_size _ rfl, z, us, r, ⟨_, Heap.get?_push_size _ rfl, rfl, _, rfl⟩⟩
theorem op_catP : OpR X (binaryOp .Add) (fun x y H Q => ∃ a b xs ys, x = .ref a ∧ y = .ref b ∧ SqT X.K H a xs ∧ SqT X.K H b ys ∧ xs.length + ys.length ≤ sizeLine ∧
    (xs = [] → Q (.ref b) H) ∧ (xs ≠ [] → ys = [] → Q (.ref a) H) ∧ (xs ≠ [] → ys ≠ [] → NewT H Q (xs ++ ys))) := by
  intro pins s σ H x y v u Q I rx ry ⟨a, b, xs, ys, ex, ey, ha, hb, hz, q0, q1, q2⟩
  by_cases hx : xs = []
  · subst hx
    exact op_catA pins s σ H x y v u Q I rx ry ⟨a, b, [], ys, ex, ey, ha, hb, hz, q0, fun z => absurd rfl z, fun z => absurd rfl z⟩
  · by_cases hy : ys = []
    · subst hy
      exact op_catA pins s σ H x y v u Q I rx ry ⟨a, b, xs, [], ex, ey, ha, hb, hz, q0, q1, fun _ z => absurd rfl z⟩
    · subst ex ey
      cases rx
      cases ry
      obtain ⟨us, r1, p1, _⟩ := I.tuple ha
      obtain ⟨ws, r2, p2, _⟩ := I.tuple hb
      refine HT.cat_tup p1 p2 (fun z => hx (r1.nil_iff.mp z)) (fun z => absurd (r2.nil_iff.mp z) hy) (fun _ => ?_) (by rw [← r1.length, ← r2.length]; exact hz)
      exact newT I (q2 hx hy) (r1.append r2) (by rw [List.length_append]; exact hz)
theorem sl_tupP : SlR X (fun x lo hi H Q => ∃ a xs, x = .ref a ∧ SqT X.K H a xs ∧
    (HT.sIx xs.length 0 lo = 0 ∧ HT.sIx xs.length xs.length hi = xs.length → Q (.ref a) H) ∧ (¬ (HT.sIx xs.length 0 lo = 0 ∧ HT.sIx xs.length xs.length hi = xs.length) → NewT H Q (cutV xs lo hi))) := by
  intro pins s σ H x v vl vu lo hi sl Q I rx hs pl pu ⟨a, xs, ex, hx, q1, q2⟩
  by_cases hw : HT.sIx xs.length 0 lo = 0 ∧ HT.sIx xs.length xs.length hi = xs.length
  · exact sl_tupA pins s σ H x v vl vu lo hi sl Q I rx hs pl pu ⟨a, xs, ex, hx, q1, fun z => absurd hw z⟩
  · subst ex
    cases rx
    obtain ⟨us, r, ht, hz⟩ := I.tuple hx
    have hl : us.toArray.size = xs.length := by rw [List.size_toArray]; exact r.length.symm
    refine ⟨"tuple", _, PyProof.Rows.slot_tuple_getitem.lookup, ht.typeIs, HT.getItem_tuple_cut ht hs pl pu (by rw [hl]; exact hw) ?_ (by rw [hl]; exact hz)⟩
    rw [hl]
    exact newT I (q2 hw) ((r.drop _).take _) (Nat.le_trans (cutV_length xs lo hi) hz)
theorem call_tupP : CallR X (.type "tuple") (fun xs H Q => ∃ p ys, xs = [.ref p] ∧ ((SqL X.K H p ys ∧ NewT H Q ys) ∨ (SqT X.K H p ys ∧ Q (.ref p) H))) := by
  intro pins s σ H xs us Q I r ⟨p, ys, ex, h⟩
  rcases h with ⟨hq, q⟩ | h
  · subst ex
    obtain ⟨u, rfl, rx⟩ := vals1 r
    cases rx
    obtain ⟨ws, r', pl, hz⟩ := I.list hq
    have hl := r'.length
    refine call_tuple_list pl.isList (fun h' kp => ?_) (by simp only [List.size_toArray] <;> omega)
    exact newT (I.kept (t' := s.toks) kp) q r' hz
  · exact call_tuple_of pins s σ H xs us Q I r ⟨p, ys, ex, .inr h⟩
theorem pe_tupP {es : List Expr} {t : TA} {k : Nat} {pos : Pos} (h : PA X es t) : PE X (.Tuple es k pos) (fun σ H Q => t σ H fun xs H1 => xs.length ≤ sizeLine ∧ NewT H1 Q xs) := by
  refine ⟨fun pins s σ H Q I hq => ?_⟩
  refine wpAny_Tuple_spliced (thn (h.run pos pins s σ H _ I hq) fun us s1 ⟨xs, H1, I1, r, z, q⟩ => ⟨by rw [← r.length]; exact z, ?_⟩)
  exact newT I1 q r z
theorem op_repP : OpR X (binaryOp .Mult) (fun x y H Q => ∃ l k xs, x = .ref l ∧ y = .int k ∧ SqT X.K H l xs ∧ xs ≠ [] ∧ 2 ≤ k ∧ k ≤ 1000 ∧ xs.length ≤ 1000 ∧ NewT H Q (List.replicate k.toNat xs).flatten) := by
  intro pins s σ H x y v u Q I rx ry ⟨l, k, xs, ex, ey, hT, hne, k1, k2, hz, q⟩
  subst ex ey
  cases rx
  obtain ⟨t, rfl⟩ := ry
  obtain ⟨us, r, ⟨⟨cls, dd, data, sl⟩, ho, hc, n, hd⟩, hs⟩ := I.tuple hT
  simp only at hc hd
  subst hc hd
  have hle : us.length = xs.length := r.length.symm
  have hi : us.toArray.isEmpty = false := by
    cases us with
    | nil => exact absurd (List.eq_nil_of_length_eq_zero hle.symm) hne
    | cons a b => rfl
  have big : k.toNat * xs.length ≤ 1000 * 1000 := Nat.mul_le_mul (by omega) hz
  have prod : ((us.toArray.size : Nat) : Int) * k ≤ 1000000 := by
    have e : ((us.toArray.size : Nat) : Int) * k = ((k.toNat * xs.length : Nat) : Int) := by
      rw [List.size_toArray, hle, Int.natCast_mul, Int.toNat_of_nonneg (by omega), Int.mul_comm]
    rw [e]; omega
  have flen : (List.replicate k.toNat us).flatten.length ≤ sizeLine := by
    rw [PyProof.Rows.lm_len_rep_flat, hle, sizeLine_eq]; omega
  have c0 : (decide (k < -(2 ^ 63)) || decide (k ≥ 2 ^ 63)) = false := by rw [decide_eq_false (by omega), decide_eq_false (by omega), Bool.or_false]
  have c1 : (us.toArray.isEmpty || k == 1) = false := by rw [hi, Bool.false_or]; exact beq_eq_false_iff_ne.mpr (by omega)
  have c2 : (decide (k ≤ 0) || us.toArray.isEmpty) = false := by rw [hi, Bool.or_false]; exact decide_eq_false (by omega)
  have c4 : Builtin.Tuple.tupleTooMany (((us.toArray.size : Nat) : Int) * k) = false := by
    unfold Builtin.Tuple.tupleTooMany
    rw [sizeLine_eq]; exact decide_eq_false (by omega)
  refine wpAny_binaryOp_repeat_ref (T := "tuple") (U := "int") (by decide) ⟨_, ho, rfl⟩ (fun s' => typeIs_int s' k t) noFill_tuple_mul F.fills_int_mul F.slot_int_rmul repeat_tuple F.slot_int_index.lookup (call_meets F.slot_int_rmul (typeIs_int s k t) F.entry_int_rmul (F.args_int_rmul_2 _ _) (int_rmul_tuple k t l us.toArray n dd sl) ⟨ho, rfl, ⟨_, ho, rfl⟩, call_meets F.slot_tuple_mul ⟨_, ho, rfl⟩ F.entry_tuple_mul (F.args_tuple_mul_2 _ _) (tuple_mulW l us.toArray n dd sl k t c0 c1 c2 (by omega) c4 (by rw [size_rep, List.size_toArray]; exact flen)) ⟨ho, ?_⟩⟩)
  rw [size_rep]
  exact newT I q (r.rep k.toNat) (by rw [PyProof.Rows.lm_len_rep_flat, sizeLine_eq]; omega)
end
end Ad
set_option Elab.async false
set_option linter.all false
set_option maxRecDepth 100000
set_option maxHeartbeats 4000000
/-! A tuple once: itself. -/
namespace Ad
open PySem PySem.Spec PyProof.Rows L2
theorem tuple_mul1 (l : Addr) (items : Array Value) (n : Nat) (dd : Option Addr) (sl : Array (Option Value)) (u : Tok) :
    Meets (Builtin.«tuple.__mul__» ⟨[.ref l, .int 1 u], []⟩) (fun _ R s => s.heap.get? l = some { cls := .type "tuple", dict := dd, data := .seq items n, slots := sl } ∧ R (.ok (.ret (Value.ref l))) s) :=
  .of_wp fun prog w A R s h => by
    obtain ⟨hp, g, d, tk, os⟩ := s
    obtain ⟨hl, h⟩ := h
    have f1 := AutoSeq1.idx_int
    have c0 : (decide ((1 : Int) < -(2 ^ 63)) || decide ((1 : Int) ≥ 2 ^ 63)) = false := by decide
    have c1 : (items.isEmpty || (1 : Int) == 1) = true := by simp
    wp_walk using wpAny_loadPart' hl
    repeat (first
      | (refine wpAny_ite_false (decide_eq_false (by rw [c0]; exact Bool.false_ne_true)) ?_; wp_walk using wpAny_loadPart' hl)
      | (refine wpAny_ite_true (decide_eq_true c1) ?_; wp_walk using wpAny_loadPart' hl))
    exact ⟨_, rfl, h⟩
section
variable {X : Cx}
theorem op_rep1P : OpR X (binaryOp .Mult) (fun x y H Q => ∃ l xs, x = .ref l ∧ y = .int 1 ∧ SqT X.K H l xs ∧ Q (.ref l) H) := by
  intro pins s σ H x y v u Q I rx ry ⟨l, xs, ex, ey, hT, q⟩
  subst ex ey
  cases rx
  obtain ⟨t, rfl⟩ := ry
  obtain ⟨us, r, ⟨⟨cls, dd, data, sl⟩, ho, hc, n, hd⟩, hs⟩ := I.tuple hT
  simp only at hc hd
  subst hc hd
  refine wpAny_binaryOp_repeat_ref (T := "tuple") (U := "int") (by decide) ⟨_, ho, rfl⟩ (fun s' => typeIs_int s' 1 t) noFill_tuple_mul F.fills_int_mul F.slot_int_rmul repeat_tuple F.slot_int_index.lookup (call_meets F.slot_int_rmul (typeIs_int s 1 t) F.entry_int_rmul (F.args_int_rmul_2 _ _) (int_rmul_tuple 1 t l us.toArray n dd sl) ⟨ho, rfl, ⟨_, ho, rfl⟩, call_meets F.slot_tuple_mul ⟨_, ho, rfl⟩ F.entry_tuple_mul (F.args_tuple_mul_2 _ _) (tuple_mul1 l us.toArray n dd sl t) ⟨ho, ?_⟩⟩)
  exact ⟨.ref l, H, I, rfl, q⟩
end
end Ad
set_option Elab.async false
set_option linter.all false
set_option maxRecDepth 100000
set_option maxHeartbeats 4000000
/-! isinstance of the exception that is handled, with or without a dict of its own. -/
namespace Ad
open PySem PySem.Spec PySem.Calls PyProof.Rows L2
section
variable {K : Fr} {D x : Addr} {ox : Obj}
def Inst (x : Addr) (ox : Obj) (D : Addr) (h : Heap) : Prop := ∃ od, PySem.W.InstAt h x ox D od
theorem findX {od : Option Obj} (C : ExcC K D) : PySem.W.findObj K D od "__class__" = some (.bind (.builtin "getset_descriptor.__get__") (.builtin "object.__class__")) := by
  obtain ⟨cd, hc, _⟩ := PySem.W.any_some C.hd
  unfold PySem.W.findObj
  rw [hc, Option.bind_some, C.ha, Option.bind_some]
  simp [C.hn, C.ht]
theorem ga_class {prog : Program} {w : World} {A : Around} {E : Value → Shared → Prop} {Q : Option Value → Shared → Prop} {s : Shared} (C : ExcC K D) (X : K.In s.heap) (J : Inst x ox D s.heap) (h : Q (some (.ref D)) { s with toks := s.toks + 1 }) :
    wpAny (model prog w) A (getAttr? (.ref x) "__class__") Q E s := by
  obtain ⟨od, I⟩ := J
  obtain ⟨hp, g, d, t, os⟩ := s
  have a0 := I.type (M := model prog w)
  have a1 := PySem.W.looks_findIn (M := model prog w) X C.hg
  have a2 := PySem.W.looks_findIn (M := model prog w) X C.hk
  have a3 := PySem.W.looks_find (M := model prog w) X I (findX C)
  have sub : PySem.W.Looks (model prog w) hp (isInstance (.ref x) (.type "BaseException")) true := a0.andThen (PySem.W.looks_subIn X C.hs)
  have n1 : (onTheHeap (Value.ref D) && Value.builtin "BaseException.__getattribute__" == Value.builtin "object.__getattribute__") = false := by
    rw [show (Value.builtin "BaseException.__getattribute__" == Value.builtin "object.__getattribute__") = false by decide +kernel, Bool.and_false]
  unfold getAttr? getAttrBy? getAttrBy
  refine wpAny_bind (wpAny_mkText (wpAny_bind (wpAny_attempt (wpAny_holding (wpAny_bind (a0.at (wpAny_bind (a1.at ?_))))))))
  show wpAny _ _ (if (onTheHeap (Value.ref D) && Value.builtin "BaseException.__getattribute__" == Value.builtin "object.__getattribute__") = true then _ else _) _ _ _
  rw [n1, if_neg Bool.false_ne_true]
  unfold getAttrByItsOwn hookBefore
  refine wpAny_bind ?_
  rw [if_pos (show onTheHeap (Value.ref D) = true from rfl)]
  refine a2.at (wpAny_bind (wpAny_attempt (wpAny_holding ?_)))
  unfold callGetattribute
  rw [if_neg (show ¬ ((false && onTheHeap (Value.builtin "BaseException.__getattribute__")) = true) from Bool.false_ne_true)]
  unfold boundAndCalled
  rw [PySem.F.excAttr_ValueError.ga.bind (.ref x)]
  refine wpAny_bind (wpAny_pure ?_)
  show wpAny _ _ (call (.builtin "BaseException.__getattribute__") [.ref x, .str "__class__" t]) _ _ _
  refine wpAny_call (codeAny_call_builtin PySem.F.excAttr_ValueError.ga.plain PySem.F.entry_bexc_ga ?_)
  refine @PySem.W.check_slot (model prog w) _ _ ⟨hp, g, d, t + 1, os⟩ "BaseException.__getattribute__" "BaseException" "__getattribute__" (.ref x) [.str "__class__" t] [] _ (by decide +kernel) (by decide +kernel) sub (PySem.F.args_bexc_ga (.ref x) (.str "__class__" t)) ?_
  unfold Builtin.«object.__getattribute__»
  refine wpAny_bind (wpAny_of_eq (a := ((Value.ref x : Value), [Value.str "__class__" t])) (by first | rfl | (simp only [slotArgs]; rfl)) ?_)
  refine wpAny_bind (wpAny_pure (wpAny_bind (a0.at (wpAny_bind (a3.at ?_)))))
  show wpAny _ _ (holding [Value.builtin "object.__class__"] (call (.builtin "getset_descriptor.__get__") [.builtin "object.__class__", .ref x, .ref D]) >>= ret) _ _ _
  refine wpAny_bind (wpAny_holding (wpAny_call (PySem.W.class_get (s := ⟨hp, g, d, t + 1, os⟩) (ox := ox) (od := od) X I C.hm ?_)))
  refine wpAny_pure ?_
  show wpAny _ _ (handedOut (.ref D)) _ _ _
  rw [PySem.W.handedOut_of (v := .ref D) rfl]
  first
    | exact wpAny_pure (wpAny_pure h)
    | exact wpAny_pure h
    | exact wpAny_pure (wpAny_bind (wpAny_pure (wpAny_pure h)))
theorem kitx_X (C : ExcC K D) : PySem.W.KitX K (.ref x) (.ref D) (Inst x ox D) where
  ty := fun _ _ _ ⟨_, I⟩ => I.type
  it := fun _ _ X _ => by
    obtain ⟨cd, hc, _⟩ := PySem.W.any_some C.hd
    unfold PySem.W.clsIn at hc
    split at hc
    · rename_i ho
      intro A' Q' E' s' k q
      unfold isType loadHead
      exact wpAny_bind (wpAny_loadPart (k _ _ (X _ _ ho)) (wpAny_pure q))
    · cases hc
  ne := (PySem.W.handS_kitx_exc (x := x) (ox := ox) C.hg C.hk C.hs C.hd C.ha C.hn C.ht C.hm).ne
  ca := fun X J k => ga_class C X J k
theorem call_isX {X : Cx} {a : Addr} {oe : Obj} {pn : List (Addr × Obj)} {d : Option Addr} (C : ExcC X.K D) (hz : Zc (.ref D) d oe) (hf : ∃ vs, oe.data = .fields vs) :
    CallR (X.suite a ((a, oe) :: pn)) (.builtin "isinstance") (fun xs H Q => ∃ (c : V) (cv : Value) (b : Bool), xs = [.ref a, c] ∧ (∀ u, RelV c u → u = cv) ∧ PySem.W.kitOne X.K (.ref D) cv = some b ∧ (∀ dd, d = some dd → ∃ vs, H dd = some (.xd vs)) ∧ Q (.bl b) H) := by
  intro pins s σ H xs us Q I r ⟨c, cv, b, ex, hcv, e, hd, q⟩
  subst ex
  obtain ⟨u1, u2, rfl, rx, rt⟩ := r.two
  cases rx
  have ec := hcv _ rt
  subst ec
  obtain ⟨hget, _⟩ := I.pin (a, oe) (List.mem_append.mpr (.inl List.mem_cons_self))
  obtain ⟨vs, hv⟩ := hf
  have nc : PySem.W.notCls oe = true := by unfold PySem.W.notCls; rw [hv]
  have J : Inst a oe D s.heap := by
    cases d with
    | none => exact ⟨none, hget, hz.1, nc, by rw [hz.2]; trivial⟩
    | some dd =>
      obtain ⟨ws, hw⟩ := hd dd rfl
      obtain ⟨mA, hns, _⟩ := (show ObjOk X.prog X.w H s.heap dd (.xd ws) from I.hok dd _ hw)
      obtain ⟨od, ho, _⟩ := lookIn_ns hns
      exact ⟨some od, hget, hz.1, nc, by rw [hz.2]; exact ho⟩
  exact PySem.W.kia_one (kitx_X C) I.kIn J e (fun z => nomatch z) fun tk => ⟨.bl b, H, I.kept (t' := tk) fun _ _ z => z, rfl, q⟩
end
end Ad
set_option Elab.async false
set_option linter.all false
set_option maxRecDepth 100000
set_option maxHeartbeats 4000000
namespace Ad
open PySem PySem.Spec PyProof.Rows L2

/-- lists of the written part are plain -/
def LstOk (K : Fr) : Prop := ∀ a o its n, K.lookup a = some o → o.cls = .type "list" → o.data = .seq its n → o = { cls := .type "list", data := .seq its n }

section
variable {w : World} {K : Fr} {F H : Hp} {v : V}
theorem RepR.none (h : RepR w K F H v .none) : v = .non := by
  rcases h with h | ⟨p, _, h⟩
  · simpa only [Rep] using h
  · exact h.elim
theorem RepR.bool {b : Bool} (h : RepR w K F H v (.bool b)) : v = .bl b := by
  rcases h with h | ⟨p, _, h⟩
  · simpa only [Rep] using h
  · exact h.elim
theorem RepR.int {i : Int} (h : RepR w K F H v (.int i)) : v = .int i := by
  rcases h with h | ⟨p, _, h⟩
  · simpa only [Rep] using h
  · exact h.elim
theorem RepR.str {x : Str} (h : RepR w K F H v (.str x)) : v = .str x := by
  rcases h with h | ⟨p, _, h⟩
  · simpa only [Rep] using h
  · exact h.elim
theorem RepR.tuple {ds : List D} (h : RepR w K F H v (.tuple ds)) (s : Sub F H) : ∃ a xs, v = .ref a ∧ SqT K H a xs ∧ RepL w K F xs ds := by
  rcases h with h | ⟨p, _, h⟩
  · simp only [Rep] at h
    obtain ⟨a, xs, e, q, r⟩ := h
    exact ⟨a, xs, e, SqT.sub s q.t, r⟩
  · exact h.elim
theorem RepR.tupleF {ds : List D} (h : RepR w K F H v (.tuple ds)) : ∃ a xs, v = .ref a ∧ SqP K F a xs ∧ RepL w K F xs ds := by
  rcases h with h | ⟨p, _, h⟩
  · simpa only [Rep] using h
  · exact h.elim
theorem RepR.list {ds : List D} (h : RepR w K F H v (.list ds)) (s : Sub F H) : ∃ a xs, v = .ref a ∧ SqL K H a xs ∧ RepL w K F xs ds := by
  rcases h with h | ⟨p, e, xs, h1, h2⟩
  · simp only [Rep] at h
    obtain ⟨a, xs, e, q, r⟩ := h
    exact ⟨a, xs, e, SqL.sub s q, r⟩
  · exact ⟨p, xs, e, SqL.of h1, h2⟩
theorem RepR.dict {kvs : List (D × D)} (h : RepR w K F H v (.dict kvs)) (s : Sub F H) : ∃ a es ep, v = .ref a ∧ DcAt K H a es ep ∧ kvs.length ≤ sizeLine ∧ RepP w K F es kvs := by
  rcases h with h | ⟨p, e, z, z2, es, ep, h1, h2⟩
  · simp only [Rep] at h
    obtain ⟨a, es, ep, e, q, z, r⟩ := h
    exact ⟨a, es, ep, e, q.sub s, z, r⟩
  · exact ⟨p, es, ep, e, ⟨z, .inl h1⟩, z2, h2⟩
theorem Rep.r {d : D} (h : Rep w K F v d) : RepR w K F H v d := .inl h
end

section
variable {X : Cx} {pins : List (Addr × Obj)} {σ : L2.St} {H : Hp} {s : Shared}
theorem Inv.listX (I : Inv X pins σ H s) (hK : LstOk X.K) {a : Addr} {xs : List V} (h : SqL X.K H a xs) :
    xs.length ≤ sizeLine ∧ ∃ (its : List Value) (n : Nat), Vals xs its ∧ xs.length = its.length ∧ s.heap.get? a = some { cls := .type "list", data := .seq its.toArray n } := by
  rcases h with h | ⟨o, its, n, hk, hc, hd, hs, hz, r⟩
  · obtain ⟨z, its, n, r, e⟩ := h.ok I.hok
    exact ⟨z, its, n, r, r.length, e⟩
  · have e := hK a o its n hk hc hs
    subst e
    refine ⟨?_, its.toList, n, r, r.length, by simpa using I.kIn _ _ hk⟩
    have := r.length
    simp at this
    omega
end

/-- by values: lists and dicts are new, all else is frozen -/
def ResM (w : World) (K : Fr) (F H : Hp) (r : R D) (Q : VK) : Prop := match r with
  | .ok (.list ds) => ResO w K F H (.ok (.list ds)) Q
  | .ok (.dict kvs) => ResO w K F H (.ok (.dict kvs)) Q
  | r => Res w K F H r Q
theorem Res.m {w : World} {K : Fr} {F H : Hp} {r : R D} {Q : VK} (h : Res w K F H r Q) : ResM w K F H r Q := by
  cases r with
  | ok d => cases d <;> first | exact h.own | exact h
  | _ => exact h
theorem ResO.m {w : World} {K : Fr} {F H : Hp} {r : R D} {Q : VK} (h : ResO w K F H r Q) (hd : ∀ d, r = .ok d → (∃ ds, d = .list ds) ∨ ∃ kvs, d = .dict kvs) : ResM w K F H r Q := by
  cases r with
  | ok d =>
    rcases hd d rfl with ⟨ds, rfl⟩ | ⟨kvs, rfl⟩
    · exact h
    · exact h
  | _ => exact h
theorem Res.int {w : World} {K : Fr} {F H : Hp} {i : Int} {Q : VK} (s : Sub F H) (h : Res w K F H (.ok (.int i)) Q) : Q (.int i) H := h _ F H (.refl s) (by simp only [Rep])
theorem Res.str {w : World} {K : Fr} {F H : Hp} {i : Str} {Q : VK} (s : Sub F H) (h : Res w K F H (.ok (.str i)) Q) : Q (.str i) H := h _ F H (.refl s) (by simp only [Rep])
theorem Res.bool {w : World} {K : Fr} {F H : Hp} {i : Bool} {Q : VK} (s : Sub F H) (h : Res w K F H (.ok (.bool i)) Q) : Q (.bl i) H := h _ F H (.refl s) (by simp only [Rep])
theorem Res.tupNew {w : World} {K : Fr} {F H : Hp} {ds : List D} {xs : List V} {Q : VK} (s : Sub F H) (h : Res w K F H (.ok (.tuple ds)) Q) (r : RepL w K F xs ds) : NewT H Q xs := fun p o hp ho => by
  have hf : F p = none := by
    cases e : F p with
    | none => rfl
    | some o => rw [s _ _ e] at hp; cases hp
  exact h _ _ _ (Ext.new s hp) (by simp only [Rep]; exact ⟨p, xs, rfl, SqP.of ho upd_same, RepL.sub (Sub.upd hf) _ _ r⟩)
theorem Res.tupOld {w : World} {K : Fr} {F H : Hp} {ds : List D} {xs : List V} {Q : VK} (s : Sub F H) (h : Res w K F H (.ok (.tuple ds)) Q) (r : RepL w K F xs ds) {p : Addr} (hp : SqP K F p xs) : Q (.ref p) H :=
  h _ _ _ (Ext.refl s) (by simp only [Rep]; exact ⟨p, xs, rfl, hp, r⟩)
theorem ResO.lst {w : World} {K : Fr} {F H : Hp} {ds : List D} {xs : List V} {Q : VK} (s : Sub F H) (h : ResO w K F H (.ok (.list ds)) Q) (r : RepL w K F xs ds) {p : Addr} (hp : H p = none) : Q (.ref p) (upd H p (.lst xs)) := by
  have hf : F p = none := by
    cases e : F p with
    | none => rfl
    | some o => rw [s _ _ e] at hp; cases hp
  exact h p F _ (Ext.newO s hp) hp hf ⟨xs, upd_same, r⟩

section
variable {X : Cx}
/-- a list and a list, a list and a number -/
theorem op_catL (hK : LstOk X.K) : OpR X (binaryOp .Add) (fun x y H Q => ∃ l b xs zs, x = .ref l ∧ y = .ref b ∧ SqL X.K H l xs ∧ SqL X.K H b zs ∧ xs.length + zs.length ≤ sizeLine ∧ ∀ p, H p = none → Q (.ref p) (upd H p (.lst (xs ++ zs)))) := by
  intro pins s σ H x y v u Q I rx ry h
  obtain ⟨l, b, xs, zs, rfl, rfl, hH, hB, hz, q⟩ := h
  cases rx
  cases ry
  obtain ⟨z, its, n, r, hl, e⟩ := Inv.listX I hK hH
  obtain ⟨z2, its2, n2, r2, hl2, e2⟩ := Inv.listX I hK hB
  refine PySem.P.add_list e e2 ?_ (by rw [List.size_toArray, List.size_toArray]; omega)
  have ea : its.toArray ++ its2.toArray = (its ++ its2).toArray := by simp
  rw [ea]
  exact ⟨.ref _, _, I.lnew (t' := s.toks) (r.append r2) (by rw [List.length_append]; omega), rfl, q _ I.fresh⟩
theorem op_repL (hK : LstOk X.K) : OpR X (binaryOp .Mult) (fun x y H Q => ∃ l k xs, x = .ref l ∧ y = .int k ∧ SqL X.K H l xs ∧ -(2 ^ 63) ≤ k ∧ k < 2 ^ 63 ∧ xs.length * k.toNat ≤ sizeLine ∧
  ∀ p, H p = none → Q (.ref p) (upd H p (.lst (List.replicate k.toNat xs).flatten))) := by
  intro pins s σ H x y v u Q I rx ry h
  obtain ⟨l, k, xs, rfl, rfl, hH, h1, h2, hz, q⟩ := h
  cases rx
  obtain ⟨t, rfl⟩ := ry
  obtain ⟨z, its, n, r, hl, e⟩ := Inv.listX I hK hH
  have hlen : its.toArray.size * k.toNat ≤ sizeLine := by rw [List.size_toArray, ← hl]; exact hz
  have hcap : ¬ its.toArray.size * k.toNat > (2 ^ 63 - 1) / 8 := by
    have : (sizeLine : Nat) ≤ (2 ^ 63 - 1) / 8 := by decide
    omega
  have hfit : ¬ (!Builtin.List.listFitsIndex k) = true := by
    rw [fitsIndex_both h1 h2]
    exact Bool.false_ne_true
  have hlong : ¬ Builtin.List.listTooLong (its.toArray.size * k.toNat) = true := by
    rw [notLongL hlen]
    exact Bool.false_ne_true
  have hnew : List.foldl (fun x1 x2 => x1 ++ x2) #[] (List.replicate (if its.toArray.isEmpty = true then 0 else k.toNat) its.toArray) = (List.replicate k.toNat its).flatten.toArray := by
    have f0 : ∀ m : Nat, List.foldl (fun x1 x2 => x1 ++ x2) #[] (List.replicate m its.toArray) = (List.replicate m its).flatten.toArray := fun m => by
      have := foldl_rep its m []
      rw [List.nil_append] at this
      exact this
    rw [f0]
    cases its with
    | nil => simp
    | cons a r' => rw [if_neg (by simp)]
  refine wpAny_binaryOp_repeat_ref (T := "list") (U := "int") (by decide) ⟨_, e, rfl⟩ (fun s' => typeIs_int s' k t) noFill_list_mul F.fills_int_mul F.slot_int_rmul repeat_list F.slot_int_index.lookup
    (call_meets F.slot_int_rmul (typeIs_int s k t) F.entry_int_rmul (F.args_int_rmul_2 _ _) (int___rmul___int_list k t l its.toArray n)
      ⟨e, rfl, ⟨_, e, rfl⟩, call_meets F.slot_list_mul ⟨_, e, rfl⟩ F.entry_list_mul (F.args_list_mul_2 _ _) (AutoListH.list___mul___list_int_3 l its.toArray n k t hfit hcap hlong) ⟨e, ?_⟩⟩)
  rw [hnew]
  exact ⟨.ref _, _, I.lnew (t' := s.toks) (r.rep k.toNat) (by rw [PyProof.Rows.lm_len_rep_flat, Nat.mul_comm]; exact hz), rfl, q _ I.fresh⟩
end
theorem line_eq : line = sizeLine := by rw [sizeLine_eq]; rfl
theorem RepL.nil_iff {w : World} {K : Fr} {F : Hp} {xs : List V} {ds : List D} (r : RepL w K F xs ds) : xs = [] ↔ ds = [] := by
  have := r.length
  constructor
  · rintro rfl; exact List.eq_nil_of_length_eq_zero this.symm
  · rintro rfl; exact List.eq_nil_of_length_eq_zero this
theorem RepL.rep {w : World} {K : Fr} {F : Hp} {xs : List V} {ds : List D} (r : RepL w K F xs ds) : ∀ n : Nat, RepL w K F (List.replicate n xs).flatten (List.replicate n ds).flatten
  | 0 => by simp only [List.replicate_zero, List.flatten_nil, RepL]
  | n + 1 => by
    simp only [List.replicate_succ, List.flatten_cons]
    exact r.append (RepL.rep r n)

section
variable {X : Cx}
/-- a operation of two by values -/
def rD (X : Cx) (f : D → D → R D) : R2 := fun x y H Q => ∃ F dx dy, Sub F H ∧ RepR X.w X.K F H x dx ∧ RepR X.w X.K F H y dy ∧ ResM X.w X.K F H (f dx dy) Q
/-- what a great division looks for: there is no one who watches -/
structure PyK (K : Fr) (mg : Str → Option Value) : Prop where
  s0 : PySem.W.nsOkIn K cStatics = true
  s1 : PySem.W.nsIn K cStatics "sys.audit-hooks" = some none
  s2 : PySem.W.nsIn K cStatics "sys.dict" = some none
  m0 : PySem.W.nsOkIn K sysModules = true
  m1 : PySem.W.nsIn K sysModules "_pylong" = some none
  bm : ∃ b o, mg "__builtins__" = some (.ref b) ∧ K.lookup b = some o ∧ o.cls = .type "module" ∧ o.dict = some builtinsNs
structure PyX (X : Cx) : Prop where
  k : PyK X.K X.mg
  dp : X.A.depth + Builtin.pylongFrames < recursionLimit
  tr : X.prog.given.tree = none
  fr : ∀ l, X.A.frames = some l → ∃ env r, l = env :: r ∧ env.scope.isGenerator = false ∧ env.scope.isCoroutine = false ∧ env.builtins = builtinsNs ∧ env.globals = mainGlobals
theorem PyX.room {pins : List (Addr × Obj)} {σ : List (Option V)} {H : Hp} {s : Shared} (p : PyX X) (I : Inv X pins σ H s) : PylongRoom (model X.prog X.w) X.A s := by
  obtain ⟨env, r, e, f1, f2, f3, f4⟩ := p.fr _ I.ok.frames
  have hf : X.A.frames = some (env :: r) := by rw [I.ok.frames, e]
  obtain ⟨b, o, b1, b2, b3, b4⟩ := p.k.bm
  obtain ⟨mb, n1, n2⟩ := I.ok.mod.blt
  have hN : X.base.NoSeer := {
    statics := ⟨_, .of_isNs (PySem.W.isNs_of_in I.ok.mod.kin p.k.s0), PySem.W.nsMap_none_of_in I.ok.mod.kin p.k.s0 p.k.s1, PySem.W.nsMap_none_of_in I.ok.mod.kin p.k.s0 p.k.s2⟩
    mods := ⟨_, .of_isNs (PySem.W.isNs_of_in I.ok.mod.kin p.k.m0), PySem.W.nsMap_none_of_in I.ok.mod.kin p.k.m0 p.k.m1⟩
    imp := ⟨mb, n1, n2⟩
    main := ⟨X.mg, b, o, I.ok.mod.glob, b1, I.ok.mod.kin _ _ b2, b3, b4⟩ }
  exact PylongRoom.of I.nolimit p.dp (SeerAt.of (hN.keeps I.bk) p.tr hf f1 f2 f3 f4)
theorem fdiv_ok (p : PyX X) : OpR X (binaryOp .FloorDiv) (rI (fun _ j => j ≠ 0) fun i j => .int (i.fdiv j)) := by
  intro pins s σ H x y v u Q I rx ry ⟨i, j, ex, ey, hc, q⟩
  subst ex; subst ey
  obtain ⟨t, et⟩ := rx
  obtain ⟨t', et'⟩ := ry
  subst et; subst et'
  exact floordiv_int hc ⟨V.int (i.fdiv j), H, I.tok _, ⟨_, rfl⟩, q⟩ (.inr (p.room I))
theorem intBits_lt {i : Int} (h : i.natAbs.log2 < 60) : Builtin.Int.intBits i ≤ 64 := by
  unfold Builtin.Int.intBits
  split <;> omega
theorem mulB_ok {i j : Int} (h : mulB i j = true) : IntMulOk i j := by
  simp only [mulB, Bool.or_eq_true, decide_eq_true_eq] at h
  rcases h with (h | h) | h
  · exact IntMulOk.of_left (intBits_lt h)
  · exact IntMulOk.of_right (intBits_lt h)
  · exact CMulW.ok h
theorem op_mulB : OpR X (binaryOp .Mult) (rI (fun i j => mulB i j = true) fun i j => .int (i * j)) := opI fun _ _ _ _ _ _ _ hc q => mul_int q (mulB_ok hc)
theorem op_binD (hK : LstOk X.K) (hp : PyX X) (op : Operator) : OpR X (binaryOp op) (rD X (binD op)) := by
  intro pins s σ H x y v u Q I rx ry h
  obtain ⟨F, dx, dy, hs, hx, hy, h⟩ := h
  unfold binD at h
  split at h
  · cases hx.int; cases hy.int
    exact op_add pins s σ H _ _ v u Q I rx ry ⟨_, _, rfl, rfl, Res.int hs h⟩
  · cases hx.str; cases hy.str
    split at h
    · exact op_add_str pins s σ H _ _ v u Q I rx ry ⟨_, _, rfl, rfl, by rw [← line_eq]; assumption, Res.str hs h⟩
    · exact h.elim
  · obtain ⟨a, xs, rfl, qa, ra⟩ := hx.list hs
    obtain ⟨b, ys, rfl, qb, rb⟩ := hy.list hs
    split at h
    · exact op_catL hK pins s σ H _ _ v u Q I rx ry ⟨a, b, xs, ys, rfl, rfl, qa, qb, by rw [ra.length, rb.length, ← line_eq]; assumption, fun p hp => ResO.lst hs h (ra.append rb) hp⟩
    · exact h.elim
  · obtain ⟨a, xs, rfl, qa, ra⟩ := hx.tupleF
    obtain ⟨b, ys, rfl, qb, rb⟩ := hy.tupleF
    split at h
    · refine op_catP pins s σ H _ _ v u Q I rx ry ⟨a, b, xs, ys, rfl, rfl, SqT.sub hs qa.t, SqT.sub hs qb.t, by rw [ra.length, rb.length, ← line_eq]; assumption, fun e => ?_, fun e1 e2 => ?_, fun e1 e2 => Res.tupNew hs h (ra.append rb)⟩
      · have := ra.nil_iff.mp e
        subst this
        exact Res.tupOld hs h (by simpa using rb) qb
      · have := rb.nil_iff.mp e2
        subst this
        rw [List.append_nil] at h
        exact Res.tupOld hs h ra qa
    · exact h.elim
  · cases hx.int; cases hy.int
    exact op_sub pins s σ H _ _ v u Q I rx ry ⟨_, _, rfl, rfl, Res.int hs h⟩
  · cases hx.int; cases hy.int
    split at h
    · exact op_mulB pins s σ H _ _ v u Q I rx ry ⟨_, _, rfl, rfl, by assumption, Res.int hs h⟩
    · exact h.elim
  · obtain ⟨a, xs, rfl, qa, ra⟩ := hx.list hs
    cases hy.int
    split at h
    · rename_i hc
      refine op_repL hK pins s σ H _ _ v u Q I rx ry ⟨a, _, xs, rfl, rfl, qa, by omega, by omega, ?_, fun p hp => ResO.lst hs h (ra.rep _) hp⟩
      rw [ra.length, sizeLine_eq]
      exact Nat.le_trans (Nat.mul_le_mul hc.2 (show _ ≤ 1000 by omega)) (by decide)
    · exact h.elim
  · obtain ⟨a, xs, rfl, qa, ra⟩ := hx.tupleF
    cases hy.int
    split at h
    · rename_i hc
      subst hc
      exact op_rep1P pins s σ H _ _ v u Q I rx ry ⟨a, xs, rfl, rfl, SqT.sub hs qa.t, h (.ref a) _ H (.refl hs) (by simp only [Rep]; exact ⟨a, xs, rfl, qa, ra⟩)⟩
    split at h
    · rename_i hc
      exact op_repP pins s σ H _ _ v u Q I rx ry ⟨a, _, xs, rfl, rfl, SqT.sub hs qa.t, fun z => hc.2.2.2 (ra.nil_iff.mp z), hc.1, hc.2.1, by rw [ra.length]; exact hc.2.2.1, Res.tupNew hs h (ra.rep _)⟩
    · exact h.elim
  · cases hx.int; cases hy.int
    split at h
    · exact op_modN pins s σ H _ _ v u Q I rx ry ⟨_, _, rfl, rfl, by assumption, Res.int hs h⟩
    · exact h.elim
  · cases hx.int; cases hy.int
    split at h
    · exact fdiv_ok hp pins s σ H _ _ v u Q I rx ry ⟨_, _, rfl, rfl, by assumption, Res.int hs h⟩
    · exact h.elim
  · cases hx.int; cases hy.int
    split at h
    · rename_i hc
      exact op_pow pins s σ H _ _ v u Q I rx ry ⟨_, _, rfl, rfl, ⟨hc.1, by omega, Nat.lt_of_le_of_lt hc.2.2 (by decide)⟩, Res.int hs h⟩
    · exact h.elim
  · exact h.elim
end
end Ad
set_option Elab.async false
set_option linter.all false
set_option maxRecDepth 100000
set_option maxHeartbeats 4000000
namespace Ad
open PySem PySem.Spec PyProof.Rows L2
section
variable {w : World} {K : Fr} {F H : Hp}
mutual
theorem Rep.dp : ∀ (d : D) (v : V), d.canLay0 = true → Rep w K H v d → Dp K H v d
  | .none, v, _, h => by simp only [Rep] at h; subst h; exact .non
  | .bool b, v, _, h => by simp only [Rep] at h; subst h; exact .bl b
  | .int i, v, _, h => by simp only [Rep] at h; subst h; exact .int i
  | .str x, v, _, h => by simp only [Rep] at h; subst h; exact .str x
  | .list ds, v, c, h => by
    simp only [Rep] at h
    obtain ⟨a, xs, rfl, q, r⟩ := h
    exact .lst q (RepL.dp ds xs (by simpa only [PyData.canLay0] using c) r)
  | .tuple ds, v, c, h => by
    simp only [Rep] at h
    obtain ⟨a, xs, rfl, q, r⟩ := h
    exact .tup q.t (RepL.dp ds xs (by simpa only [PyData.canLay0] using c) r)
  | .dict _, v, c, _ => by simp only [PyData.canLay0] at c; cases c
theorem RepL.dp : ∀ (ds : List D) (vs : List V), PyData.canLayAll0 ds = true → RepL w K H vs ds → DpAll K H vs ds
  | [], [], _, _ => .nil
  | [], _ :: _, _, h => by simp only [RepL] at h
  | _ :: _, [], _, h => by simp only [RepL] at h
  | d :: ds, v :: vs, c, h => by
    simp only [RepL] at h
    simp only [PyData.canLayAll0, Bool.and_eq_true] at c
    exact .cons (Rep.dp d v c.1 h.1) (RepL.dp ds vs c.2 h.2)
end
theorem RepR.dp {d : D} {v : V} (c : d.canLay0 = true) (s : Sub F H) (h : RepR w K F H v d) : Dp K H v d := by
  rcases h with h | ⟨p, e, o⟩
  · exact Rep.dp d v c (Rep.sub s _ _ h)
  · cases d with
    | list ds =>
      obtain ⟨xs, h1, h2⟩ := o
      subst e
      exact .lst (SqL.of h1) (RepL.dp ds xs (by simpa only [PyData.canLay0] using c) (RepL.sub s _ _ h2))
    | dict kvs => simp only [PyData.canLay0] at c; cases c
    | _ => exact o.elim
end
theorem eqOk_shaped {d : D} (h : eqOk d = true) : SeqAt.shaped d = true := by
  simp only [eqOk, Bool.and_eq_true, decide_eq_true_eq] at h
  simp only [SeqAt.shaped, Bool.and_eq_true, decide_eq_true_eq]
  exact ⟨h.1, by omega⟩
theorem eqOk_lay {d : D} (h : eqOk d = true) : d.canLay0 = true := by
  simp only [eqOk, Bool.and_eq_true] at h
  exact h.1
theorem inL_any (x : D) : ∀ xs : List D, inL x xs = xs.any fun z => PyData.eqv z x
  | [] => rfl
  | y :: r => by simp [inL, inL_any x r]
theorem flat_of {w : World} {K : Fr} {F : Hp} {v : V} {d : D} (h : flatD d = true) (r : Rep w K F v d) : flatV v = true := by
  cases d <;> simp only [Rep] at r <;> first | (subst r; rfl) | cases h
theorem flats_of {w : World} {K : Fr} {F : Hp} : ∀ {vs : List V} {ds : List D}, ds.all flatD = true → RepL w K F vs ds → vs.all flatV = true
  | [], [], _, _ => rfl
  | [], _ :: _, _, h => by simp only [RepL] at h
  | _ :: _, [], _, h => by simp only [RepL] at h
  | v :: vs, d :: ds, c, h => by
    simp only [RepL] at h
    simp only [List.all_cons, Bool.and_eq_true] at c ⊢
    exact ⟨flat_of c.1 h.1, flats_of c.2 h.2⟩
theorem eqV_of {w : World} {K : Fr} {F : Hp} {v u : V} {d e : D} (h : flatD d = true) (h' : flatD e = true) (r : Rep w K F v d) (r' : Rep w K F u e) : eqV v u = PyData.eqv d e := by
  cases d <;> first | (exact Bool.noConfusion h) | (simp only [Rep] at r; subst r; cases e <;> first | (exact Bool.noConfusion h') | (simp only [Rep] at r'; subst r'; simp [eqV, PyData.eqv]))
theorem inV_of {w : World} {K : Fr} {F : Hp} {u : V} {e : D} (h' : flatD e = true) (r' : Rep w K F u e) : ∀ {vs : List V} {ds : List D}, ds.all flatD = true → RepL w K F vs ds → inV u vs = inL e ds
  | [], [], _, _ => rfl
  | [], _ :: _, _, h => by simp only [RepL] at h
  | _ :: _, [], _, h => by simp only [RepL] at h
  | v :: vs, d :: ds, c, h => by
    simp only [RepL] at h
    simp only [List.all_cons, Bool.and_eq_true] at c
    have ih := inV_of h' r' c.2 h.2
    unfold inV at ih ⊢
    simp only [List.any_cons, inL, ih, eqV_of c.1 h' h.1 r']
/-- a comparison by values -/
def rC (X : Cx) (f : D → D → R Bool) : R2 := fun x y H Q => ∃ F dx dy, Sub F H ∧ RepR X.w X.K F H x dx ∧ RepR X.w X.K F H y dy ∧ ∃ b, f dx dy = .ok b ∧ Q (.bl b) H
theorem ltI_ok {a b : D} {c : Bool} (h : ltI a b = some c) : ∃ i j, a = .int i ∧ b = .int j ∧ c = decide (i < j) := by
  unfold ltI at h
  split at h
  · exact ⟨_, _, rfl, rfl, by simpa using h.symm⟩
  · cases h
theorem of_ok {α : Type} {o : Option α} {a : α} (h : R.of o = .ok a) : o = some a := by
  cases o with
  | none => cases h
  | some x => injection h with h; rw [h]
theorem RepR.flat {w : World} {K : Fr} {F H : Hp} {v : V} {d : D} (h : RepR w K F H v d) (f : flatD d = true) : Rep w K F v d := by
  rcases h with h | ⟨p, e, o⟩
  · exact h
  · cases d <;> first | exact o.elim | cases f
section
variable {X : Cx}
theorem op_inseq (neg : Bool) : OpR X (compareOp (if neg then .NotIn else .In)) (rIn X.K neg) := by
  cases neg
  · exact op_in_seq
  · exact op_notIn_seq
theorem op_indd (hu : X.A.units + 65 < cLine) (neg : Bool) : OpR X (compareOp (if neg then .NotIn else .In)) (fun x y H Q => ∃ d ds, Dp X.K H x d ∧ Dp X.K H y (.list ds) ∧ SeqAt.shaped d = true ∧ SeqAt.shaped (.list ds) = true ∧ Q (.bl (if neg then !ds.any (fun z => PyData.eqv z d) else ds.any fun z => PyData.eqv z d)) H) := by
  cases neg
  · exact op_inD hu
  · exact op_notInD hu
theorem op_insign (neg : Bool) : OpR X (compareOp (if neg then .NotIn else .In)) (fun x y H Q => ∃ (c : Nat) (z : Str), x = .str ⟨#[c]⟩ ∧ y = .str z ∧ Q (.bl (if neg then !decide (c ∈ z.cps.toList) else decide (c ∈ z.cps.toList))) H) := by
  cases neg
  · exact op_in_sign
  · exact op_notIn_sign
/-- in a dict: apart -/
def InDict (X : Cx) : Prop := ∀ neg : Bool, OpR X (compareOp (if neg then .NotIn else .In)) (fun x y H Q => ∃ F d kvs, Sub F H ∧ Rep X.w X.K F x d ∧ RepR X.w X.K F H y (.dict kvs) ∧ okK d kvs = true ∧ Q (.bl (if neg then !(findK d kvs).isSome else (findK d kvs).isSome)) H)
theorem okK_keyed {k : D} {kvs : List (D × D)} (h : okK k kvs = true) : keyed k = true := by
  unfold okK at h
  simp only [Bool.and_eq_true] at h
  exact h.1
theorem keyed_rep {w : World} {K : Fr} {F H : Hp} {v : V} {d : D} (k : keyed d = true) (h : RepR w K F H v d) : Rep w K F v d := by
  rcases h with h | ⟨p, e, o⟩
  · exact h
  · cases d <;> first | exact o.elim | (simp [keyed, keyOk] at k)
theorem op_inn (hu : X.A.units + 65 < cLine) (hd : InDict X) (neg : Bool) : OpR X (compareOp (if neg then .NotIn else .In)) (fun x y H Q => ∃ F dx dy, Sub F H ∧ RepR X.w X.K F H x dx ∧ RepR X.w X.K F H y dy ∧ ∃ b, inD dx dy = .ok b ∧ Q (.bl (if neg then !b else b)) H) := by
  intro pins s σ H x y v u Q I rx ry h
  obtain ⟨F, dx, dy, hs, hx, hy, b, hb, q⟩ := h
  unfold inD at hb
  split at hb
  · split at hb
    · rename_i c
      simp only [Bool.and_eq_true] at c
      injection hb with hb
      subst hb
      rw [inL_any] at q
      exact op_indd hu neg pins s σ H x y v u Q I rx ry ⟨dx, _, hx.dp (eqOk_lay c.1) hs, hy.dp (eqOk_lay c.2) hs, eqOk_shaped c.1, eqOk_shaped c.2, q⟩
    · cases hb
  · split at hb
    · rename_i c
      simp only [Bool.and_eq_true] at c
      injection hb with hb
      subst hb
      obtain ⟨a, xs, rfl, qa, ra⟩ := hy.tuple hs
      have hx' := hx.flat c.1
      refine op_inseq neg pins s σ H x _ v u Q I rx ry ⟨a, xs, rfl, .inr qa, flat_of c.1 hx', flats_of c.2 ra, ?_⟩
      rw [inV_of c.1 hx' c.2 ra]; exact q
    · cases hb
  · split at hb
    · rename_i c
      injection hb with hb
      subst hb
      exact hd neg pins s σ H x y v u Q I rx ry ⟨F, dx, _, hs, keyed_rep (okK_keyed c) hx, hy, c, q⟩
    · cases hb
  · split at hb
    · injection hb with hb
      subst hb
      cases hx.str; cases hy.str
      exact op_insign neg pins s σ H _ _ v u Q I rx ry ⟨_, _, rfl, rfl, q⟩
    · cases hb
  · cases hb
theorem op_cmpD (hu : X.A.units + 65 < cLine) (hd : InDict X) (op : CmpOp) : OpR X (compareOp op) (rC X (cmpD op)) := by
  intro pins s σ H x y v u Q I rx ry h
  obtain ⟨F, dx, dy, hs, hx, hy, b, hb, q⟩ := h
  cases op with
  | Eq =>
    simp only [cmpD] at hb
    split at hb
    · rename_i c
      simp only [Bool.and_eq_true] at c
      injection hb with hb; subst hb
      exact op_eqD (by omega) pins s σ H x y v u Q I rx ry ⟨dx, dy, hx.dp (eqOk_lay c.1) hs, hy.dp (eqOk_lay c.2) hs, eqOk_shaped c.1, eqOk_shaped c.2, q⟩
    · cases hb
  | NotEq =>
    simp only [cmpD] at hb
    split at hb
    · rename_i c
      simp only [Bool.and_eq_true] at c
      injection hb with hb; subst hb
      exact op_neD (by omega) pins s σ H x y v u Q I rx ry ⟨dx, dy, hx.dp (eqOk_lay c.1) hs, hy.dp (eqOk_lay c.2) hs, eqOk_shaped c.1, eqOk_shaped c.2, q⟩
    · cases hb
  | Lt =>
    obtain ⟨i, j, rfl, rfl, rfl⟩ := ltI_ok (of_ok hb)
    cases hx.int; cases hy.int
    exact op_lt pins s σ H _ _ v u Q I rx ry ⟨_, _, rfl, rfl, q⟩
  | Gt =>
    obtain ⟨i, j, rfl, rfl, rfl⟩ := ltI_ok (of_ok hb)
    cases hx.int; cases hy.int
    exact op_gt pins s σ H _ _ v u Q I rx ry ⟨_, _, rfl, rfl, q⟩
  | LtE =>
    have hb := of_ok hb
    cases e : ltI dy dx with
    | none => rw [e] at hb; cases hb
    | some c =>
      obtain ⟨i, j, rfl, rfl, rfl⟩ := ltI_ok e
      rw [e] at hb
      simp only [Option.map_some, Option.some.injEq] at hb
      subst hb
      cases hx.int; cases hy.int
      refine op_le pins s σ H _ _ v u Q I rx ry ⟨_, _, rfl, rfl, ?_⟩
      have : decide (j ≤ i) = !decide (i < j) := by
        by_cases z : i < j
        · simp [z]
        · simp [z]; omega
      show Q (.bl (decide (j ≤ i))) H
      rw [this]; exact q
  | GtE =>
    have hb := of_ok hb
    cases e : ltI dx dy with
    | none => rw [e] at hb; cases hb
    | some c =>
      obtain ⟨i, j, rfl, rfl, rfl⟩ := ltI_ok e
      rw [e] at hb
      simp only [Option.map_some, Option.some.injEq] at hb
      subst hb
      cases hx.int; cases hy.int
      refine op_ge pins s σ H _ _ v u Q I rx ry ⟨_, _, rfl, rfl, ?_⟩
      have : decide (j ≤ i) = !decide (i < j) := by
        by_cases z : i < j
        · simp [z]
        · simp [z]; omega
      show Q (.bl (decide (j ≤ i))) H
      rw [this]; exact q
  | Is =>
    simp only [cmpD] at hb
    split at hb
    · injection hb with hb; subst hb
      cases hy.none
      refine op_isN pins s σ H _ _ v u Q I rx ry ⟨rfl, ?_⟩
      have : decide (x = .non) = isNone dx := by
        rcases hx with hx | ⟨p, e, o⟩
        · cases dx <;> simp only [Rep] at hx <;> first | (subst hx; rfl) | (obtain ⟨a, _, rfl, _⟩ := hx; rfl) | (obtain ⟨a, _, _, rfl, _⟩ := hx; rfl)
        · cases dx <;> first | exact o.elim | (subst e; rfl)
      rw [this]; exact q
    · cases hb
  | IsNot =>
    simp only [cmpD] at hb
    split at hb
    · injection hb with hb; subst hb
      cases hy.none
      refine op_notN pins s σ H _ _ v u Q I rx ry ⟨rfl, ?_⟩
      have : decide (x = .non) = isNone dx := by
        rcases hx with hx | ⟨p, e, o⟩
        · cases dx <;> simp only [Rep] at hx <;> first | (subst hx; rfl) | (obtain ⟨a, _, rfl, _⟩ := hx; rfl) | (obtain ⟨a, _, _, rfl, _⟩ := hx; rfl)
        · cases dx <;> first | exact o.elim | (subst e; rfl)
      rw [this]; exact q
    · cases hb
  | In => exact op_inn hu hd false pins s σ H x y v u Q I rx ry ⟨F, dx, dy, hs, hx, hy, b, hb, q⟩
  | NotIn =>
    simp only [cmpD] at hb
    cases e : inD dx dy with
    | ok t =>
      rw [e] at hb
      injection hb with hb; subst hb
      exact op_inn hu hd true pins s σ H x y v u Q I rx ry ⟨F, dx, dy, hs, hx, hy, t, e, q⟩
    | ex c fs => rw [e] at hb; cases hb
    | bad => rw [e] at hb; cases hb
end
end Ad
set_option Elab.async false
set_option linter.all false
set_option maxRecDepth 100000
set_option maxHeartbeats 4000000
namespace Ad
open PySem PySem.Spec PyProof.Rows L2
theorem ixOf_eq (n : Nat) (i : Int) : ixOf n i = ixN n i := rfl
theorem at_eq {α : Type} (xs : List α) (i : Int) : at? xs i = atI xs i := rfl
theorem bnd_eq (n d : Nat) (o : Option Int) : bnd n d o = HT.sIx n d o := by cases o <;> rfl
section
variable {w : World} {K : Fr} {F H : Hp}
theorem RepL.at {ds : List D} {vs : List V} {i : Int} {d : D} (h : RepL w K F vs ds) (e : at? ds i = some d) : ∃ v, atI vs i = some v ∧ Rep w K F v d := by
  rw [← at_eq]
  unfold at? at e ⊢
  rw [h.length]
  cases q : ixOf ds.length i with
  | none => rw [q] at e; cases e
  | some j =>
    rw [q] at e
    exact RepL.get (i := j) h e
theorem RepL.cut {ds : List D} {vs : List V} (h : RepL w K F vs ds) (lo hi : Option Int) : RepL w K F (cutV vs lo hi) (cut ds lo hi) := by
  unfold cutV Ad.cut
  simp only [bnd_eq, h.length]
  exact RepL.take _ (RepL.drop _ h)
end
/-- d[k] of a dict: apart -/
def IxDict (X : Cx) : Prop := IxR X (fun x y H Q => ∃ F d kvs r, Sub F H ∧ RepR X.w X.K F H x (.dict kvs) ∧ Rep X.w X.K F y d ∧ okK d kvs = true ∧ findK d kvs = some r ∧ ∀ v, Rep X.w X.K F v r → Q v H)
def rDF (X : Cx) (f : D → D → R D) : R2 := fun x y H Q => ∃ F dx dy, Sub F H ∧ RepR X.w X.K F H x dx ∧ RepR X.w X.K F H y dy ∧ Res X.w X.K F H (f dx dy) Q
theorem Res.at {w : World} {K : Fr} {F H : Hp} {d : D} {v : V} {Q : VK} (s : Sub F H) (h : Res w K F H (.ok d) Q) (r : Rep w K F v d) : Q v H := h v F H (.refl s) r
section
variable {X : Cx}
theorem ix_D (hd : IxDict X) : IxR X (rDF X idxD) := by
  intro value slice pins s σ H x y v u Q I rx ry h hs
  obtain ⟨F, dx, dy, hF, hx, hy, h⟩ := h
  unfold idxD at h
  split at h
  · obtain ⟨a, xs, rfl, qa, ra⟩ := hx.list hF
    cases hy.int
    cases e : at? _ _ with
    | none => rw [e] at h; exact h.elim
    | some d =>
      rw [e] at h
      obtain ⟨z, e1, r1⟩ := ra.at e
      exact ix_list value slice pins s σ H _ _ v u Q I rx ry ⟨a, xs, _, z, rfl, rfl, qa, e1, h.at hF r1⟩ hs
  · obtain ⟨a, xs, rfl, qa, ra⟩ := hx.tuple hF
    cases hy.int
    cases e : at? _ _ with
    | none => rw [e] at h; exact h.elim
    | some d =>
      rw [e] at h
      obtain ⟨z, e1, r1⟩ := ra.at e
      exact ix_tup value slice pins s σ H _ _ v u Q I rx ry ⟨a, xs, _, z, rfl, rfl, qa, e1, h.at hF r1⟩ hs
  · split at h
    · rename_i c
      cases e : findK _ _ with
      | none => rw [e] at h; exact h.elim
      | some d =>
        rw [e] at h
        exact hd value slice pins s σ H x y v u Q I rx ry ⟨F, _, _, d, hF, hx, keyed_rep (okK_keyed c) hy, c, e, fun z r => h.at hF r⟩ hs
    · exact h.elim
  · cases hx.str; cases hy.int
    split at h
    · rename_i c e
      split at h
      · rename_i z
        exact ix_str value slice pins s σ H _ _ v u Q I rx ry ⟨_, _, c, rfl, rfl, by rw [← line_eq]; exact z, e, h.str hF⟩ hs
      · exact h.elim
    · exact h.elim
  · exact h.elim
def rSD (X : Cx) : V → Option Int → Option Int → Hp → VK → Prop := fun x lo hi H Q => ∃ F dx, Sub F H ∧ RepR X.w X.K F H x dx ∧ ResM X.w X.K F H (slcD dx lo hi) Q
theorem sl_D : SlR X (rSD X) := by
  intro pins s σ H x v vl vu lo hi sl Q I rx hs pl pu h
  obtain ⟨F, dx, hF, hx, h⟩ := h
  unfold slcD at h
  split at h
  · obtain ⟨a, xs, rfl, qa, ra⟩ := hx.list hF
    exact sl_list pins s σ H _ v vl vu lo hi sl Q I rx hs pl pu ⟨a, xs, rfl, qa, fun p hp => ResO.lst hF h (ra.cut lo hi) hp⟩
  · obtain ⟨a, xs, rfl, qa, ra⟩ := hx.tupleF
    refine sl_tupP pins s σ H _ v vl vu lo hi sl Q I rx hs pl pu ⟨a, xs, rfl, SqT.sub hF qa.t, fun e => ?_, fun e => Res.tupNew hF h (ra.cut lo hi)⟩
    refine Res.tupOld hF h ?_ qa
    have := ra.cut lo hi
    unfold cutV at this
    rw [e.1, e.2] at this
    simpa using this
  · cases hx.str
    split at h
    · rename_i z
      refine sl_str pins s σ H _ v vl vu lo hi sl Q I rx hs pl pu ⟨_, rfl, by rw [← line_eq]; exact z, ?_⟩
      exact h.str hF
    · exact h.elim
  · exact h.elim
/-- arguments by values -/
def RepRs (w : World) (K : Fr) (F H : Hp) : List V → List D → Prop
  | [], [] => True
  | v :: vs, d :: ds => RepR w K F H v d ∧ RepRs w K F H vs ds
  | _, _ => False
theorem RepRs.one {w : World} {K : Fr} {F H : Hp} {vs : List V} {d : D} (h : RepRs w K F H vs [d]) : ∃ v, vs = [v] ∧ RepR w K F H v d := by
  match vs, h with
  | [v], h => exact ⟨v, rfl, h.1⟩
theorem RepRs.two {w : World} {K : Fr} {F H : Hp} {vs : List V} {d e : D} (h : RepRs w K F H vs [d, e]) : ∃ v u, vs = [v, u] ∧ RepR w K F H v d ∧ RepR w K F H u e := by
  match vs, h with
  | [v, u], h => exact ⟨v, u, rfl, h.1, h.2.1⟩
def rP (X : Cx) (p : Pr) : List V → Hp → VK → Prop := fun xs H Q => ∃ F ds, Sub F H ∧ RepRs X.w X.K F H xs ds ∧ ResM X.w X.K F H (prD p ds) Q
/-- len of a dict: apart -/
def LenDict (X : Cx) : Prop := CallR X (.builtin "len") (fun xs H Q => ∃ F kvs v, Sub F H ∧ xs = [v] ∧ RepR X.w X.K F H v (.dict kvs) ∧ Q (.int kvs.length) H)
theorem cr_len (hd : LenDict X) : CallR X (.builtin "len") (rP X .len) := by
  intro pins s σ H xs us Q I r h
  obtain ⟨F, ds, hF, hx, h⟩ := h
  simp only [prD] at h
  unfold lenD at h
  split at h <;> try (exact h.elim)
  · obtain ⟨v, rfl, hv⟩ := hx.one
    obtain ⟨a, xs, rfl, qa, ra⟩ := hv.list hF
    refine call_len_seq pins s σ H _ us Q I r ⟨a, xs, rfl, .inl qa, ?_⟩
    rw [ra.length]; exact Res.int hF h
  · obtain ⟨v, rfl, hv⟩ := hx.one
    obtain ⟨a, xs, rfl, qa, ra⟩ := hv.tuple hF
    refine call_len_seq pins s σ H _ us Q I r ⟨a, xs, rfl, .inr qa, ?_⟩
    rw [ra.length]; exact Res.int hF h
  · obtain ⟨v, rfl, hv⟩ := hx.one
    exact hd pins s σ H _ us Q I r ⟨F, _, v, hF, rfl, hv, Res.int hF h⟩
  · obtain ⟨v, rfl, hv⟩ := hx.one
    cases hv.str
    split at h
    · rename_i z
      exact call_len pins s σ H _ us Q I r ⟨_, _, rfl, ⟨by rw [← line_eq]; exact z, rfl⟩, Res.int hF h⟩
    · exact h.elim
theorem cr_list : CallR X (.type "list") (rP X .list) := by
  intro pins s σ H xs us Q I r h
  obtain ⟨F, ds, hF, hx, h⟩ := h
  simp only [prD] at h
  unfold listD at h
  split at h <;> try (exact h.elim)
  · obtain ⟨v, rfl, hv⟩ := hx.one
    obtain ⟨a, xs, rfl, qa, ra⟩ := hv.list hF
    exact call_list_of pins s σ H _ us Q I r ⟨a, xs, rfl, .inl qa, fun p hp => ResO.lst hF h ra hp⟩
  · obtain ⟨v, rfl, hv⟩ := hx.one
    obtain ⟨a, xs, rfl, qa, ra⟩ := hv.tuple hF
    exact call_list_of pins s σ H _ us Q I r ⟨a, xs, rfl, .inr qa, fun p hp => ResO.lst hF h ra hp⟩
theorem cr_tuple : CallR X (.type "tuple") (rP X .tuple) := by
  intro pins s σ H xs us Q I r h
  obtain ⟨F, ds, hF, hx, h⟩ := h
  simp only [prD] at h
  unfold tupleD at h
  split at h <;> try (exact h.elim)
  · obtain ⟨v, rfl, hv⟩ := hx.one
    obtain ⟨a, xs, rfl, qa, ra⟩ := hv.list hF
    exact call_tupP pins s σ H _ us Q I r ⟨a, xs, rfl, .inl ⟨qa, Res.tupNew hF h ra⟩⟩
  · obtain ⟨v, rfl, hv⟩ := hx.one
    obtain ⟨a, xs, rfl, qa, ra⟩ := hv.tupleF
    exact call_tupP pins s σ H _ us Q I r ⟨a, xs, rfl, .inr ⟨SqT.sub hF qa.t, Res.tupOld hF h ra qa⟩⟩
theorem cr_int : CallR X (.type "int") (rP X .int) := by
  intro pins s σ H xs us Q I r h
  obtain ⟨F, ds, hF, hx, h⟩ := h
  simp only [prD] at h
  unfold intD at h
  split at h <;> try (exact h.elim)
  · obtain ⟨v, rfl, hv⟩ := hx.one
    cases hv.int
    exact call_int1 pins s σ H _ us Q I r (.inl ⟨_, rfl, Res.int hF h⟩)
  · obtain ⟨v, rfl, hv⟩ := hx.one
    cases hv.bool
    exact call_int1 pins s σ H _ us Q I r (.inr ⟨_, rfl, Res.int hF h⟩)
  · obtain ⟨v, rfl, hv⟩ := hx.one
    cases hv.str
    split at h
    · rename_i n e
      split at h
      · rename_i z
        exact call_int_str pins s σ H _ us Q I r ⟨_, n, rfl, e, z, Res.int hF h⟩
      · exact h.elim
    · exact h.elim
theorem cr_abs : CallR X (.builtin "abs") (rP X .abs) := by
  intro pins s σ H xs us Q I r h
  obtain ⟨F, ds, hF, hx, h⟩ := h
  simp only [prD] at h
  unfold absD at h
  split at h <;> try (exact h.elim)
  obtain ⟨v, rfl, hv⟩ := hx.one
  cases hv.int
  exact call_abs pins s σ H _ us Q I r ⟨_, rfl, Res.int hF h⟩
theorem cr_max2 (hc : X.calm = true) : CallR X (.builtin "max") (rP X .max2) := by
  intro pins s σ H xs us Q I r h
  obtain ⟨F, ds, hF, hx, h⟩ := h
  simp only [prD] at h
  unfold max2D at h
  split at h <;> try (exact h.elim)
  obtain ⟨v, u, rfl, hv, hu⟩ := hx.two
  cases hv.int; cases hu.int
  exact call_max2 hc pins s σ H _ us Q I r ⟨_, _, rfl, Res.int hF h⟩
theorem cr_min2 (hc : X.calm = true) : CallR X (.builtin "min") (rP X .min2) := by
  intro pins s σ H xs us Q I r h
  obtain ⟨F, ds, hF, hx, h⟩ := h
  simp only [prD] at h
  unfold min2D at h
  split at h <;> try (exact h.elim)
  obtain ⟨v, u, rfl, hv, hu⟩ := hx.two
  cases hv.int; cases hu.int
  exact call_min2 hc pins s σ H _ us Q I r ⟨_, _, rfl, Res.int hF h⟩
theorem cr_str : CallR X (.type "str") (rP X .str) := by
  intro pins s σ H xs us Q I r h
  obtain ⟨F, ds, hF, hx, h⟩ := h
  simp only [prD] at h
  unfold strD at h
  split at h <;> try (exact h.elim)
  obtain ⟨v, rfl, hv⟩ := hx.one
  cases hv.int
  split at h
  · rename_i z
    exact call_str_int pins s σ H _ us Q I r ⟨_, rfl, z, Res.str hF h⟩
  · exact h.elim
theorem ints_of {w : World} {K : Fr} {F : Hp} : ∀ {xs : List V} {ds : List D} {ns : List Int}, RepL w K F xs ds → ints? ds = some ns → xs = ns.map V.int ∧ ds = ns.map PyData.int
  | [], [], ns, _, e => by simp only [ints?, Option.some.injEq] at e; subst e; exact ⟨rfl, rfl⟩
  | [], _ :: _, _, h, _ => by simp only [RepL] at h
  | _ :: _, [], _, h, _ => by simp only [RepL] at h
  | v :: vs, d :: ds, ns, h, e => by
    simp only [RepL] at h
    unfold ints? at e
    split at e
    · rename_i hh; cases hh
    · rename_i i r hh
      cases hh
      cases q : ints? ds with
      | none => rw [q] at e; cases e
      | some ms =>
        rw [q] at e
        simp only [Option.map_some, Option.some.injEq] at e
        subst e
        obtain ⟨e1, e2⟩ := ints_of h.2 q
        have := h.1
        simp only [Rep] at this
        rw [this, e1, e2]
        exact ⟨rfl, rfl⟩
    · cases e
theorem cr_sumD (hc : X.calm = true) : CallR X (.builtin "sum") (rP X .sum) := by
  intro pins s σ H xs us Q I r h
  obtain ⟨F, ds, hF, hx, h⟩ := h
  simp only [prD] at h
  unfold sumD at h
  split at h <;> try (exact h.elim)
  rename_i xs
  obtain ⟨v, rfl, hv⟩ := hx.one
  obtain ⟨a, ys, rfl, qa, ra⟩ := hv.list hF
  cases e : ints? xs with
  | none => rw [e] at h; exact h.elim
  | some ns =>
    rw [e] at h
    obtain ⟨e1, e2⟩ := ints_of ra e
    subst e1
    exact cr_sum hc pins s σ H _ us Q I r ⟨a, ns, rfl, qa, Res.int hF h⟩
theorem un_D : UnR X (unaryOp .USub) (fun x H Q => ∃ F dx, Sub F H ∧ RepR X.w X.K F H x dx ∧ Res X.w X.K F H (negD dx) Q) := by
  intro pins s σ H x v Q I rx h
  obtain ⟨F, dx, hF, hx, h⟩ := h
  unfold negD at h
  split at h
  · cases hx.int
    exact un_neg pins s σ H _ v Q I rx ⟨_, rfl, Res.int hF h⟩
  · exact h.elim
end
end Ad
set_option Elab.async false
set_option linter.all false
set_option maxRecDepth 100000
set_option maxHeartbeats 4000000
/-! Dicts: flat keys by the kit's mixKind, tuples by nestedKind. -/
namespace Ad
open PySem PySem.Spec PyProof.Rows L2
def keyK : D → Key
  | .int i => .inl i
  | .str x => .inr x
  | _ => .inl 0
def vks : List DictEntry → List (D × D) → List (Key × Value)
  | e :: es, (k, _) :: r => (keyK k, e.val) :: vks es r
  | _, _ => []
def refA : Value → Addr
  | .ref a => a
  | _ => 0
def xks : List DictEntry → List (D × D) → List (NestedKey × Addr × Value)
  | e :: es, (k, _) :: r => (nkey k, refA e.key, e.val) :: xks es r
  | _, _ => []
section
variable {w : World} {K : Fr} {F H : Hp} {P : Program}
theorem eqv_flat {a b : D} (ha : keyF a = true) (hb : keyF b = true) : PyData.eqv a b = decide (keyK a = keyK b) := by
  cases a <;> first | (cases ha; done) | skip
  all_goals cases b <;> first | (cases hb; done) | skip
  · rename_i i j; rw [keyK, keyK, key_ll]; rfl
  · rename_i i j; rw [keyK, keyK, key_lr]; rfl
  · rename_i i j; rw [keyK, keyK, key_rl]; rfl
  · rename_i x y
    rw [keyK, keyK, key_rr]
    show (x == y) = _
    by_cases e : x = y
    · subst e; simp
    · rw [decide_eq_false e]; exact beq_eq_false_iff_ne.mpr e
theorem rep_flat {v : V} {k : D} (hk : keyF k = true) (r : Rep w K F v k) : v = kV (keyK k) := by
  cases k <;> first | (cases hk; done) | skip
  · simp only [Rep] at r; exact r
  · simp only [Rep] at r; exact r
theorem hash_flat {k : D} (hk : keyF k = true) : hashD w k = keyH w (keyK k) := by
  cases k <;> first | (cases hk; done) | rfl
theorem RepP.sort {k : D} {es : List DictEntry} {kvs : List (D × D)} (h : RepP w K F es kvs) (ok : okK k kvs = true) : ∀ p ∈ kvs, keyF p.1 = keyF k := by
  cases kvs with
  | nil => exact fun p hp => nomatch hp
  | cons q r =>
    cases es with
    | nil => simp only [RepP] at h
    | cons e es =>
      simp only [RepP, Bool.and_eq_true] at h
      simp only [okK, Bool.and_eq_true, beq_iff_eq] at ok
      obtain ⟨_, _, _, ⟨_, h6⟩, _, _⟩ := h
      intro p hp
      rcases List.mem_cons.mp hp with rfl | hp
      · exact ok.2
      · have := List.all_eq_true.mp h6 p hp
        exact (eq_of_beq this).trans ok.2
theorem findK_none {k : D} : ∀ {kvs : List (D × D)}, findK k kvs = none → ∀ p ∈ kvs, PyData.eqv p.1 k = false
  | [], _, p, hp => nomatch hp
  | (k', v) :: r, h, p, hp => by
    simp only [findK] at h
    split at h
    · cases h
    · rename_i c
      rcases List.mem_cons.mp hp with rfl | hp
      · exact Bool.eq_false_iff.mpr c
      · exact findK_none h p hp
theorem vks_keys : ∀ {es : List DictEntry} {kvs : List (D × D)}, es.length = kvs.length → (vks es kvs).map (·.1) = kvs.map fun p => keyK p.1
  | [], [], _ => rfl
  | [], _ :: _, h => by cases h
  | _ :: _, [], h => by cases h
  | e :: es, (k, d) :: r, h => by
    simp only [vks, List.map_cons]
    rw [vks_keys (by simpa using h)]
theorem RepP.pairs (P : Program) : ∀ {es : List DictEntry} {kvs : List (D × D)}, RepP w K F es kvs → (∀ p ∈ kvs, keyF p.1 = true) →
    PySem.Pairs (mixKind P w) es (vks es kvs) ∧ (∀ e ∈ es, ∃ k, (mixKind P w).is k e.key = true ∧ e.hash = (mixKind P w).hash k) ∧ ((vks es kvs).map (·.1)).Nodup
  | [], [], _, _ => ⟨.nil, fun e h => (nomatch h), List.nodup_nil⟩
  | [], _ :: _, h, _ => by simp only [RepP] at h
  | _ :: _, [], h, _ => by simp only [RepP] at h
  | e :: es, (k, d) :: r, h, f => by
    have hl := RepP.length h
    simp only [RepP] at h
    obtain ⟨⟨x, h1, h2⟩, ⟨y, h3, h4⟩, h5, h6, h7, h8⟩ := h
    have hk := f (k, d) List.mem_cons_self
    have fr : ∀ p ∈ r, keyF p.1 = true := fun p hp => f p (List.mem_cons_of_mem _ hp)
    obtain ⟨p1, p2, p3⟩ := RepP.pairs P h8 fr
    cases rep_flat hk h2
    have hi : (mixKind P w).is (keyK k) e.key = true := kV_is h1
    refine ⟨.cons hi rfl p1, fun e' he => ?_, ?_⟩
    · rcases List.mem_cons.mp he with rfl | he
      · exact ⟨keyK k, hi, by rw [h5, hash_flat hk]; rfl⟩
      · exact p2 e' he
    · simp only [vks, List.map_cons]
      refine List.nodup_cons.mpr ⟨fun z => ?_, p3⟩
      rw [vks_keys (by simpa using hl)] at z
      obtain ⟨p, hp, e⟩ := List.mem_map.mp z
      have := findK_none h7 p hp
      rw [eqv_flat (fr p hp) hk, decide_eq_false_iff_not] at this
      exact this e
theorem RepP.find {k : D} (hk : keyF k = true) : ∀ {es : List DictEntry} {kvs : List (D × D)}, RepP w K F es kvs → (∀ p ∈ kvs, keyF p.1 = true) →
    (∀ d, findK k kvs = some d → ∃ u y, valueAt (vks es kvs) (keyK k) = some u ∧ RelV y u ∧ Rep w K F y d) ∧ (findK k kvs = none → valueAt (vks es kvs) (keyK k) = none)
  | [], [], _, _ => ⟨fun d h => (nomatch h), fun _ => rfl⟩
  | [], _ :: _, h, _ => by simp only [RepP] at h
  | _ :: _, [], h, _ => by simp only [RepP] at h
  | e :: es, (k', d) :: r, h, f => by
    simp only [RepP] at h
    obtain ⟨⟨x, h1, h2⟩, ⟨y, h3, h4⟩, h5, h6, h7, h8⟩ := h
    have hk' := f (k', d) List.mem_cons_self
    obtain ⟨i1, i2⟩ := RepP.find hk h8 fun p hp => f p (List.mem_cons_of_mem _ hp)
    have ev := eqv_flat hk' hk
    simp only [findK, vks]
    by_cases c : keyK k' = keyK k
    · rw [decide_eq_true c] at ev
      simp only [ev, if_true]
      have b : valueAt ((keyK k', e.val) :: vks es r) (keyK k) = some e.val := by simp [valueAt, List.find?_cons, c]
      refine ⟨fun d' z => ?_, fun z => nomatch z⟩
      cases z
      exact ⟨e.val, y, b, h3, h4⟩
    · rw [decide_eq_false c] at ev
      simp only [ev, Bool.false_eq_true, if_false]
      have b : valueAt ((keyK k', e.val) :: vks es r) (keyK k) = valueAt (vks es r) (keyK k) := by simp [valueAt, List.find?_cons, c]
      rw [b]
      exact ⟨i1, i2⟩
end
section
variable {X : Cx} {pins : List (Addr × Obj)} {σ : L2.St} {H F : Hp} {s : Shared} {a : Addr} {es : List DictEntry} {ep : Nat} {kvs : List (D × D)}
theorem Inv.dAt (I : Inv X pins σ H s) (h : DcAt X.K H a es ep) : s.heap.get? a = some (dObj es ep) := by
  rcases h.2 with h | h
  · exact (I.hok a _ h).1
  · exact I.kIn a _ h
theorem dict_flat {h : Heap} {P : Program} {w : World} {K : Fr} (e : h.get? a = some (dObj es ep)) (r : RepP w K F es kvs) (f : ∀ p ∈ kvs, keyF p.1 = true) : h.DictOf (mixKind P w) a (vks es kvs) := by
  obtain ⟨p1, p2, p3⟩ := RepP.pairs P r f
  exact ⟨_, es.toArray, ep, e, ⟨rfl, rfl, rfl⟩, rfl, fun e' he => p2 e' (by simpa using he), by simpa using p1, p3⟩
end
mutual
theorem eqv_key : ∀ (a b : D), keyOk a = true → keyOk b = true → PyData.eqv a b = NestedKey.beq (nkey a) (nkey b)
  | .int i, b, ha, hb => by
    cases b <;> simp only [keyOk] at hb <;> first | (cases hb; done) | skip
    · simp only [PyData.eqv, nkey, NestedKey.beq]; rfl
    · rfl
    · rfl
  | .str x, b, ha, hb => by
    cases b <;> simp only [keyOk] at hb <;> first | (cases hb; done) | skip
    · rfl
    · rename_i y
      simp only [PyData.eqv, nkey, NestedKey.beq]
      by_cases e : x = y
      · subst e; simp
      · rw [decide_eq_false e]; exact beq_eq_false_iff_ne.mpr e
    · rfl
  | .tuple xs, b, ha, hb => by
    cases b <;> simp only [keyOk] at ha hb <;> first | (cases hb; done) | skip
    · rfl
    · rfl
    · simp only [PyData.eqv, nkey, NestedKey.beq]
      exact eqv_keys _ _ ha hb
  | .none, b, ha, hb => by simp only [keyOk] at ha; cases ha
  | .bool _, b, ha, hb => by simp only [keyOk] at ha; cases ha
  | .list _, b, ha, hb => by simp only [keyOk] at ha; cases ha
  | .dict _, b, ha, hb => by simp only [keyOk] at ha; cases ha
theorem eqv_keys : ∀ (a b : List D), keyOks a = true → keyOks b = true → PyData.eqvAll a b = NestedKey.beqAll (nkeys a) (nkeys b)
  | [], [], _, _ => rfl
  | [], _ :: _, _, _ => rfl
  | _ :: _, [], _, _ => rfl
  | x :: xs, y :: ys, ha, hb => by
    simp only [keyOks, Bool.and_eq_true] at ha hb
    simp only [PyData.eqvAll, nkeys, NestedKey.beqAll]
    rw [eqv_key x y ha.1 hb.1, eqv_keys xs ys ha.2 hb.2]
end
mutual
theorem nkey_depth : ∀ (d : D), keyOk d = true → (nkey d).depth = depth d
  | .int _, _ => rfl
  | .str _, _ => rfl
  | .tuple xs, h => by
    simp only [keyOk] at h
    simp only [nkey, NestedKey.depth, depth]
    rw [nkeys_depth xs h]; omega
  | .none, h => by simp only [keyOk] at h; cases h
  | .bool _, h => by simp only [keyOk] at h; cases h
  | .list _, h => by simp only [keyOk] at h; cases h
  | .dict _, h => by simp only [keyOk] at h; cases h
theorem nkeys_depth : ∀ (ds : List D), keyOks ds = true → NestedKey.depthAll (nkeys ds) = depths ds
  | [], _ => rfl
  | d :: ds, h => by
    simp only [keyOks, Bool.and_eq_true] at h
    simp only [nkeys, NestedKey.depthAll, depths]
    rw [nkey_depth d h.1, nkeys_depth ds h.2]
end
section
variable {X : Cx} {pins : List (Addr × Obj)} {σ : L2.St} {H F : Hp} {s : Shared}
mutual
theorem Rep.nested (I : Inv X pins σ H s) (hF : Sub F H) : ∀ (d : D) (v : V) (u : Value), keyOk d = true → Rep X.w X.K F v d → RelV v u → NestedIs s.heap (nkey d) u
  | .int i, v, u, _, h, r => by
    simp only [Rep] at h; subst h
    obtain ⟨t, rfl⟩ := r
    exact .int i t
  | .str i, v, u, _, h, r => by
    simp only [Rep] at h; subst h
    obtain ⟨t, rfl⟩ := r
    exact .text i t
  | .tuple ds, v, u, hk, h, r => by
    simp only [Rep] at h
    simp only [keyOk] at hk
    obtain ⟨a, xs, rfl, q, rl⟩ := h
    cases r
    obtain ⟨its, rv, ⟨o, h1, h2, n, h3⟩, hz⟩ := I.tuple (SqT.sub hF q.t)
    simp only [nkey]
    exact .tup h1 h2 h3 (by simpa using RepL.nested I hF ds xs its hk rl rv)
  | .none, v, u, hk, _, _ => by simp only [keyOk] at hk; cases hk
  | .bool _, v, u, hk, _, _ => by simp only [keyOk] at hk; cases hk
  | .list _, v, u, hk, _, _ => by simp only [keyOk] at hk; cases hk
  | .dict _, v, u, hk, _, _ => by simp only [keyOk] at hk; cases hk
theorem RepL.nested (I : Inv X pins σ H s) (hF : Sub F H) : ∀ (ds : List D) (vs : List V) (us : List Value), keyOks ds = true → RepL X.w X.K F vs ds → Vals vs us → NestedAll s.heap (nkeys ds) us
  | [], [], _, _, _, .nil => .nil
  | [], _ :: _, _, _, h, _ => by simp only [RepL] at h
  | _ :: _, [], _, _, h, _ => by simp only [RepL] at h
  | d :: ds, v :: vs, _, hk, h, .cons r t => by
    simp only [keyOks, Bool.and_eq_true] at hk
    simp only [RepL] at h
    exact .cons (Rep.nested I hF d v _ hk.1 h.1 r) (RepL.nested I hF ds vs _ hk.2 h.2 t)
end
theorem keyed_ok {k : D} (h : keyed k = true) : keyOk k = true ∧ depth k ≤ 4 := by
  simp only [keyed, Bool.and_eq_true, decide_eq_true_eq] at h; exact h
theorem rep_tup {w : World} {K : Fr} {v : V} {k : D} (hk : keyed k = true) (hf : keyF k = false) (r : Rep w K F v k) : ∃ a, v = .ref a := by
  have hk := (keyed_ok hk).1
  cases k <;> simp only [keyOk, keyF] at hk hf <;> first | (cases hk; done) | (cases hf; done) | skip
  simp only [Rep] at r
  obtain ⟨a, xs, rfl, _⟩ := r
  exact ⟨a, rfl⟩
theorem hash_tup {w : World} {k : D} (hf : keyF k = false) : hashD w k = (nkey k).hash w := by
  cases k <;> first | rfl | cases hf
theorem eqv_nk {a b : D} (ha : keyed a = true) (hb : keyed b = true) : PyData.eqv a b = decide (nkey a = nkey b) := by
  rw [eqv_key a b (keyed_ok ha).1 (keyed_ok hb).1, NestedKey.decide_eq]
theorem Rep.isNk (I : Inv X pins σ H s) (hF : Sub F H) {k : D} {a : Addr} (hk : keyed k = true) (r : Rep X.w X.K F (.ref a) k) : (nestedKind X.prog X.w).is s.heap (nkey k) a := by
  refine ⟨Rep.nested I hF k (.ref a) (.ref a) (keyed_ok hk).1 r rfl, ?_⟩
  rw [nkey_depth k (keyed_ok hk).1]
  have := (keyed_ok hk).2
  omega
theorem xks_keys : ∀ {es : List DictEntry} {kvs : List (D × D)}, es.length = kvs.length → (xks es kvs).map (·.1) = kvs.map fun p => nkey p.1
  | [], [], _ => rfl
  | [], _ :: _, h => by cases h
  | _ :: _, [], h => by cases h
  | e :: es, (k, d) :: r, h => by
    simp only [xks, List.map_cons]
    rw [xks_keys (by simpa using h)]
theorem RepP.pairsT (I : Inv X pins σ H s) (hF : Sub F H) : ∀ {es : List DictEntry} {kvs : List (D × D)}, RepP X.w X.K F es kvs → (∀ p ∈ kvs, keyF p.1 = false) →
    es = (xks es kvs).map (entryOfKey (nestedKind X.prog X.w)) ∧ (∀ x ∈ xks es kvs, (nestedKind X.prog X.w).is s.heap x.1 x.2.1) ∧ ((xks es kvs).map (·.1)).Nodup ∧ (∀ p ∈ kvs, keyed p.1 = true)
  | [], [], _, _ => ⟨rfl, fun e h => (nomatch h), List.nodup_nil, fun p h => (nomatch h)⟩
  | [], _ :: _, h, _ => by simp only [RepP] at h
  | _ :: _, [], h, _ => by simp only [RepP] at h
  | e :: es, (k, d) :: r, h, f => by
    have hl := RepP.length h
    simp only [RepP, Bool.and_eq_true] at h
    obtain ⟨⟨x, h1, h2⟩, ⟨y, h3, h4⟩, h5, ⟨h6, _⟩, h7, h8⟩ := h
    have hk := f (k, d) List.mem_cons_self
    obtain ⟨p1, p2, p3, p4⟩ := RepP.pairsT I hF h8 fun p hp => f p (List.mem_cons_of_mem _ hp)
    obtain ⟨a, rfl⟩ := rep_tup h6 hk h2
    have ha : e.key = .ref a := h1
    simp only [xks, List.map_cons]
    refine ⟨?_, fun z hz => ?_, List.nodup_cons.mpr ⟨fun z => ?_, p3⟩, fun p hp => ?_⟩
    · rw [← p1]
      congr 1
      obtain ⟨eh, ek, ev⟩ := e
      simp only at ha h5
      subst ha h5
      simp only [entryOfKey, refA]
      rw [hash_tup hk]; rfl
    · rcases List.mem_cons.mp hz with rfl | hz
      · rw [ha]; exact Rep.isNk I hF h6 h2
      · exact p2 z hz
    · rw [xks_keys (by simpa using hl)] at z
      obtain ⟨p, hp, e⟩ := List.mem_map.mp z
      have := findK_none h7 p hp
      rw [eqv_nk (p4 p hp) h6, decide_eq_false_iff_not] at this
      exact this e
    · rcases List.mem_cons.mp hp with rfl | hp
      · exact h6
      · exact p4 p hp
theorem RepP.findT {w : World} {K : Fr} {k : D} (hk : keyed k = true) : ∀ {es : List DictEntry} {kvs : List (D × D)}, RepP w K F es kvs →
    (∀ d, findK k kvs = some d → ∃ b u y, atKey (xks es kvs) (nkey k) = some (b, u) ∧ RelV y u ∧ Rep w K F y d) ∧ (findK k kvs = none → atKey (xks es kvs) (nkey k) = none)
  | [], [], _ => ⟨fun d h => (nomatch h), fun _ => rfl⟩
  | [], _ :: _, h => by simp only [RepP] at h
  | _ :: _, [], h => by simp only [RepP] at h
  | e :: es, (k', d) :: r, h => by
    simp only [RepP, Bool.and_eq_true] at h
    obtain ⟨⟨x, h1, h2⟩, ⟨y, h3, h4⟩, h5, ⟨h6, _⟩, h7, h8⟩ := h
    obtain ⟨i1, i2⟩ := RepP.findT hk h8
    have ev := eqv_nk h6 hk
    simp only [findK, xks]
    by_cases c : nkey k' = nkey k
    · rw [decide_eq_true c] at ev
      simp only [ev, if_true]
      have b : atKey ((nkey k', refA e.key, e.val) :: xks es r) (nkey k) = some (refA e.key, e.val) := by simp [atKey, List.find?_cons, c]
      refine ⟨fun d' z => ?_, fun z => nomatch z⟩
      cases z
      exact ⟨_, e.val, y, b, h3, h4⟩
    · rw [decide_eq_false c] at ev
      simp only [ev, Bool.false_eq_true, if_false]
      have b : atKey ((nkey k', refA e.key, e.val) :: xks es r) (nkey k) = atKey (xks es r) (nkey k) := by simp [atKey, List.find?_cons, c]
      rw [b]
      exact ⟨i1, i2⟩
theorem dict_tup {a : Addr} {es : List DictEntry} {ep : Nat} {kvs : List (D × D)} (I : Inv X pins σ H s) (hF : Sub F H) (e : s.heap.get? a = some (dObj es ep)) (r : RepP X.w X.K F es kvs) (f : ∀ p ∈ kvs, keyF p.1 = false) : s.heap.DictOfH (nestedKind X.prog X.w) a (xks es kvs) := by
  obtain ⟨p1, p2, p3, p4⟩ := RepP.pairsT I hF r f
  exact ⟨_, es.toArray, ep, e, ⟨rfl, rfl, rfl⟩, rfl, by simpa using p1, p2, p3⟩
end
end Ad
set_option Elab.async false
set_option linter.all false
set_option maxRecDepth 100000
set_option maxHeartbeats 4000000
namespace PySem
section
variable {prog : Program} {w : World} {K : Type} [DecidableEq K] {knd : HeapKind prog w K} {A : Around} {E : Value → Shared → Prop} {s : Shared}
theorem wpAny_truthy_dictH {d : Addr} {kvs : List (K × Addr × Value)} {Q : Bool → Shared → Prop} (hd : (d == sysModules) = false) (hm : s.heap.DictOfH knd d kvs) (hfit : (kvs.length : Int) < 2 ^ 63)
    (h : Q (!kvs.isEmpty) { s with toks := s.toks + 1 + 1 }) : wpAny (model prog w) A (truthy (.ref d)) Q E s := by
  have hne : ((kvs.length : Int) != 0) = !kvs.isEmpty := by cases kvs <;> simp <;> omega
  have key : wpAny (model prog w) A (runValue (.builtin "len" ⟨[.ref d], []⟩)) (fun r s' => r = .int kvs.length (s.toks + 1) ∧ Q (!kvs.isEmpty) s') E s := by
    refine wpAny_runValue (codeAny_builtin entry_len ?_)
    rw [Around.under_plainId plain_len _]
    exact wpAny_mono (wpAny_len_body_dictH (Q := fun r s' => r = .int kvs.length (s.toks + 1) ∧ Q (!kvs.isEmpty) s') hd hm hfit ⟨rfl, h⟩)
      (fun fin s' h' => by obtain ⟨r, rfl, hq⟩ := h'; exact hq) fun _ _ e => e
  unfold truthy
  first
    | refine wpAny_bind (wpAny_callSpecial?_none (name := Str.ofString "__bool__") hm.typeIs noBool_dict ?_)
    | refine wpAny_bind (wpAny_pure (wpAny_bind (wpAny_callSpecial?_none (name := Str.ofString "__bool__") hm.typeIs noBool_dict ?_)))
  first
    | refine wpAny_bind (wpAny_specialOf (name := Str.ofString "__len__") hm.typeIs F.slot_dict_len.lookup ?_)
    | refine wpAny_bind (wpAny_pure (wpAny_bind (wpAny_specialOf (name := Str.ofString "__len__") hm.typeIs F.slot_dict_len.lookup ?_)))
  first
    | exact wpAny_bind (wpAny_mono key (fun r s' h' => by obtain ⟨rfl, hq⟩ := h'; exact wpAny_pure (hne ▸ hq)) fun _ _ e => e)
    | exact wpAny_bind (wpAny_pure (wpAny_bind (wpAny_mono key (fun r s' h' => by obtain ⟨rfl, hq⟩ := h'; exact wpAny_pure (hne ▸ hq)) fun _ _ e => e)))
end
end PySem
namespace Ad
open PySem PySem.Spec PyProof.Rows L2
section
variable {X : Cx} {pins : List (Addr × Obj)} {σ : L2.St} {H F : Hp} {s : Shared} {a : Addr} {es : List DictEntry} {ep : Nat} {kvs : List (D × D)} {k : D}
theorem RepP.two {w : World} {K : Fr} (h : RepP w K F es kvs) : (∀ p ∈ kvs, keyF p.1 = true) ∨ (∀ p ∈ kvs, keyF p.1 = false) := by
  cases kvs with
  | nil => exact .inl fun p hp => nomatch hp
  | cons q r =>
    cases es with
    | nil => simp only [RepP] at h
    | cons e es =>
      simp only [RepP, Bool.and_eq_true] at h
      obtain ⟨_, _, _, ⟨_, h6⟩, _, _⟩ := h
      have go : ∀ p ∈ q :: r, keyF p.1 = keyF q.1 := fun p hp => by
        rcases List.mem_cons.mp hp with rfl | hp
        · rfl
        · exact eq_of_beq (List.all_eq_true.mp h6 p hp)
      cases c : keyF q.1 with
      | true => exact .inl fun p hp => (go p hp).trans c
      | false => exact .inr fun p hp => (go p hp).trans c
theorem vks_len : ∀ {es : List DictEntry} {kvs : List (D × D)}, es.length = kvs.length → (vks es kvs).length = kvs.length
  | [], [], _ => rfl
  | [], _ :: _, h => by cases h
  | _ :: _, [], h => by cases h
  | e :: es, (k, d) :: r, h => by simp only [vks, List.length_cons]; rw [vks_len (by simpa using h)]
theorem xks_len : ∀ {es : List DictEntry} {kvs : List (D × D)}, es.length = kvs.length → (xks es kvs).length = kvs.length
  | [], [], _ => rfl
  | [], _ :: _, h => by cases h
  | _ :: _, [], h => by cases h
  | e :: es, (k, d) :: r, h => by simp only [xks, List.length_cons]; rw [xks_len (by simpa using h)]
theorem room8 (hu : X.A.units + 200 < cLine) : (nestedKind X.prog X.w).room X.A.in1 := by
  show X.A.in1.units + 8 < cLine
  rw [Around.in1_units]; omega
theorem isSome_of {α : Type} {o : Option α} : (∃ a, o = some a) ∨ o = none := by cases o <;> simp
theorem in_dict (hu : X.A.units + 200 < cLine) : InDict X := by
  intro neg pins s σ H x y v u Q I rx ry h
  obtain ⟨F, d, kvs, hF, hx, hy, ok, q⟩ := h
  obtain ⟨a, es, ep, rfl, hd, hz, rp⟩ := hy.dict hF
  cases ry
  have at' := Inv.dAt I hd
  have srt := rp.sort ok
  cases c : keyF d with
  | true =>
    rw [c] at srt
    cases rep_flat c hx
    have dd := dict_flat (P := X.prog) at' rp srt
    obtain ⟨f1, f2⟩ := RepP.find c rp srt
    have e : (valueAt (vks es kvs) (keyK d)).isSome = (findK d kvs).isSome := by
      cases z : findK d kvs with
      | none => rw [f2 z]; rfl
      | some d' => obtain ⟨u', y', z1, _⟩ := f1 d' z; rw [z1]; rfl
    cases neg with
    | true =>
      refine wpAny_notIn_of (kV_is rx) hd.1 dd.mapOf ?_
      rw [e]
      exact ⟨.bl _, H, I.tok _, rfl, q⟩
    | false =>
      refine wpAny_in_of (kV_is rx) hd.1 dd.mapOf ?_
      rw [e]
      exact ⟨.bl _, H, I.tok _, rfl, q⟩
  | false =>
    rw [c] at srt
    have hk := okK_keyed ok
    obtain ⟨b, rfl⟩ := rep_tup hk c hx
    cases rx
    have dd := dict_tup I hF at' rp srt
    obtain ⟨f1, f2⟩ := RepP.findT hk rp
    have e : (atKey (xks es kvs) (nkey d)).isSome = (findK d kvs).isSome := by
      cases z : findK d kvs with
      | none => rw [f2 z]; rfl
      | some d' => obtain ⟨b', u', y', z1, _⟩ := f1 d' z; rw [z1]; rfl
    cases neg with
    | true =>
      refine wpAny_notIn_heap (room8 hu) (Rep.isNk I hF hk hx) hd.1 dd ?_
      rw [e]
      exact ⟨.bl _, H, I.tok _, rfl, q⟩
    | false =>
      refine wpAny_in_heap (room8 hu) (Rep.isNk I hF hk hx) hd.1 dd ?_
      rw [e]
      exact ⟨.bl _, H, I.tok _, rfl, q⟩
theorem ix_dict (hu : X.A.units + 200 < cLine) : IxDict X := by
  intro value slice pins s σ H x y v u Q I rx ry h hs
  obtain ⟨F, d, kvs, r, hF, hx, hy, ok, hf, q⟩ := h
  obtain ⟨a, es, ep, rfl, hd, hz, rp⟩ := hx.dict hF
  cases rx
  have at' := Inv.dAt I hd
  have srt := rp.sort ok
  cases c : keyF d with
  | true =>
    rw [c] at srt
    cases rep_flat c hy
    have dd := dict_flat (P := X.prog) at' rp srt
    obtain ⟨f1, f2⟩ := RepP.find c rp srt
    obtain ⟨u', y', z1, z2, z3⟩ := f1 r hf
    exact tail_any dd.typeIs PySem.F.slot_dict_getitem.lookup (wpAny_getItem_of (kV_is ry) dd.mapOf z1 ⟨y', H, I.tok _, z2, q y' z3⟩) hs
  | false =>
    rw [c] at srt
    have hk := okK_keyed ok
    obtain ⟨b, rfl⟩ := rep_tup hk c hy
    cases ry
    have dd := dict_tup I hF at' rp srt
    obtain ⟨f1, f2⟩ := RepP.findT hk rp
    obtain ⟨b', u', y', z1, z2, z3⟩ := f1 r hf
    exact tail_any dd.typeIs PySem.F.slot_dict_getitem.lookup (wpAny_getItem_heap (room8 hu) (Rep.isNk I hF hk hy) dd z1 ⟨y', H, I.tok _, z2, q y' z3⟩) hs
theorem len_dict : LenDict X := by
  intro pins s σ H xs us Q I rx h
  obtain ⟨F, kvs, v, hF, rfl, hx, q⟩ := h
  obtain ⟨a, es, ep, rfl, hd, hz, rp⟩ := hx.dict hF
  obtain ⟨u, rfl, ru⟩ := rx.one
  cases ru
  have at' := Inv.dAt I hd
  have hl := RepP.length rp
  have hS := sizeLine_eq
  rcases rp.two with f | f
  · have dd := dict_flat (P := X.prog) at' rp f
    refine call_len_dict hd.1 dd (by rw [vks_len hl]; omega) ?_
    rw [vks_len hl]
    exact ⟨.int _, H, I.tok _, ⟨_, rfl⟩, q⟩
  · have dd := dict_tup I hF at' rp f
    refine call_len_dictH hd.1 dd (by rw [xks_len hl]; omega) ?_
    rw [xks_len hl]
    exact ⟨.int _, H, I.tok _, ⟨_, rfl⟩, q⟩
theorem tru_dict : TruR X (fun x H Q => ∃ F kvs, Sub F H ∧ RepR X.w X.K F H x (.dict kvs) ∧ Q (truth (.dict kvs)) H) := by
  intro pins s σ H x v Q I rx h
  obtain ⟨F, kvs, hF, hx, q⟩ := h
  obtain ⟨a, es, ep, rfl, hd, hz, rp⟩ := hx.dict hF
  cases rx
  have at' := Inv.dAt I hd
  have hl := RepP.length rp
  have hS := sizeLine_eq
  have em : ∀ {β : Type} (l : List β), l.length = kvs.length → l.isEmpty = kvs.isEmpty := fun l e => by cases l <;> cases kvs <;> simp_all
  rcases rp.two with f | f
  · have dd := dict_flat (P := X.prog) at' rp f
    refine wpAny_truthy_dict hd.1 dd (by rw [vks_len hl]; omega) ?_
    rw [em _ (vks_len hl)]
    exact ⟨H, I.tok _, q⟩
  · have dd := dict_tup I hF at' rp f
    refine wpAny_truthy_dictH hd.1 dd (by rw [xks_len hl]; omega) ?_
    rw [em _ (xks_len hl)]
    exact ⟨H, I.tok _, q⟩
end
end Ad
set_option Elab.async false
set_option linter.all false
set_option maxRecDepth 100000
set_option maxHeartbeats 4000000
/-! Dicts that are written. -/
namespace Ad
open PySem PySem.Spec PyProof.Rows L2
def WfK : List (D × D) → Prop
  | [] => True
  | (k, _) :: r => (keyed k && r.all fun p => keyF p.1 == keyF k) = true ∧ findK k r = none ∧ WfK r
def VRel (w : World) (K : Fr) (F : Hp) (p : Key × Value) (q : D × D) : Prop := p.1 = keyK q.1 ∧ ∃ y, RelV y p.2 ∧ Rep w K F y q.2
def XRel (w : World) (K : Fr) (F : Hp) (p : NestedKey × Addr × Value) (q : D × D) : Prop := p.1 = nkey q.1 ∧ Rep w K F (.ref p.2.1) q.1 ∧ ∃ y, RelV y p.2.2 ∧ Rep w K F y q.2
section
variable {w : World} {K : Fr} {F H : Hp} {P : Program} {k d : D}
theorem RepP.wf : ∀ {es : List DictEntry} {kvs : List (D × D)}, RepP w K F es kvs → WfK kvs
  | [], [], _ => trivial
  | [], _ :: _, h => by simp only [RepP] at h
  | _ :: _, [], h => by simp only [RepP] at h
  | e :: es, (k, d) :: r, h => by
    simp only [RepP] at h
    exact ⟨h.2.2.2.1, h.2.2.2.2.1, RepP.wf h.2.2.2.2.2⟩
theorem RepP.vr : ∀ {es : List DictEntry} {kvs : List (D × D)}, RepP w K F es kvs → Paired (VRel w K F) (vks es kvs) kvs
  | [], [], _ => .nil
  | [], _ :: _, h => by simp only [RepP] at h
  | _ :: _, [], h => by simp only [RepP] at h
  | e :: es, (k, d) :: r, h => by
    simp only [RepP] at h
    obtain ⟨_, h3, _, _, _, h8⟩ := h
    exact .cons ⟨rfl, h3⟩ (RepP.vr h8)
theorem RepP.xr : ∀ {es : List DictEntry} {kvs : List (D × D)}, RepP w K F es kvs → (∀ p ∈ kvs, keyF p.1 = false) → Paired (XRel w K F) (xks es kvs) kvs
  | [], [], _, _ => .nil
  | [], _ :: _, h, _ => by simp only [RepP] at h
  | _ :: _, [], h, _ => by simp only [RepP] at h
  | e :: es, (k, d) :: r, h, f => by
    simp only [RepP, Bool.and_eq_true] at h
    obtain ⟨⟨x, h1, h2⟩, h3, _, ⟨h6, _⟩, _, h8⟩ := h
    obtain ⟨a, rfl⟩ := rep_tup h6 (f (k, d) List.mem_cons_self) h2
    have ha : e.key = .ref a := h1
    exact .cons ⟨rfl, by rw [ha]; exact h2, h3⟩ (RepP.xr h8 fun p hp => f p (List.mem_cons_of_mem _ hp))
theorem back_flat (P : Program) : ∀ {es : List DictEntry} {vs : List (Key × Value)} {kvs : List (D × D)}, PySem.Pairs (mixKind P w) es vs → (∀ e ∈ es, ∃ k, (mixKind P w).is k e.key = true ∧ e.hash = (mixKind P w).hash k) →
    Paired (VRel w K F) vs kvs → WfK kvs → (∀ p ∈ kvs, keyF p.1 = true) → RepP w K F es kvs
  | [], [], [], .nil, _, .nil, _, _ => by simp only [RepP]
  | e :: es, v :: vs, (k, d) :: r, .cons h1 h2 h3, hk, .cons q1 q2, wf, f => by
    have ih := back_flat P h3 (fun e' he => hk e' (List.mem_cons_of_mem _ he)) q2 wf.2.2 fun p hp => f p (List.mem_cons_of_mem _ hp)
    have fk := f (k, d) List.mem_cons_self
    obtain ⟨kk, i1, i2⟩ := hk e List.mem_cons_self
    have ek : kk = keyK k := by
      rw [← q1.1]; exact (mixKind P w).inj _ _ _ i1 h1
    subst ek
    simp only [RepP]
    obtain ⟨y, y1, y2⟩ := q1.2
    refine ⟨?_, ⟨y, by rw [h2]; exact y1, y2⟩, by rw [i2, hash_flat fk]; rfl, wf.1, wf.2.1, ih⟩
    rcases keyIs_shape i1 with ⟨i, t, e1, e2⟩ | ⟨x, t, e1, e2⟩
    · cases k <;> first | (cases fk; done) | skip
      · rw [keyK] at e1; cases e1
        exact ⟨.int i, ⟨t, e2⟩, by simp only [Rep]⟩
      · rw [keyK] at e1; cases e1
    · cases k <;> first | (cases fk; done) | skip
      · rw [keyK] at e1; cases e1
      · rw [keyK] at e1; cases e1
        exact ⟨.str x, ⟨t, e2⟩, by simp only [Rep]⟩
theorem back_tup (P : Program) : ∀ {xs : List (NestedKey × Addr × Value)} {kvs : List (D × D)}, Paired (XRel w K F) xs kvs → WfK kvs → (∀ p ∈ kvs, keyF p.1 = false) → RepP w K F (xs.map (entryOfKey (nestedKind P w))) kvs
  | [], [], .nil, _, _ => by simp only [List.map_nil, RepP]
  | x :: xs, (k, d) :: r, .cons q1 q2, wf, f => by
    have ih := back_tup P q2 wf.2.2 fun p hp => f p (List.mem_cons_of_mem _ hp)
    have fk := f (k, d) List.mem_cons_self
    simp only [List.map_cons, RepP]
    obtain ⟨q1, q3, q4⟩ := q1
    refine ⟨⟨.ref x.2.1, rfl, q3⟩, q4, ?_, wf.1, wf.2.1, ih⟩
    simp only [entryOfKey]
    rw [hash_tup fk, q1]; rfl
/-! ### puts -/
theorem WfK.keyed : ∀ {kvs : List (D × D)}, WfK kvs → ∀ p ∈ kvs, Ad.keyed p.1 = true
  | [], _, p, hp => nomatch hp
  | (k, d) :: r, h, p, hp => by
    have := h.1
    simp only [Bool.and_eq_true] at this
    rcases List.mem_cons.mp hp with rfl | hp
    · exact this.1
    · exact WfK.keyed h.2.2 p hp
theorem eqv_symm {a b : D} (ha : keyed a = true) (hb : keyed b = true) : PyData.eqv a b = PyData.eqv b a := by
  rw [eqv_nk ha hb, eqv_nk hb ha]
  by_cases e : nkey a = nkey b
  · rw [decide_eq_true e, decide_eq_true e.symm]
  · rw [decide_eq_false e, decide_eq_false fun z => e z.symm]
theorem putK_new : ∀ {kvs : List (D × D)}, findK k kvs = none → putK k d kvs = kvs ++ [(k, d)]
  | [], _ => rfl
  | (k', v) :: r, h => by
    simp only [findK] at h
    split at h
    · cases h
    · rename_i c
      simp only [putK, if_neg c, List.cons_append]
      rw [putK_new h]
theorem putK_old (hk : keyed k = true) : ∀ {kvs : List (D × D)}, WfK kvs → (findK k kvs).isSome = true → putK k d kvs = kvs.map fun p => if PyData.eqv p.1 k = true then (p.1, d) else p
  | [], _, h => by cases h
  | (k', v) :: r, wf, h => by
    have hk' := WfK.keyed wf (k', v) List.mem_cons_self
    simp only [findK] at h
    simp only [putK, List.map_cons]
    by_cases c : PyData.eqv k' k = true
    · rw [if_pos c, if_pos c]
      congr 1
      symm
      refine (List.map_congr_left fun p hp => ?_).trans (List.map_id _)
      have n := findK_none wf.2.1 p hp
      have hp' := WfK.keyed wf.2.2 p hp
      rw [eqv_nk hp' hk'] at n
      rw [eqv_nk hk' hk, decide_eq_true_eq] at c
      rw [eqv_nk hp' hk, ← c, n]
      rfl
    · rw [if_neg c] at h
      rw [if_neg c, if_neg c, putK_old hk wf.2.2 h]
theorem putK_key (hk : keyed k = true) : ∀ {kvs : List (D × D)} {p : D × D}, p ∈ putK k d kvs → p.1 = k ∨ ∃ q ∈ kvs, q.1 = p.1
  | [], p, h => by simp only [putK, List.mem_singleton] at h; subst h; exact .inl rfl
  | (k', v) :: r, p, h => by
    simp only [putK] at h
    split at h
    · rcases List.mem_cons.mp h with rfl | h
      · exact .inr ⟨(k', v), List.mem_cons_self, rfl⟩
      · exact .inr ⟨p, List.mem_cons_of_mem _ h, rfl⟩
    · rcases List.mem_cons.mp h with rfl | h
      · exact .inr ⟨(k', v), List.mem_cons_self, rfl⟩
      · rcases putK_key hk h with e | ⟨q, hq, e⟩
        · exact .inl e
        · exact .inr ⟨q, List.mem_cons_of_mem _ hq, e⟩
theorem findK_put {k' : D} (hk : keyed k = true) (hk' : keyed k' = true) (hn : PyData.eqv k k' = false) : ∀ {kvs : List (D × D)}, findK k' kvs = none → findK k' (putK k d kvs) = none
  | [], _ => by simp only [putK, findK, hn, Bool.false_eq_true, if_false]
  | (k0, v) :: r, h => by
    simp only [findK] at h
    split at h
    · cases h
    · rename_i c
      simp only [putK]
      split
      · simp only [findK, if_neg c]; exact h
      · simp only [findK, if_neg c]; exact findK_put hk hk' hn h
theorem WfK.put (hk : Ad.keyed k = true) : ∀ {kvs : List (D × D)}, WfK kvs → (∀ p ∈ kvs, keyF p.1 = keyF k) → WfK (putK k d kvs)
  | [], _, _ => ⟨by simp [hk], rfl, trivial⟩
  | (k', v) :: r, wf, f => by
    have hk' := WfK.keyed wf (k', v) List.mem_cons_self
    simp only [putK]
    split
    · exact wf
    · rename_i c
      refine ⟨?_, findK_put hk hk' (by rw [eqv_symm hk hk']; exact Bool.eq_false_iff.mpr c) wf.2.1, WfK.put hk wf.2.2 fun p hp => f p (List.mem_cons_of_mem _ hp)⟩
      simp only [Bool.and_eq_true, List.all_eq_true, beq_iff_eq]
      refine ⟨hk', fun p hp => ?_⟩
      have e := f (k', v) List.mem_cons_self
      rcases putK_key hk hp with z | ⟨q, hq, z⟩
      · rw [z]; exact e.symm
      · rw [← z, f q (List.mem_cons_of_mem _ hq)]; exact e.symm
theorem putK_length (k d : D) : ∀ (kvs : List (D × D)), (putK k d kvs).length ≤ kvs.length + 1
  | [] => Nat.le_refl _
  | (k', v) :: r => by
    simp only [putK]
    split
    · simp
    · have := putK_length k d r
      simp only [List.length_cons]; omega
theorem Paired.map2 {α β : Type} {R : α → β → Prop} {f : α → α} {g : β → β} (h : ∀ a b, R a b → R (f a) (g b)) : ∀ {l : List α} {m : List β}, Paired R l m → Paired R (l.map f) (m.map g)
  | _, _, .nil => .nil
  | _, _, .cons a t => .cons (h _ _ a) (Paired.map2 h t)
theorem Paired.mem {α β : Type} {R : α → β → Prop} : ∀ {l : List α} {m : List β}, Paired R l m → Paired (fun a b => R a b ∧ b ∈ m) l m
  | _, _, .nil => .nil
  | _, _, .cons a t => .cons ⟨a, List.mem_cons_self⟩ (L2.Paired.mapP (Paired.mem t) fun _ _ z => ⟨z.1, List.mem_cons_of_mem _ z.2⟩)
theorem vr_put {vs : List (Key × Value)} {kvs : List (D × D)} {u : Value} {y : V} (hk : keyed k = true) (fk : keyF k = true) (h : Paired (VRel w K F) vs kvs) (wf : WfK kvs) (f : ∀ p ∈ kvs, keyF p.1 = true) (hv : valueAt vs (keyK k) = none ↔ findK k kvs = none) (ru : RelV y u) (ry : Rep w K F y d) : Paired (VRel w K F) (stored vs (keyK k) u) (putK k d kvs) := by
  have ea : (vs.any fun kv => decide (kv.1 = keyK k)) = (findK k kvs).isSome := by
    have : (vs.any fun kv => decide (kv.1 = keyK k)) = (valueAt vs (keyK k)).isSome := by
      clear hv h
      induction vs with
      | nil => rfl
      | cons p r ih =>
        by_cases e : p.1 = keyK k
        · simp [valueAt, List.find?_cons, e]
        · simp only [List.any_cons, e, decide_false, Bool.false_or, ih]
          simp [valueAt, List.find?_cons, e]
    rw [this]
    cases z : findK k kvs with
    | none => rw [hv.mpr z]; rfl
    | some d' =>
      cases z2 : valueAt vs (keyK k) with
      | none => rw [hv.mp z2] at z; cases z
      | some u' => rfl
  unfold stored
  rw [ea]
  cases z : findK k kvs with
  | none =>
    simp only [Option.isSome_none, Bool.false_eq_true, if_false]
    rw [putK_new z]
    exact PySem.Paired.snoc h ⟨rfl, y, ru, ry⟩
  | some d' =>
    simp only [Option.isSome_some, if_true]
    rw [putK_old hk wf (by rw [z]; rfl)]
    have h2 := Paired.mem h
    clear ea h hv z
    have go : ∀ {l : List (Key × Value)} {m : List (D × D)}, Paired (fun a b => VRel w K F a b ∧ b ∈ kvs) l m → Paired (VRel w K F) (l.map fun kv => if kv.1 = keyK k then (kv.1, u) else kv) (m.map fun p => if PyData.eqv p.1 k = true then (p.1, d) else p) := by
      intro l m h
      induction h with
      | nil => exact .nil
      | @cons a b as bs hh t ih =>
        refine .cons ?_ ih
        obtain ⟨⟨h1, h3⟩, hm⟩ := hh
        have ev := eqv_flat (f b hm) fk
        show VRel w K F (if a.1 = keyK k then (a.1, u) else a) (if PyData.eqv b.1 k = true then (b.1, d) else b)
        by_cases e : a.1 = keyK k
        · rw [if_pos e, if_pos (by rw [ev, ← h1]; exact decide_eq_true e)]
          exact ⟨h1, y, ru, ry⟩
        · rw [if_neg e, if_neg (by rw [ev, ← h1, decide_eq_false e]; exact Bool.false_ne_true)]
          exact ⟨h1, h3⟩
    exact go h2
theorem xr_put {vs : List (NestedKey × Addr × Value)} {kvs : List (D × D)} {u : Value} {y : V} {b : Addr} (hk : keyed k = true) (h : Paired (XRel w K F) vs kvs) (wf : WfK kvs) (hv : atKey vs (nkey k) = none ↔ findK k kvs = none) (rb : Rep w K F (.ref b) k) (ru : RelV y u) (ry : Rep w K F y d) : Paired (XRel w K F) (storedH vs (nkey k) b u) (putK k d kvs) := by
  unfold storedH
  cases z : findK k kvs with
  | none =>
    rw [hv.mpr z]
    simp only [Option.isSome_none, Bool.false_eq_true, if_false]
    rw [putK_new z]
    exact PySem.Paired.snoc h ⟨rfl, rb, y, ru, ry⟩
  | some d' =>
    have hs : (atKey vs (nkey k)).isSome = true := by
      cases z2 : atKey vs (nkey k) with
      | none => rw [hv.mp z2] at z; cases z
      | some u' => rfl
    rw [if_pos hs, putK_old hk wf (by rw [z]; rfl)]
    have h2 := Paired.mem h
    clear hs h hv z
    have go : ∀ {l : List (NestedKey × Addr × Value)} {m : List (D × D)}, Paired (fun a b => XRel w K F a b ∧ b ∈ kvs) l m → Paired (XRel w K F) (l.map (PySem.putAt (nkey k) u)) (m.map fun p => if PyData.eqv p.1 k = true then (p.1, d) else p) := by
      intro l m h
      induction h with
      | nil => exact .nil
      | @cons a b as bs hh t ih =>
        refine .cons ?_ ih
        obtain ⟨⟨h1, h3, h4⟩, hm⟩ := hh
        have ev := eqv_nk (WfK.keyed wf b hm) hk
        show XRel w K F (if a.1 = nkey k then (a.1, a.2.1, u) else a) (if PyData.eqv b.1 k = true then (b.1, d) else b)
        by_cases e : a.1 = nkey k
        · rw [if_pos e, if_pos (by rw [ev, ← h1]; exact decide_eq_true e)]
          exact ⟨h1, h3, y, ru, ry⟩
        · rw [if_neg e, if_neg (by rw [ev, ← h1, decide_eq_false e]; exact Bool.false_ne_true)]
          exact ⟨h1, h3, h4⟩
    exact go h2
end
theorem exact_obj {o : Obj} {es : Array DictEntry} {ep : Nat} (h : o.ExactDict) (hd : o.data = .dict es ep) : o = dObj es.toList ep := by
  obtain ⟨c, d, dt, sl⟩ := o
  obtain ⟨h1, h2, h3⟩ := h
  simp only at h1 h2 h3 hd
  subst h1 h2 h3 hd
  simp [dObj]
theorem dho_ok {P : Program} {w : World} {H : Hp} {h : Heap} {a : Addr} {es : List DictEntry} {ep : Nat} (e : h.get? a = some (dObj es ep)) : ObjOk P w H h a (dHO a es ep) :=
  ⟨e, ⟨_, e⟩, fun h1 h2 q k => k _ q⟩
/-- d[k] = v, by values -/
def rSetDD (X : Cx) : TSet := fun o i v H Q => ∃ F p es ep kvs k d, Sub F H ∧ o = .ref p ∧ (p == sysModules) = false ∧ H p = some (dHO p es ep) ∧ RepP X.w X.K F es kvs ∧ Rep X.w X.K F i k ∧ Rep X.w X.K F v d ∧ okK k kvs = true ∧ kvs.length + 1 ≤ sizeLine ∧
  ∀ es' ep', RepP X.w X.K F es' (putK k d kvs) → Q (upd H p (dHO p es' ep'))
theorem set_DD {X : Cx} (hu : X.A.units + 200 < cLine) : PSet X (rSetDD X) := by
  intro pins s σ H o i v ov iv u Q I ro ri rv h
  obtain ⟨F, p, es, ep, kvs, k, d, hF, rfl, hsm, hp, rp, hi, hv, ok, hz, q⟩ := h
  cases ro
  have hd : DcAt X.K H p es ep := ⟨hsm, .inl hp⟩
  have at' := Inv.dAt I hd
  have srt := rp.sort ok
  have hk := okK_keyed ok
  have hl := RepP.length rp
  cases c : keyF k with
  | true =>
    rw [c] at srt
    cases rep_flat c hi
    have dd := dict_flat (P := X.prog) at' rp srt
    obtain ⟨f1, f2⟩ := RepP.find c rp srt
    refine wpAny_setItem_pairs (hsz := by rw [vks_len hl]; omega) (kV_is ri) dd fun h' dd' hs => ?_
    obtain ⟨o', es', ep', g1, g2, g3, g4, g5, g6⟩ := dd'
    rw [exact_obj g2 g3] at g1
    have hkv : valueAt (vks es kvs) (keyK k) = none ↔ findK k kvs = none := by
      refine ⟨fun z => ?_, f2⟩
      cases z2 : findK k kvs with
      | none => rfl
      | some d' =>
        obtain ⟨u', y', z1, _⟩ := f1 d' z2
        rw [z] at z1; cases z1
    refine ⟨_, d_write I (ob := dHO p es'.toList ep') (by rw [hp]; exact trivial) hs ⟨_, g1⟩ (dho_ok g1), q _ _ (back_flat X.prog g5 (fun e he => g4 e (by simpa using he)) (vr_put hk c rp.vr rp.wf srt hkv rv hv) (WfK.put hk rp.wf (by rw [c]; exact srt)) fun x hx => ?_)⟩
    rcases putK_key hk hx with z | ⟨y, hy, z⟩
    · rw [z]; exact c
    · rw [← z]; exact srt y hy
  | false =>
    rw [c] at srt
    obtain ⟨b, rfl⟩ := rep_tup hk c hi
    cases ri
    have dd := dict_tup I hF at' rp srt
    obtain ⟨f1, f2⟩ := RepP.findT hk rp
    refine wpAny_setItem_heap (hsz := by rw [xks_len hl]; omega) (room8 hu) (Rep.isNk I hF hk hi) dd fun h' dd' hs => ?_
    obtain ⟨o', es', ep', g1, g2, g3, g4, g5, g6⟩ := dd'
    rw [exact_obj g2 g3] at g1
    have hkv : atKey (xks es kvs) (nkey k) = none ↔ findK k kvs = none := by
      refine ⟨fun z => ?_, f2⟩
      cases z2 : findK k kvs with
      | none => rfl
      | some d' =>
        obtain ⟨b', u', y', z1, _⟩ := f1 d' z2
        rw [z] at z1; cases z1
    refine ⟨_, d_write I (ob := dHO p es'.toList ep') (by rw [hp]; exact trivial) hs ⟨_, g1⟩ (dho_ok g1), q _ _ ?_⟩
    rw [g4]
    refine back_tup X.prog (xr_put hk (rp.xr srt) rp.wf hkv hi rv hv) (WfK.put hk rp.wf (by rw [c]; exact srt)) fun x hx => ?_
    rcases putK_key hk hx with z | ⟨y, hy, z⟩
    · rw [z]; exact c
    · rw [← z]; exact srt y hy
/-- {} -/
def tDNew : TE := fun _ H Q => ∀ p, H p = none → (p == sysModules) = false → Q (.ref p) (upd H p (dHO p [] 0))
theorem pe_dnew {X : Cx} {pos : Pos} : PE X (.Dict [] [] pos) tDNew := ⟨fun pins s σ H Q I h =>
  wpAny_Dict_empty ⟨.ref s.heap.objs.size, _, I.laid (a := s.heap.objs.size) (o := dHO s.heap.objs.size [] 0) (t' := s.toks) (fun _ _ q => Heap.get?_push_of_some _ q) (Nat.le_refl _) (dho_ok (Heap.get?_push_size _ rfl)), rfl, h _ (I.hok.fresh (Nat.le_refl _)) (beq_eq_false_iff_ne.mpr (Ne.symm (Nat.ne_of_lt I.big)))⟩⟩
end Ad
set_option Elab.async false
set_option linter.all false
set_option maxRecDepth 100000
set_option maxHeartbeats 4000000
/-! dict(d) of an empty dict. -/
namespace Ad
open PySem PySem.Spec PyProof.Rows L2
section
variable {prog : Program} {w : World} {A : Around} {E : Value → Shared → Prop} {s : Shared}
theorem call_dict_empty {o : Addr} {ep : Nat} {Q : Value → Shared → Prop} (hoS : (o == sysModules) = false) (ho : s.heap.get? o = some (dObj [] ep))
    (h : Q (.ref s.heap.objs.size) { s with heap := s.heap.push { cls := .type "dict", data := .dict #[] } }) : wpAny (model prog w) A (call (.type "dict") [.ref o]) Q E s := by
  refine callType_codes (Q₁ := fun obj s₁ => obj = .ref s.heap.objs.size ∧ s₁ = { s with heap := s.heap.push { cls := .type "dict", data := .dict #[] } }) F.kt_called_dict (F.kt_typeCall_dict_1 _) F.entry_dict_init (kt_code_dict_new _ ⟨rfl, rfl⟩) ?_
  rintro obj s₁ ⟨rfl, rfl⟩
  have ho' : (s.heap.push { cls := .type "dict", data := .dict #[] }).get? o = some (dObj [] ep) := Heap.get?_push_of_some _ ho
  have hn' : (s.heap.push { cls := .type "dict", data := .dict #[] }).get? s.heap.objs.size = some { cls := .type "dict", data := .dict #[] } := Heap.get?_push_size _ rfl
  have hdo : s.heap.objs.size ≠ o := fun e => absurd (Heap.lt_size ho) (by rw [e]; exact Nat.lt_irrefl _)
  have tn : ({ s with heap := s.heap.push { cls := .type "dict", data := .dict #[] } } : Shared).TypeIs (.ref s.heap.objs.size) "dict" := ⟨_, hn', rfl⟩
  have to : ({ s with heap := s.heap.push { cls := .type "dict", data := .dict #[] } } : Shared).TypeIs (.ref o) "dict" := ⟨_, ho', rfl⟩
  refine ⟨tn, F.args_dict_init_2 _ _, ?_⟩
  unfold Builtin.«dict.__init__»
  refine wpAny_bind ?_
  unfold Builtin.Dict.selfAndRest
  refine wpAny_bind (wpAny_notOrdered_dict tn ?_)
  show wpAny _ _ (pure (s.heap.objs.size, [Value.ref o])) _ _ _
  refine wpAny_pure ?_
  show wpAny _ _ (Builtin.Dict.updateFrom "dict.__init__" s.heap.objs.size (.ref o) [] .none) _ _ _
  unfold Builtin.Dict.updateFrom
  refine wpAny_bind (wpAny_typeOf to ?_)
  rw [if_neg (by decide)]
  refine wpAny_bind ?_
  unfold Builtin.Dict.merge
  refine wpAny_bind ?_
  unfold Builtin.Dict.readDirectly
  refine wpAny_bind (wpAny_isInstance to isSubtype_dict_dict ?_)
  simp only [Bool.not_true, Bool.false_eq_true, if_false]
  refine wpAny_bind (wpAny_specialOf to F.slot_dict_iter.lookup (wpAny_pure ?_))
  simp only [beq_self_eq_true, if_true]
  refine wpAny_bind (wpAny_pure ?_)
  unfold Builtin.Dict.mergeDict
  rw [if_neg (by simpa using hdo)]
  unfold Builtin.Dict.showsAll
  rw [if_neg (by rw [hoS]; exact Bool.false_ne_true)]
  refine wpAny_bind (wpAny_pure ?_)
  refine wpAny_bind (wpAny_dictEntries ho' rfl ?_)
  dsimp only
  split
  · rename_i hz; exact absurd hz (by simp)
  refine wpAny_bind (wpAny_dictEpoch ho' rfl ?_)
  refine wpAny_bind (wpAny_dictEntries ho' rfl ?_)
  refine wpAny_bind ?_
  rw [Std.Legacy.Range.forIn_eq_forIn_range']
  show wpAny _ _ (pure PUnit.unit) _ _ _
  refine wpAny_pure (wpAny_pure ?_)
  show wpAny _ _ (Builtin.Dict.addKeywords s.heap.objs.size [] >>= _) _ _ _
  exact wpAny_bind (wpAny_pure (wpAny_pure ⟨rfl, h⟩))
/-- .. of a dict with one key, a tuple -/
theorem call_dict_one {o k : Addr} {ep : Nat} {e : DictEntry} {Q : Value → Shared → Prop} (hoS : (o == sysModules) = false) (ho : s.heap.get? o = some (dObj [e] ep)) (hk : e.key = .ref k) (hT : s.TypeIs (.ref k) "tuple")
    (h : Q (.ref s.heap.objs.size) { s with heap := (s.heap.push { cls := .type "dict", data := .dict #[] }).update s.heap.objs.size (Obj.mapDictKeys fun _ => #[e]) }) : wpAny (model prog w) A (call (.type "dict") [.ref o]) Q E s := by
  refine callType_codes (Q₁ := fun obj s₁ => obj = .ref s.heap.objs.size ∧ s₁ = { s with heap := s.heap.push { cls := .type "dict", data := .dict #[] } }) F.kt_called_dict (F.kt_typeCall_dict_1 _) F.entry_dict_init (kt_code_dict_new _ ⟨rfl, rfl⟩) ?_
  rintro obj s₁ ⟨rfl, rfl⟩
  have ho' : (s.heap.push { cls := .type "dict", data := .dict #[] }).get? o = some (dObj [e] ep) := Heap.get?_push_of_some _ ho
  have hn' : (s.heap.push { cls := .type "dict", data := .dict #[] }).get? s.heap.objs.size = some { cls := .type "dict", data := .dict #[] } := Heap.get?_push_size _ rfl
  have hdo : s.heap.objs.size ≠ o := fun e => absurd (Heap.lt_size ho) (by rw [e]; exact Nat.lt_irrefl _)
  have tn : ({ s with heap := s.heap.push { cls := .type "dict", data := .dict #[] } } : Shared).TypeIs (.ref s.heap.objs.size) "dict" := ⟨_, hn', rfl⟩
  have to : ({ s with heap := s.heap.push { cls := .type "dict", data := .dict #[] } } : Shared).TypeIs (.ref o) "dict" := ⟨_, ho', rfl⟩
  have tk : ({ s with heap := s.heap.push { cls := .type "dict", data := .dict #[] } } : Shared).TypeIs (.ref k) "tuple" := by
    obtain ⟨ob, h1, h2⟩ := hT
    exact ⟨ob, Heap.get?_push_of_some _ h1, h2⟩
  refine ⟨tn, F.args_dict_init_2 _ _, ?_⟩
  unfold Builtin.«dict.__init__»
  refine wpAny_bind ?_
  unfold Builtin.Dict.selfAndRest
  refine wpAny_bind (wpAny_notOrdered_dict tn ?_)
  show wpAny _ _ (pure (s.heap.objs.size, [Value.ref o])) _ _ _
  refine wpAny_pure ?_
  show wpAny _ _ (Builtin.Dict.updateFrom "dict.__init__" s.heap.objs.size (.ref o) [] .none) _ _ _
  unfold Builtin.Dict.updateFrom
  refine wpAny_bind (wpAny_typeOf to ?_)
  rw [if_neg (by decide)]
  refine wpAny_bind ?_
  unfold Builtin.Dict.merge
  refine wpAny_bind ?_
  unfold Builtin.Dict.readDirectly
  refine wpAny_bind (wpAny_isInstance to isSubtype_dict_dict ?_)
  simp only [Bool.not_true, Bool.false_eq_true, if_false]
  refine wpAny_bind (wpAny_specialOf to F.slot_dict_iter.lookup (wpAny_pure ?_))
  simp only [beq_self_eq_true, if_true]
  refine wpAny_bind (wpAny_pure ?_)
  unfold Builtin.Dict.mergeDict
  rw [if_neg (by simpa using hdo)]
  unfold Builtin.Dict.showsAll
  rw [if_neg (by rw [hoS]; exact Bool.false_ne_true)]
  refine wpAny_bind (wpAny_pure ?_)
  refine wpAny_bind (wpAny_dictEntries ho' rfl ?_)
  dsimp only
  split
  · refine wpAny_bind (wpAny_dictEntries hn' rfl ?_)
    rw [if_pos (show (#[] : Array DictEntry).isEmpty = true from rfl)]
    refine wpAny_bind (wpAny_entriesForEmpty_raw (es := [e].toArray) (ep := ep) ho' rfl (fun e' he => .inr ⟨k, ?_, tk, ?_⟩) ?_)
    · have : e' = e := by simpa using he
      rw [this]; exact hk
    · exact Nat.le_trans (Array.size_filter_le ..) (by simp)
    · rw [if_pos (show (!([e].toArray).isEmpty) = true from rfl)]
      refine wpAny_bind (wpAny_updateDictKeysTo hn' rfl (wpAny_pure ?_) (by rw [sizeLine_eq]; show 1 ≤ 16777216 + 1; decide))
      show wpAny _ _ (Builtin.Dict.addKeywords s.heap.objs.size [] >>= _) _ _ _
      exact wpAny_bind (wpAny_pure (wpAny_pure ⟨rfl, h⟩))
  · rename_i hz
    exact absurd (by simp [hk, keyPart]) hz
end
section
variable {X : Cx}
theorem cr_dict : CallR X (.type "dict") (rP X .dict) := by
  intro pins s σ H xs us Q I rx h
  obtain ⟨F, ds, hF, hx, h⟩ := h
  simp only [prD] at h
  unfold dictD at h
  have hn := I.hok.fresh (Nat.le_refl s.heap.objs.size)
  have hsm : (s.heap.objs.size == sysModules) = false := beq_eq_false_iff_ne.mpr (Ne.symm (Nat.ne_of_lt I.big))
  have hFp : F s.heap.objs.size = none := by
    cases e : F s.heap.objs.size with
    | none => rfl
    | some o => rw [hF _ _ e] at hn; cases hn
  split at h <;> try (exact h.elim)
  · obtain ⟨v, rfl, hv⟩ := hx.one
    obtain ⟨a, es, ep, rfl, hd, hz, rp⟩ := hv.dict hF
    obtain ⟨u, rfl, ru⟩ := rx.one
    cases ru
    have at' := Inv.dAt I hd
    have he : es = [] := by
      cases es with
      | nil => rfl
      | cons e r => simp only [RepP] at rp
    subst he
    refine call_dict_empty hd.1 at' ?_
    exact ⟨.ref s.heap.objs.size, upd H s.heap.objs.size (dHO s.heap.objs.size [] 0), I.laid (a := s.heap.objs.size) (o := dHO s.heap.objs.size [] 0) (t' := s.toks) (fun _ _ q => Heap.get?_push_of_some _ q) (Nat.le_refl _) (dho_ok (Heap.get?_push_size _ rfl)), rfl,
      h _ F _ (Ext.newO hF hn) hn hFp ⟨hsm, Nat.zero_le _, [], 0, upd_same, by simp only [RepP]⟩⟩
  · rename_i ks val
    obtain ⟨v, rfl, hv⟩ := hx.one
    obtain ⟨a, es, ep, rfl, hd, hz, rp⟩ := hv.dict hF
    obtain ⟨u, rfl, ru⟩ := rx.one
    cases ru
    have at' := Inv.dAt I hd
    obtain ⟨e, rfl⟩ : ∃ e, es = [e] := by
      match es, rp with
      | [e], _ => exact ⟨e, rfl⟩
      | [], rp => simp only [RepP] at rp
      | e :: e2 :: r, rp => simp only [RepP] at rp; exact rp.2.2.2.2.2.elim
    have rp' := rp
    simp only [RepP] at rp'
    obtain ⟨⟨x, rx1, rx2⟩, _⟩ := rp'
    simp only [Rep] at rx2
    obtain ⟨k, zs, rfl, hsq, hrl⟩ := rx2
    have hk : e.key = .ref k := rx1
    obtain ⟨its, r1, ht, _⟩ := I.tuple (SqT.sub hF hsq.t)
    refine call_dict_one hd.1 at' hk ht.typeIs ?_
    have hg : ((s.heap.push { cls := .type "dict", data := .dict #[] }).update s.heap.objs.size (Obj.mapDictKeys fun _ => #[e])).get? s.heap.objs.size = some (dObj [e] 1) := Heap.get?_update_self _ (Heap.get?_push_size _ rfl) rfl
    exact ⟨.ref s.heap.objs.size, upd H s.heap.objs.size (dHO s.heap.objs.size [e] 1), I.laid (a := s.heap.objs.size) (o := dHO s.heap.objs.size [e] 1) (t' := s.toks) (fun b ob q => by
      rw [Heap.get?_update_ne _ _ _ _ (Nat.ne_of_lt (Heap.lt_size q))]
      exact Heap.get?_push_of_some _ q) (Nat.le_refl _) (dho_ok hg), rfl,
      h _ F _ (Ext.newO hF hn) hn hFp ⟨hsm, hz, [e], 1, upd_same, rp⟩⟩
end
end Ad
set_option Elab.async false
set_option linter.all false
set_option maxRecDepth 100000
set_option maxHeartbeats 4000000
/-! The check: a text of the model and its IR. -/
namespace Ad
open PySem PySem.Spec PyProof.Rows L2
mutual
def eqS : D → D → Bool
  | .none, .none => true
  | .bool a, .bool b => a == b
  | .int a, .int b => decide (a = b)
  | .str a, .str b => decide (a = b)
  | .list xs, .list ys => eqSs xs ys
  | .tuple xs, .tuple ys => eqSs xs ys
  | .dict xs, .dict ys => eqSp xs ys
  | _, _ => false
def eqSs : List D → List D → Bool
  | [], [] => true
  | x :: xs, y :: ys => eqS x y && eqSs xs ys
  | _, _ => false
def eqSp : List (D × D) → List (D × D) → Bool
  | [], [] => true
  | (a, b) :: xs, (c, d) :: ys => eqS a c && eqS b d && eqSp xs ys
  | _, _ => false
end
mutual
theorem eqS_eq : ∀ (a b : D), eqS a b = true → a = b
  | .none, b, h => by cases b <;> simp only [eqS] at h <;> first | rfl | cases h
  | .bool x, b, h => by
    cases b <;> simp only [eqS] at h <;> first | cases h | skip
    rw [eq_of_beq h]
  | .int x, b, h => by
    cases b <;> simp only [eqS] at h <;> first | cases h | skip
    rw [of_decide_eq_true h]
  | .str x, b, h => by
    cases b <;> simp only [eqS] at h <;> first | cases h | skip
    rw [of_decide_eq_true h]
  | .list xs, b, h => by
    cases b <;> simp only [eqS] at h <;> first | cases h | skip
    rw [eqSs_eq _ _ h]
  | .tuple xs, b, h => by
    cases b <;> simp only [eqS] at h <;> first | cases h | skip
    rw [eqSs_eq _ _ h]
  | .dict xs, b, h => by
    cases b <;> simp only [eqS] at h <;> first | cases h | skip
    rw [eqSp_eq _ _ h]
theorem eqSs_eq : ∀ (a b : List D), eqSs a b = true → a = b
  | [], [], _ => rfl
  | [], _ :: _, h => by simp only [eqSs] at h; cases h
  | _ :: _, [], h => by simp only [eqSs] at h; cases h
  | x :: xs, y :: ys, h => by
    simp only [eqSs, Bool.and_eq_true] at h
    rw [eqS_eq _ _ h.1, eqSs_eq _ _ h.2]
theorem eqSp_eq : ∀ (a b : List (D × D)), eqSp a b = true → a = b
  | [], [], _ => rfl
  | [], _ :: _, h => by simp only [eqSp] at h; cases h
  | _ :: _, [], h => by simp only [eqSp] at h; cases h
  | (a, b) :: xs, (c, d) :: ys, h => by
    simp only [eqSp, Bool.and_eq_true] at h
    rw [eqS_eq _ _ h.1.1, eqS_eq _ _ h.1.2, eqSp_eq _ _ h.2]
end

/-- what is known of the module: constants, functions; calm: not in an except suite -/
structure Gc where
  G : List (Str × D)
  fn : List Str
  N : List Str
  calm : Bool
  xs : List Str := []
  hd : List (Str × List Str) := []
  kw : List (Str × Str) := []
  xi : List (Str × Str) := []
  bk : Option Nat := none
  slf : Bool := false
/-- the fields of the own exceptions -/
def fldN : List Str := ["point", "step", "name"]

def visB (sc : Scope) (x : Str) : Bool := match sc.names.lookup x with
  | some .local => true
  | some .cell => true
  | some .free => true
  | _ => false
def locB (sc : Scope) (x : Str) : Bool := match sc.names.lookup x with
  | some .local => true
  | some .cell => true
  | _ => false
def okN (x : Str) : Bool := !(x == ("__debug__" : Str)) && !(x == ("__classdict__" : Str))
def varB (g : Gc) (sc : Scope) (i : Nat) (x : Str) : Bool := decide (g.N[i]? = some x) && visB sc x && okN x
def gloB (sc : Scope) (x : Str) : Bool := decide (sc.names.lookup x = some .globalImplicit) && okN x
def litB : D → Const → Bool
  | .none, .none => true
  | .bool a, .bool b => a == b
  | .int i, .int j => decide (i = j)
  | .str x, .str y => decide (x = y)
  | _, _ => false
def plainB : Expr → Bool
  | .Starred .. => false
  | _ => true
def ixB : Expr → Bool
  | .Slice .. => false
  | _ => true
def notSet : Expr → Bool
  | .Set .. => false
  | _ => true
def baseB : Expr → Bool
  | .Call (.Name _ _) [] [] _ => false
  | _ => true
/-- the builtins that have a rule here -/
def prB : Pr → Bool
  | .len | .list | .tuple | .int | .abs | .max2 | .min2 | .sum | .str | .dict => true
  | _ => false
/-- .. and the others -/
def prB2 : Pr → Bool
  | .sorted => true
  | _ => false
/-- the name of a builtin -/
def prName : Pr → Str
  | .len => "len"
  | .list => "list"
  | .tuple => "tuple"
  | .int => "int"
  | .abs => "abs"
  | .max2 => "max"
  | .min2 => "min"
  | .dict => "dict"
  | .sum => "sum"
  | .str => "str"
  | .sorted => "sorted"
  | _ => ""
def tyName : Ty → Str
  | .int => "int"
  | .bool => "bool"
  | .str => "str"
  | .tuple => "tuple"
  | .list => "list"
  | .cls x _ => x
def mtName : Mt → Str
  | .get => "get"
  | .count => "count"
  | .index => "index"
  | .join => "join"
  | .split => "split"
/-- methods with one argument that have a rule here -/
def mt1 : Mt → Bool
  | .count | .index | .join | .split => true
  | _ => false
def ownOf (N : List Str) (own : List Nat) : List (Str × Nat) := own.filterMap fun i => (N[i]?).map fun x => (x, i)

mutual
def chkT (g : Gc) (sc : Scope) : T → Expr → Bool
  | .nm i, .Name x _ => decide (g.N[i]? = some x) && locB sc x
  | .tp ts, .Tuple es _ _ => chkTs g sc ts es
  | _, _ => false
def chkTs (g : Gc) (sc : Scope) : List T → List Expr → Bool
  | [], [] => true
  | t :: ts, e :: es => plainB e && chkT g sc t e && chkTs g sc ts es
  | _, _ => false
end

mutual
/-- all slots of a target are among these -/
def subB : T → List Nat → Bool
  | .nm i, own => own.contains i
  | .tp ts, own => subBs ts own
  | .st _ _, _ => false
def subBs : List T → List Nat → Bool
  | [], _ => true
  | t :: ts, own => subB t own && subBs ts own
end
mutual
def chkE (g : Gc) (sc : Scope) : E → Expr → Bool
  | .var i, e => (match e with | .Name x _ => varB g sc i x | _ => false)
  | .lit d, e => (match e with | .Constant c _ _ => litB d c | _ => false)
  | .gl x d, e => (match e with | .Name y _ => decide (x = y) && gloB sc x && (match g.G.lookup x with | some d' => eqS d' d | none => false) | _ => false)
  | .bin op a b, e => (match e with | .BinOp l o r _ => decide (op = o) && chkE g sc a l && chkE g sc b r | _ => false)
  | .neg a, e => (match e with | .UnaryOp .USub x _ => chkE g sc a x | _ => false)
  | .not a, e => (match e with | .UnaryOp .Not x _ => chkE g sc a x | _ => false)
  | .bop op es, e => (match e with | .BoolOp o vs _ => decide (op = o) && !vs.isEmpty && chkEs g sc es vs | _ => false)
  | .ite c a b, e => (match e with | .IfExp t x y _ => chkE g sc c t && chkE g sc a x && chkE g sc b y | _ => false)
  | .cmp op a b, e => (match e with | .Compare l [o] [r] _ => decide (op = o) && notSet r && chkE g sc a l && chkE g sc b r | _ => false)
  | .chn o1 o2 a b c, e => (match e with | .Compare l [p1, p2] [m, r] _ => decide (o1 = p1) && decide (o2 = p2) && notSet m && notSet r && chkE g sc a l && chkE g sc b m && chkE g sc c r | _ => false)
  | .tup es, e => (match e with | .Tuple vs _ _ => chkEs g sc es vs && fits vs.length | _ => false)
  | .lst es, e => (match e with | .List vs _ => chkEs g sc es vs && fits vs.length | _ => false)
  | .dct kvs, e => (match e with | .Dict ks es _ => decide (ks.length ≤ 15) && chkPs g sc kvs ks es | _ => false)
  | .idx a i, e => (match e with | .Subscript v s _ => ixB s && chkE g sc a v && chkE g sc i s | _ => false)
  | .slc a lo hi, e => (match e with | .Subscript v (.Slice l u none _) _ => chkE g sc a v && chkO g sc lo l && chkO g sc hi u | _ => false)
  | .call f es ks, e => (match e with
    | .Call (.Name x _) as kws _ => g.calm && decide (g.fn[f]? = some x) && gloB sc x && chkEs g sc es as && chkKs g sc x (!as.isEmpty) ks kws
    | _ => false)
  | .pr p es, e => (match p with
    | .rng => (match e with | .Call (.Name x _) [.Call (.Name y _) as kws _] [] _ => decide (x = "list") && gloB sc x && decide (y = "range") && gloB sc y && g.calm && kws.isEmpty && chkEs g sc es as && decide (as.length = 1) | _ => false)
    | .sset => (match e with | .Call (.Name x _) [.Call (.Name y _) as kws _] [] _ => decide (x = "sorted") && gloB sc x && decide (y = "set") && gloB sc y && g.calm && kws.isEmpty && chkEs g sc es as && decide (as.length = 1) | _ => false)
    | .rev => (match e with | .Subscript y (.Slice none none (some (.UnaryOp .USub (.Constant (.int 1) _ _) _)) _) _ => chkEs g sc es [y] | _ => false)
    | p => (match e with | .Call (.Name x _) as kws _ => decide (x = prName p) && !(x == ("" : Str)) && gloB sc x && g.calm && kws.isEmpty && !as.isEmpty && chkEs g sc es as && (prB p || prB2 p) | _ => false))
  | .isi a t, e => (match e with
    | .Call (.Name x _) [y, .Name z _] [] _ => decide (x = "isinstance") && gloB sc x && decide (z = tyName t) && gloB sc z && plainB y && (match t with
      | .cls _ cs => !g.calm && (decide (g.hd.lookup z = some cs) || (decide (z = "ValueError") && decide (cs = g.hd.map (·.1)))) && (match a, y with | .var i, .Name v _ => varB g sc i v | _, _ => false)
      | _ => chkE g sc a y)
    | _ => false)
  | .mt q a es, e => (match e with
    | .Call (.Attribute y m ap) [e1, e2] [] cp => (match q with | .get => decide (m = "get") && baseB y && (ap.endLine == cp.line) && chkE g sc a y && plainB e1 && plainB e2 && chkEs g sc es [e1, e2] | _ => false)
    | .Call (.Attribute y m ap) [e1] [] cp => decide (m = mtName q) && mt1 q && baseB y && (ap.endLine == cp.line) && chkE g sc a y && plainB e1 && chkEs g sc es [e1]
    | _ => false)
  | .lc elt t it ifs own, e => (match e with | .ListComp el [⟨tg, iter, fs, as⟩] scope _ => g.calm && decide (as = 0) && blkC g.N sc scope (ownOf g.N own) && notSet iter && chkT g scope t tg && chkI g sc it iter tg && chkEs g (relS scope sc) ifs fs && decide (fs.length ≤ 1) && chkE g (relS scope sc) elt el && subB t own && own.all (fun v => decide (v < g.N.length)) | _ => false)
  | .dc ke ve t it ifs own, e => (match e with | .DictComp ek el [⟨tg, iter, fs, as⟩] scope _ => g.calm && decide (as = 0) && blkC g.N sc scope (ownOf g.N own) && notSet iter && chkT g scope t tg && chkI g sc it iter tg && chkEs g (relS scope sc) ifs fs && decide (fs.length ≤ 1) && chkE g (relS scope sc) ke ek && chkE g (relS scope sc) ve el && subB t own && own.all (fun v => decide (v < g.N.length)) | _ => false)
  | .fnv _, _ => true
  | .callV i es, e => (match e with | .Call (.Name x _) [.Call (.Name y _) [] [] _, e1] [] _ => g.calm && decide (g.bk = some i) && decide (i < 1000000000) && decide (x = "_law_book_deed") && gloB sc x && decide (y = "Book") && gloB sc y && chkEs g sc es [e1] && decide (es.length = 1) | _ => false)
  | .fld i f, e => (match e with | .Attribute (.Name v _) n _ => (decide (n = f) && decide (f ∈ fldN) && !g.calm && !g.hd.isEmpty && varB g sc i v) || (g.slf && g.calm && decide (f = "rows") && decide (n = "rows") && varB g sc i v) | _ => false)
def chkEs (g : Gc) (sc : Scope) : List E → List Expr → Bool
  | [], es => es.isEmpty
  | x :: xs, es => (match es with | e :: r => plainB e && chkE g sc x e && chkEs g sc xs r | [] => false)
def chkPs (g : Gc) (sc : Scope) : List (E × E) → List (Option Expr) → List Expr → Bool
  | [], ks, es => ks.isEmpty && es.isEmpty
  | (k, x) :: r, ks, es => (match ks with | some ek :: ks' => (match es with | e :: es' => chkE g sc k ek && chkE g sc x e && chkPs g sc r ks' es' | [] => false) | _ => false)
def chkKs (g : Gc) (sc : Scope) (x : Str) (ne : Bool) : List (Str × E) → List Keyword → Bool
  | [], kws => kws.isEmpty
  | (kn, ke) :: r, kws => (match kws with
    | [⟨some kn', e', _⟩] => r.isEmpty && ne && decide (kn = kn') && decide (g.kw.lookup x = some kn) && chkE g sc ke e'
    | _ => false)
def chkO (g : Gc) (sc : Scope) : Option E → Option Expr → Bool
  | none, e => e.isNone
  | some x, e => (match e with | some y => chkE g sc x y | none => false)
def chkI (g : Gc) (sc : Scope) : I → Expr → Expr → Bool
  | .seq x, e, _ => chkE g sc x e
  | .rng es, e, _ => (match e with | .Call (.Name x _) as kws _ => decide (x = "range") && gloB sc x && kws.isEmpty && chkEs g sc es as && decide (1 ≤ as.length ∧ as.length ≤ 3) | _ => false)
  | .enum x, e, tg => (match e with | .Call (.Name y _) [a] kws _ => (match tg with | .Tuple .. => decide (y = "enumerate") && gloB sc y && kws.isEmpty && plainB a && chkE g sc x a | _ => false) | _ => false)
  | .zip x y, e, tg => (match e with | .Call (.Name z _) [a, b] kws _ => (match tg with | .Tuple .. => decide (z = "zip") && gloB sc z && kws.isEmpty && plainB a && plainB b && chkE g sc x a && chkE g sc y b | _ => false) | _ => false)
  | .items x, e, tg => (match e with | .Call (.Attribute a m ap) [] [] cp => (match tg with | .Tuple .. => decide (m = "items") && baseB a && (ap.endLine == cp.line) && chkE g sc x a | _ => false) | _ => false)
end
end Ad
set_option Elab.async false
set_option linter.all false
set_option maxRecDepth 100000
set_option maxHeartbeats 4000000
/-! Expressions: what the evaluator tells, the model does. -/
namespace Ad
open PySem PySem.Spec PyProof.Rows L2

abbrev Cl := Nat → List D → List (Str × D) → R D

section
variable (X : Cx) (M : Pm) (W : WX) (cl : Cl)
def tV (e : E) : TE := fun σ H Q => ∃ ρ F, Ok X.w X.K M F H σ ρ ∧ After X.w X.K M W σ F H (ev cl ρ .v e) fun d F' H' => ∀ v, Rep X.w X.K F' v d → Q v H'
def tR (e : E) : TE := fun σ H Q => ∃ ρ F, Ok X.w X.K M F H σ ρ ∧ After X.w X.K M W σ F H (ev cl ρ .r e) fun d F' H' => ∀ v, RepR X.w X.K F' H' v d → Q v H'
def tT (e : E) : TT := fun σ H Q => ∃ ρ F, Ok X.w X.K M F H σ ρ ∧ After X.w X.K M W σ F H (ev cl ρ .t e) fun d F' H' => Q (truth d) H'
def tO (e : E) : TE := fun σ H Q => ∃ ρ F, Ok X.w X.K M F H σ ρ ∧ After X.w X.K M W σ F H (ev cl ρ .v e) fun d F' H' => isMut d = true ∧ ∀ p, H p = none → F' p = none → Own X.w X.K F' H' p d → Q (.ref p) H'
def tVs (es : List E) : TA := fun σ H Q => ∃ ρ F, Ok X.w X.K M F H σ ρ ∧ After X.w X.K M W σ F H (evs cl ρ .v es) fun ds F' H' => ∀ vs, RepL X.w X.K F' vs ds → Q vs H'
def tRs (es : List E) : TA := fun σ H Q => ∃ ρ F, Ok X.w X.K M F H σ ρ ∧ After X.w X.K M W σ F H (evs cl ρ .r es) fun ds F' H' => ∀ vs, RepRs X.w X.K F' H' vs ds → Q vs H'
def tBv (op : BoolOp) (es : List E) : TE := fun σ H Q => ∃ ρ F, Ok X.w X.K M F H σ ρ ∧ After X.w X.K M W σ F H (evB cl ρ .v op es) fun d F' H' => ∀ v, Rep X.w X.K F' v d → Q v H'
def tBt (op : BoolOp) (es : List E) : TT := fun σ H Q => ∃ ρ F, Ok X.w X.K M F H σ ρ ∧ After X.w X.K M W σ F H (evB cl ρ .t op es) fun d F' H' => Q (truth d) H'
def tOp' (o : Option E) : TO := fun σ H Q => ∃ ρ F, Ok X.w X.K M F H σ ρ ∧ After X.w X.K M W σ F H (evO cl ρ o) fun d F' H' => Q d H'
end

/-- the dict's rules -/
structure DR (X : Cx) : Prop where
  inn : InDict X
  ix : IxDict X
  len : LenDict X
  tru : TruR X (fun x H Q => ∃ F kvs, Sub F H ∧ RepR X.w X.K F H x (.dict kvs) ∧ Q (truth (.dict kvs)) H)

/-- a function's promise, by the calls' table -/
def spOf (w : World) (K : Fr) (cls : Str → Option Addr) (r : List D → R D) : Sp := fun vs H Q E => ∃ F ds, Sub F H ∧ RepL w K F vs ds ∧ match r ds with
  | .ok d => ∀ v F' H', Ext F H F' H' → Rep w K F' v d → Q v H'
  | .ex c fs => ∀ F' H' C dA, Ext F H F' H' → cls c = some C → XD w K F' dA fs → E (.ref C) dA H'
  | .bad => False

def builtins : List Str := ["len", "list", "tuple", "int", "abs", "max", "min", "dict", "sum", "str", "sorted", "isinstance", "range", "enumerate", "zip", "bool", "set", "ValueError"]

/-- the fields of a book, as __init__ stores them -/
def bkFs (r : V) (l1 l2 : Addr) : List (Str × V) := putF "before" (.ref l2) (putF "calls" (.ref l1) (putF "rows" r []))
/-- a new book stands at b -/
structure BkAt (w : World) (K : Fr) (C : Addr) (F H : Hp) (b l1 l2 : Addr) : Prop where
  ob : ∃ dx r, H b = some (.ins C dx (bkFs r l1 l2)) ∧ Rep w K F r (.dict [])
  c1 : H l1 = some (.lst [])
  c2 : H l2 = some (.lst [])
  ne : l1 ≠ l2
  f0 : F b = none
  f1 : F l1 = none
  f2 : F l2 = none
/-- all but the book is as it was -/
structure ExtB (b l1 l2 : Addr) (F H F' H' : Hp) : Prop where
  sub : ∀ a o, H a = some o → a ≠ b → a ≠ l1 → a ≠ l2 → H' a = some o
  subF : Sub F F'
  inn : Sub F' H'
  grow : ∀ a, F' a ≠ none → F a ≠ none ∨ H a = none ∨ a = b ∨ a = l1 ∨ a = l2
def spBI (C : Addr) : Sp := fun vs H Q _ => ∃ (p dx : Addr), vs = [.ref p] ∧ H p = some (.ins C dx []) ∧ ∀ (r l1 l2 : Addr) (H' : Hp), H r = none → H l1 = none → H l2 = none → r ≠ l1 → r ≠ l2 → l1 ≠ l2 → (r == sysModules) = false →
  H' p = some (.ins C dx (bkFs (.ref r) l1 l2)) → H' r = some (dHO r [] 0) → H' l1 = some (.lst []) → H' l2 = some (.lst []) → (∀ a o, H a = some o → a ≠ p → H' a = some o) → Q .non H'
def spDeed (w : World) (K : Fr) (C : Addr) (f : List D → R D) : Sp := fun vs H Q _ => ∃ (F : Hp) (b l1 l2 : Addr) (v : V) (d : D), vs = [.ref b, v] ∧ Sub F H ∧ BkAt w K C F H b l1 l2 ∧ Rep w K F v d ∧ match f [d] with
  | .ok d' => ∀ v' F' H', ExtB b l1 l2 F H F' H' → Rep w K F' v' d' → Q v' H'
  | _ => False
def kP : List Str := ["self", "name", "plan", "claim"]
def uP : List Str := ["self", "name", "plan", "picks"]
/-- a claim kept; what stands in the book then -/
def spKeep (w : World) (K : Fr) (cls : Str → Option Addr) (C : Addr) (cl : Cl) (i : Nat) : Sp := fun vs H Q E => ∃ (F : Hp) (b l1 l2 : Addr) (z : Str) (vp vc : V) (p c : D), vs = [.ref b, .str z, vp, vc] ∧ Sub F H ∧ BkAt w K C F H b l1 l2 ∧ Rep w K F vp p ∧ Rep w K F vc c ∧ match keepD cl i z p c with
  | .ok d => ∀ F' H' dx r, ExtB b l1 l2 F H F' H' → H' b = some (.ins C dx (bkFs r l1 l2)) → Rep w K F' r d → Q .non H'
  | .ex x fs => ∀ F' H' C dA, Ext F H F' H' → cls x = some C → XD w K F' dA fs → E (.ref C) dA H'
  | .bad => False
/-- a kept claim used with picks that are too few or too many -/
def spUsed (w : World) (K : Fr) (cls : Str → Option Addr) (C : Addr) (cl : Cl) (gl : Nat) : Sp := fun vs H _ E => ∃ (F : Hp) (b dx l1 l2 : Addr) (r : V) (z : Str) (vp vx : V) (kvs : List (D × D)) (p c : D) (ks xs : List D) (d : D), vs = [.ref b, .str z, vp, vx] ∧ Sub F H ∧ H b = some (.ins C dx (bkFs r l1 l2)) ∧ Rep w K F r (.dict kvs) ∧
  Rep w K F vp p ∧ Rep w K F vx (.list xs) ∧ okK (.str z) kvs = true ∧ findK (.str z) kvs = some (.tuple [.tuple ks, c]) ∧ cl gl [p] [] = .ok d ∧ xs.length ≠ ks.length ∧ ∀ F' H' C dA, Ext F H F' H' → cls "BadPicks" = some C → XD w K F' dA [] → E (.ref C) dA H'
/-- nothing to be taken back -/
def spBack (w : World) (K : Fr) (cls : Str → Option Addr) (C : Addr) : Sp := fun vs H _ E => ∃ (F : Hp) (b dx l1 l2 : Addr) (r : V), vs = [.ref b] ∧ Sub F H ∧ H b = some (.ins C dx (bkFs r l1 l2)) ∧ H l1 = some (.lst []) ∧ ∀ F' H' C dA, Ext F H F' H' → cls "Nothing" = some C → XD w K F' dA [] → E (.ref C) dA H'
/-- the methods -/
structure BkM (P : Program) (w : World) (K : Fr) (mg : Str → Option Value) (base : Heap) (cls : Str → Option Addr) (cl : Cl) (i k : Nat) (C : Addr) : Prop where
  ok : Cls K C
  keep : ∃ f fd, Meth K C "keep" f ∧ FnOk P w K mg base (CX P w) k f fd kP (spKeep w K cls C cl (i % 1000000000)) ∧ Binds K fd kP []
  used : ∃ f fd, Meth K C "used" f ∧ FnOk P w K mg base (CX P w) k f fd uP (spUsed w K cls C cl (i / 1000000000 - 1)) ∧ Binds K fd uP []
  back : ∃ f fd, Meth K C "back" f ∧ FnOk P w K mg base (CX P w) k f fd ["self"] (spBack w K cls C) ∧ Binds K fd ["self"] []
/-- a law's deed -/
def BkD (P : Program) (w : World) (K : Fr) (mg : Str → Option Value) (base : Heap) (cl : Cl) (i k : Nat) (C : Addr) : Prop := ∃ a fd, mg "_law_book_deed" = some (.ref a) ∧ PySem.W.keepIn K (.ref a) = true ∧ FnOk P w K mg base (CX P w) k a fd ["book", "deed"] (spDeed w K C (bkD cl i)) ∧ Binds K fd ["book", "deed"] []
def BkY (P : Program) (w : World) (K : Fr) (mg : Str → Option Value) (base : Heap) (cls : Str → Option Addr) (cl : Cl) (i k : Nat) : Prop := ∃ C fI fdI, mg "Book" = some (.ref C) ∧ Mk K C fI ∧ FnOk P w K mg base (CX P w) k fI fdI ["self"] (spBI C) ∧ Binds K fdI ["self"] [] ∧
  ((i < 1000000000 ∧ BkD P w K mg base cl i k C) ∨ (1000000000 ≤ i ∧ BkM P w K mg base cls cl i k C))
def BkX (X : Cx) (cls : Str → Option Addr) (cl : Cl) (i : Nat) : Prop := ∃ k, Room (k + 1) X.A ∧ BkY X.prog X.w X.K X.mg X.base cls cl i k
structure Hx (g : Gc) (sc : Scope) (X : Cx) (M : Pm) (W : WX) (cl : Cl) : Prop where
  N : X.N = g.N
  nd : g.N.Nodup
  sc : X.env.scope = sc
  kind : X.env.scope.kind = .function
  calm : X.calm = g.calm
  tk : Takes X W
  un : X.A.units + 200 < cLine
  lst : LstOk X.K
  py : PyX X
  glob : ∀ x d, g.G.lookup x = some d → ∃ v u, X.mg x = some u ∧ RelV v u ∧ Rep X.w X.K (fun _ => none) v d
  blt : ∀ x ∈ builtins, X.mg x = none
  hd : ∀ x cs, g.hd.lookup x = some cs → ∃ c, X.mg x = some (.ref c) ∧ ∀ k C, M.cls k = some C → PySem.W.exmOne X.K (.ref C) (.ref c) = some (cs.contains k) ∧ PySem.W.kitOne X.K (.ref C) (.ref c) = some (cs.contains k) ∧ ExcC X.K C ∧ ∀ f ∈ fldN, PySem.W.findIn X.K (.ref C) f = some none
  fnk : g.calm = true → ∀ f x kn, g.fn[f]? = some x → g.kw.lookup x = some kn → ∃ k a fd ps r, X.mg x = some (.ref a) ∧ PySem.W.keepIn X.K (.ref a) = true ∧ Room k X.A ∧
    FnOk X.prog X.w X.K X.mg X.base (CX X.prog X.w) k a fd ps (spOf X.w X.K M.cls r) ∧ KBn X.K fd ps (ps.length - 1) [kn] (fun us ws => us ++ ws) (fun us ws => us ++ ws) ∧ ∀ as v, cl f as [(kn, v)] = r (as ++ [v])
  bk : g.calm = true → ∀ i, g.bk = some i → BkX X M.cls cl i
  ve : ∀ k C, M.cls k = some C → PySem.W.kitOne X.K (.ref C) (.type "ValueError") = some true ∧ (g.hd.map (·.1)).contains k = true ∧ ExcC X.K C
  exq : ∀ a C d, M.exc = some (a, C, d) → g.calm = false → ∃ X0 oe pn, X = Cx.suite X0 a ((a, oe) :: pn) ∧ Zc (.ref C) d oe ∧ ∃ vs, oe.data = .fields vs
  fn : g.calm = true → ∀ f x, g.fn[f]? = some x → ∃ k a fd ps dvs ds dd r, X.mg x = some (.ref a) ∧ M.fn f = some a ∧ PySem.W.keepIn X.K (.ref a) = true ∧ Room k X.A ∧
    FnOk X.prog X.w X.K X.mg X.base (CX X.prog X.w) k a fd ps (spOf X.w X.K M.cls r) ∧ Binds X.K fd ps ds ∧ Vals dvs ds ∧ RepL X.w X.K (fun _ => none) dvs dd ∧ ∀ as, cl f as [] = r (as ++ dd)

theorem dr_all (X : Cx) (hu : X.A.units + 200 < cLine) : DR X := ⟨in_dict hu, ix_dict hu, len_dict, tru_dict⟩
theorem Hx.dr {g : Gc} {sc : Scope} {X : Cx} {M : Pm} {W : WX} {cl : Cl} (hx : Hx g sc X M W cl) : DR X := dr_all X hx.un
section
variable {w : World} {K : Fr} {F H : Hp}
theorem Sub.none {H : Hp} : Sub (fun _ => none) H := fun _ _ h => nomatch h
theorem RepL.rs : ∀ {vs : List V} {ds : List D}, RepL w K F vs ds → RepRs w K F H vs ds
  | [], [], _ => trivial
  | [], _ :: _, h => by simp only [RepL] at h
  | _ :: _, [], h => by simp only [RepL] at h
  | v :: vs, d :: ds, h => by
    simp only [RepL] at h
    exact ⟨.inl h.1, RepL.rs h.2⟩
theorem RepRs.ext {F' H' : Hp} (x : Ext F H F' H') : ∀ {vs : List V} {ds : List D}, RepRs w K F H vs ds → RepRs w K F' H' vs ds
  | [], [], _ => trivial
  | [], _ :: _, h => h.elim
  | _ :: _, [], h => h.elim
  | v :: vs, d :: ds, h => ⟨h.1.ext x, RepRs.ext x h.2⟩
end
section
variable {g : Gc} {sc : Scope} {X : Cx} {M : Pm} {W : WX} {cl : Cl}
theorem _root_.L2.PE.weak {e : Expr} {t t' : TE} (h : PE X e t) (i : ∀ σ H Q, t' σ H Q → t σ H Q) : PE X e t' := ⟨fun pins s σ H Q I q => h.run pins s σ H Q I (i σ H Q q)⟩
theorem _root_.L2.PT.weak {e : Expr} {t t' : TT} (h : PT X e t) (i : ∀ σ H Q, t' σ H Q → t σ H Q) : PT X e t' := ⟨fun pins s σ H Q I q => h.run pins s σ H Q I (i σ H Q q)⟩
theorem _root_.L2.PA.weak {e : List Expr} {t t' : TA} (h : PA X e t) (i : ∀ σ H Q, t' σ H Q → t σ H Q) : PA X e t' := ⟨fun pos pins s σ H Q I q => h.run pos pins s σ H Q I (i σ H Q q)⟩
theorem _root_.L2.PW.weak {e : Expr} {t t' : TT} (h : PW X e t) (i : ∀ σ H Q, t' σ H Q → t σ H Q) : PW X e t' := ⟨fun wh pins s σ H Q I q => h.run wh pins s σ H Q I (i σ H Q q)⟩

theorem tru_D (hd : DR X) : TruR X (fun x H Q => ∃ F d, Sub F H ∧ RepR X.w X.K F H x d ∧ tok d = true ∧ Q (truth d) H) := by
  intro pins s σ H x v Q I rx h
  obtain ⟨F, d, hF, hx, ht, q⟩ := h
  cases d with
  | none => cases hx.none; exact tru_ok pins s σ H _ v Q I rx ⟨_, rfl, q⟩
  | bool b => cases hx.bool; exact tru_ok pins s σ H _ v Q I rx ⟨_, rfl, q⟩
  | int i => cases hx.int; exact tru_ok pins s σ H _ v Q I rx ⟨_, rfl, q⟩
  | str z =>
    cases hx.str
    refine tru_ok pins s σ H _ v Q I rx ⟨_, ⟨by rw [← line_eq]; exact of_decide_eq_true ht, rfl⟩, ?_⟩
    have : ((z.length : Int) != 0) = truth (.str z) := by
      unfold truth
      by_cases h : z.length = 0
      · simp [h]
      · have h2 : ((z.length : Int) != 0) = true := bne_iff_ne.mpr (by omega)
        have h3 : (z.length != 0) = true := bne_iff_ne.mpr h
        rw [h2]; exact h3.symm
    rw [this]; exact q
  | list ds =>
    obtain ⟨a, xs, rfl, qa, ra⟩ := hx.list hF
    refine tru_ok pins s σ H _ v Q I rx ⟨_, .inl ⟨xs, qa, rfl⟩, ?_⟩
    have : (!xs.isEmpty) = truth (.list ds) := by
      have := ra.length
      unfold truth
      cases xs <;> cases ds <;> simp_all
    rw [this]; exact q
  | tuple ds =>
    obtain ⟨a, xs, rfl, qa, ra⟩ := hx.tuple hF
    refine tru_ok pins s σ H _ v Q I rx ⟨_, .inr (.inl ⟨xs, qa, rfl⟩), ?_⟩
    have : (!xs.isEmpty) = truth (.tuple ds) := by
      have := ra.length
      unfold truth
      cases xs <;> cases ds <;> simp_all
    rw [this]; exact q
  | dict kvs => exact hd.tru pins s σ H x v Q I rx ⟨F, kvs, hF, hx, q⟩
theorem pt_plain {a : Expr} {ta : TE} {r : V → Hp → (Bool → Hp → Prop) → Prop} (ha : PE X a ta) (hr : TruR X r) (he : ∀ whole, isTrue a X.env whole = (do let v ← whole; standAt a.pos; holding [v] (truthy v))) :
    PT X a (fun σ H Q => ta σ H fun x H' => r x H' Q) := by
  refine ⟨fun pins s σ H Q I h => ?_⟩
  exact isTrue_plain (thn (ha.run pins s σ H _ I h) fun v s1 ⟨x, H1, I1, r1, q1⟩ => hr pins s1 σ H1 x v Q I1 r1 q1) (he _)

/-- m.fin: its value, its truth -/
theorem fin_r {d : D} : (Md.r).fin d = .ok d := rfl
theorem fin_v {d : D} : (Md.v).fin d = .ok d := rfl
theorem fin_t {d : D} : (Md.t).fin d = if tok d then .ok (.bool (truth d)) else .bad := by unfold Md.fin; rfl
theorem bind_ok {α β : Type} (a : α) (f : α → R β) : (R.ok a).bind f = f a := rfl
theorem bind_pure {α : Type} (r : R α) : r.bind .ok = r := by cases r <;> rfl
theorem bind_assoc {α β γ : Type} (r : R α) (f : α → R β) (k : β → R γ) : (r.bind f).bind k = r.bind fun a => (f a).bind k := by cases r <;> rfl

end
def freshE : E → Bool
  | .lst _ => true
  | .lc _ _ _ _ _ => true
  | .dc _ _ _ _ _ _ => true
  | .bin .Add _ _ => true
  | .bin .Mult _ _ => true
  | .slc _ _ _ => true
  | .pr .list _ => true
  | .pr .dict _ => true
  | .pr .sorted _ => true
  | .pr .rng _ => true
  | .pr .sset _ => true
  | .dct _ => true
  | _ => false
/-- what each expression gives -/
structure SE (X : Cx) (M : Pm) (W : WX) (cl : Cl) (ir : E) (e : Expr) : Prop where
  v : PE X e (tV X M W cl ir)
  r : PE X e (tR X M W cl ir)
  t : PT X e (tT X M W cl ir)
  o : freshE ir = true → PE X e (tO X M W cl ir)
section
variable {g : Gc} {sc : Scope} {X : Cx} {M : Pm} {W : WX} {cl : Cl} {ir : E} {e : Expr} {w : World} {K : Fr} {i : Nat} {x : Str}
/-- .. from its value, where reading it is no other thing -/
theorem SE.of (hx : Hx g sc X M W cl) (hv : PE X e (tV X M W cl ir)) (hr : ∀ ρ, ev cl ρ .r ir = ev cl ρ .v ir) (ht : ∀ ρ, ev cl ρ .t ir = (ev cl ρ .v ir).bind (Md.t).fin)
    (he : ∀ whole, isTrue e X.env whole = (do let v ← whole; standAt e.pos; holding [v] (truthy v))) (ho : freshE ir = true → PE X e (tO X M W cl ir)) : SE X M W cl ir e where
  v := hv
  r := hv.weak fun σ H Q ⟨ρ, F, ok, h⟩ => ⟨ρ, F, ok, by
    rw [hr] at h
    exact h.imp fun d F' H' x q v rv => q v (.inl rv)⟩
  t := (pt_plain hv (tru_D hx.dr) he).weak fun σ H Q ⟨ρ, F, ok, h⟩ => ⟨ρ, F, ok, by
    rw [ht] at h
    refine h.bind.imp fun d F' H' x q v rv => ?_
    rw [fin_t] at q
    by_cases c : tok d = true
    · rw [if_pos c] at q
      exact ⟨F', d, x.inn, .inl rv, c, q.ok x.inn⟩
    · rw [if_neg c] at q
      exact q.elim⟩
  o := ho
/-- .. from the new object -/
theorem SE.ofO (hx : Hx g sc X M W cl) (ho : PE X e (tO X M W cl ir)) (hm : ∀ ρ d, ev cl ρ .v ir = .ok d → isMut d = true) (hr : ∀ ρ, ev cl ρ .r ir = ev cl ρ .v ir) (ht : ∀ ρ, ev cl ρ .t ir = (ev cl ρ .v ir).bind (Md.t).fin)
    (he : ∀ whole, isTrue e X.env whole = (do let v ← whole; standAt e.pos; holding [v] (truthy v))) : SE X M W cl ir e :=
  SE.of hx (ho.weak fun σ H Q ⟨ρ, F, ok, h⟩ => ⟨ρ, F, ok, by
    cases q : ev cl ρ .v ir with
    | ok d =>
      rw [q] at h
      intro F' H' x
      refine ⟨hm ρ d q, fun p h0 hf o => ?_⟩
      cases d with
      | list ds =>
        obtain ⟨xs, h1, h2⟩ := o
        refine h _ H' (ext_freeze x h0 h1) (.ref p) ?_
        simp only [Rep]
        exact ⟨p, xs, rfl, SqL.of upd_same, RepL.sub (Sub.upd hf) _ _ h2⟩
      | dict kvs =>
        obtain ⟨z, z2, es, ep, h1, h2⟩ := o
        refine h _ H' (ext_freeze x h0 h1) (.ref p) ?_
        simp only [Rep]
        exact ⟨p, es, ep, rfl, ⟨z, .inl upd_same⟩, z2, RepP.sub (Sub.upd hf) _ _ h2⟩
      | _ => exact o.elim
    | ex c fs => rw [q] at h; exact h
    | bad => rw [q] at h; exact h⟩) hr ht he fun _ => ho

theorem var_i (h : varB g sc i x = true) (hx : Hx g sc X M W cl) : X.N[i]? = some x ∧ Vis X.env.scope x ∧ (x == ("__debug__" : Str)) = false ∧ (x == ("__classdict__" : Str)) = false := by
  simp only [varB, okN, Bool.and_eq_true, decide_eq_true_eq, Bool.not_eq_true'] at h
  obtain ⟨⟨h1, h2⟩, h3, h4⟩ := h
  rw [hx.N, hx.sc]
  refine ⟨h1, ?_, h3, h4⟩
  unfold visB at h2
  unfold Vis
  split at h2
  · exact .inl (by assumption)
  · exact .inr (.inl (by assumption))
  · exact .inr (.inr (by assumption))
  · cases h2
theorem glo_i {x : Str} (h : gloB sc x = true) (hx : Hx g sc X M W cl) : Gl X x ∧ (x == ("__debug__" : Str)) = false := by
  simp only [gloB, okN, Bool.and_eq_true, decide_eq_true_eq, Bool.not_eq_true'] at h
  refine ⟨?_, h.2.1⟩
  show X.env.scope.names.lookup x = some .globalImplicit
  rw [hx.sc]; exact h.1
theorem Ok.get {F H : Hp} {σ : L2.St} {ρ : List Sl} (ok : Ok w K M F H σ ρ) {d : D} (h : getV ρ i = .ok d) : ∃ v, σ[i]? = some (some v) ∧ Rep w K F v d := by
  unfold getV at h
  split at h
  · rename_i d' q
    injection h with h; subst h
    exact ok.slot i _ q
  · cases h
theorem Ok.getR {F H : Hp} {σ : L2.St} {ρ : List Sl} (ok : Ok w K M F H σ ρ) {d : D} (h : getR ρ i = .ok d) : ∃ v, σ[i]? = some (some v) ∧ RepR w K F H v d := by
  unfold Ad.getR at h
  split at h
  · rename_i d' q
    injection h with h; subst h
    obtain ⟨v, h1, h2⟩ := ok.slot i _ q
    exact ⟨v, h1, .inl h2⟩
  · rename_i d' q
    injection h with h; subst h
    obtain ⟨p, h1, h2, h3, h4⟩ := ok.slot i _ q
    exact ⟨.ref p, h1, .inr ⟨p, rfl, h4⟩⟩
  · rename_i d' q
    injection h with h; subst h
    obtain ⟨p, h1, h2, h4⟩ := ok.slot i _ q
    exact ⟨.ref p, h1, .inr ⟨p, rfl, h4⟩⟩
  · cases h
theorem getV_no {ρ : List Sl} {c : Str} {fs : List (Str × D)} : getV ρ i ≠ .ex c fs := by
  unfold getV; split <;> intro h <;> cases h
theorem getR_no {ρ : List Sl} {c : Str} {fs : List (Str × D)} : Ad.getR ρ i ≠ .ex c fs := by
  unfold Ad.getR; split <;> intro h <;> cases h
theorem s_var {x : Str} {pos : Pos} (hx : Hx g sc X M W cl) (h : varB g sc i x = true) : SE X M W cl (.var i) (.Name x pos) := by
  obtain ⟨h1, h2, h3, h4⟩ := var_i h hx
  have pv : PE X (.Name x pos) (tVar i) := pe_var h1 h2 h3 h4
  have hr : PE X (.Name x pos) (tR X M W cl (.var i)) := pv.weak fun σ H Q ⟨ρ, F, ok, h⟩ => by
    simp only [ev, Md.fin] at h
    cases q : Ad.getR ρ i with
    | ok d =>
      rw [q] at h
      obtain ⟨v, e1, e2⟩ := ok.getR q
      exact ⟨v, e1, (After.ok h ok.sub) v e2⟩
    | ex c fs => exact (getR_no q).elim
    | bad => rw [q] at h; exact h.elim
  refine ⟨pv.weak fun σ H Q ⟨ρ, F, ok, h⟩ => ?_, hr, (pt_plain hr (tru_D hx.dr) (fun _ => rfl)).weak fun σ H Q ⟨ρ, F, ok, h⟩ => ?_, fun z => nomatch z⟩
  · simp only [ev, Md.fin] at h
    cases q : getV ρ i with
    | ok d =>
      rw [q] at h
      obtain ⟨v, e1, e2⟩ := ok.get q
      exact ⟨v, e1, (After.ok h ok.sub) v e2⟩
    | ex c fs => exact (getV_no q).elim
    | bad => rw [q] at h; exact h.elim
  · refine ⟨ρ, F, ok, ?_⟩
    simp only [ev] at h ⊢
    have h := h.bind
    rw [show (Ad.getR ρ i).bind (Md.fin Md.r) = Ad.getR ρ i from bind_pure _]
    refine h.imp fun d F' H' x q v rv => ?_
    rw [fin_t] at q
    by_cases c : tok d = true
    · rw [if_pos c] at q
      exact ⟨F', d, x.inn, rv, c, q.ok x.inn⟩
    · rw [if_neg c] at q
      exact q.elim
theorem s_lit {d : D} {c : Const} {j : Nat} {pos : Pos} (hx : Hx g sc X M W cl) (h : litB d c = true) : SE X M W cl (.lit d) (.Constant c j pos) := by
  refine SE.of hx ?_ (fun ρ => by simp only [ev]; rfl) (fun ρ => by simp only [ev]; rfl) (fun _ => rfl) (fun z => nomatch z)
  have go : ∀ {v : V}, (∀ F, Rep X.w X.K F v d) → PE X (.Constant c j pos) (tC v) → PE X (.Constant c j pos) (tV X M W cl (.lit d)) := fun {v} r p => p.weak fun σ H Q ⟨ρ, F, ok, h⟩ => by
    simp only [ev, Md.fin] at h
    exact (After.ok h ok.sub) v (r F)
  cases d <;> cases c <;> simp only [litB] at h <;> first | cases h | skip
  · exact go (fun F => by simp only [Rep]) pe_non
  · cases eq_of_beq h; exact go (fun F => by simp only [Rep]) pe_bl
  · cases of_decide_eq_true h; exact go (fun F => by simp only [Rep]) pe_int
  · cases of_decide_eq_true h; exact go (fun F => by simp only [Rep]) pe_str
theorem s_gl {x : Str} {d : D} {pos : Pos} (hx : Hx g sc X M W cl) (h1 : gloB sc x = true) (h2 : g.G.lookup x = some d) : SE X M W cl (.gl x d) (.Name x pos) := by
  refine SE.of hx ?_ (fun ρ => by simp only [ev]; rfl) (fun ρ => by simp only [ev]; rfl) (fun _ => rfl) (fun z => nomatch z)
  obtain ⟨v, u, m, r, rp⟩ := hx.glob x d h2
  obtain ⟨g1, g2⟩ := glo_i h1 hx
  exact (pe_glob g1 m r g2).weak fun σ H Q ⟨ρ, F, ok, h⟩ => by
    simp only [ev, Md.fin] at h
    exact (After.ok h ok.sub) v (Rep.sub Sub.none _ _ rp)
end
end Ad
set_option Elab.async false
set_option linter.all false
set_option maxRecDepth 100000
set_option maxHeartbeats 4000000
namespace Ad
open PySem PySem.Spec PyProof.Rows L2

/-- it raises nothing -/
def NoEx {α : Type} (r : R α) : Prop := ∀ c fs, r ≠ .ex c fs
theorem NoEx.ok {α : Type} {a : α} : NoEx (.ok a) := fun _ _ h => nomatch h
theorem NoEx.bad {α : Type} : NoEx (.bad : R α) := fun _ _ h => nomatch h
theorem NoEx.of {α : Type} {o : Option α} : NoEx (R.of o) := by cases o; exact .bad; exact .ok
theorem NoEx.ite {α : Type} {c : Prop} [Decidable c] {a b : R α} (h : NoEx a) (h' : NoEx b) : NoEx (if c then a else b) := by split <;> assumption
theorem NoEx.bind {α β : Type} {r : R α} {f : α → R β} (h : NoEx r) (h' : ∀ a, NoEx (f a)) : NoEx (r.bind f) := by
  cases r with
  | ok a => exact h' a
  | ex c fs => exact absurd rfl (h c fs)
  | bad => exact .bad
theorem binD_no (op : Operator) (x y : D) : NoEx (binD op x y) := by
  unfold binD
  split <;> first | exact .ok | exact .bad | exact .ite .ok .bad | exact .ite .ok (.ite .ok .bad)
theorem inD_no (x y : D) : NoEx (inD x y) := by
  unfold inD
  split <;> first | exact .ok | exact .bad | exact .ite .ok .bad | skip
  split <;> first | exact .ok | exact .bad
theorem cmpD_no (op : CmpOp) (x y : D) : NoEx (cmpD op x y) := by
  unfold cmpD
  split <;> first | exact .ok | exact .bad | exact .ite .ok .bad | exact .of | exact inD_no _ _ | exact (inD_no _ _).bind fun _ => .ok | skip
  all_goals (split <;> first | exact .ok | exact .bad)
theorem idxD_no (x y : D) : NoEx (idxD x y) := by
  unfold idxD
  split <;> first | exact .ok | exact .bad | exact .of | exact .ite .of .bad | skip
  split <;> first | exact .bad | exact .ite .ok .bad
theorem slcD_no (x : D) (l h : Option Int) : NoEx (slcD x l h) := by
  unfold slcD
  split <;> first | exact .ok | exact .bad | exact .ite .ok .bad
theorem negD_no (x : D) : NoEx (negD x) := by
  unfold negD
  split <;> first | exact .ok | exact .bad

section
variable {g : Gc} {sc : Scope} {X : Cx} {M : Pm} {W : WX} {cl : Cl} {w : World} {K : Fr} {F H H0 : Hp} {σ : L2.St} {r : R D} {Q : VK}
theorem bind_fv (r : R D) : r.bind (Md.v).fin = r := by cases r <;> rfl
theorem bind_fr (r : R D) : r.bind (Md.r).fin = r := by cases r <;> rfl
theorem After.resV (n : NoEx r) (h : After w K M W σ F H r fun d F' H' => ∀ v, Rep w K F' v d → Q v H') : Res w K F H r Q := by
  cases r with
  | ok d => exact fun v F' H' x q => h F' H' x v q
  | ex c fs => exact absurd rfl (n c fs)
  | bad => exact h
theorem After.resO (n : NoEx r) (s : Sub H0 H) (h : After w K M W σ F H r fun d F' H' => isMut d = true ∧ ∀ p, H0 p = none → F' p = none → Own w K F' H' p d → Q (.ref p) H') (sF : Sub F H) : ResM w K F H r Q := by
  cases r with
  | ok d =>
    have m := (h.ok sF).1
    have go : ∀ p F' H', Ext F H F' H' → H p = none → F' p = none → Own w K F' H' p d → Q (.ref p) H' := fun p F' H' x h1 h2 o => (h F' H' x).2 p (by
      cases e : H0 p with
      | none => rfl
      | some u => rw [s _ _ e] at h1; cases h1) h2 o
    cases d <;> first | exact go | cases m
  | ex c fs => exact absurd rfl (n c fs)
  | bad => exact h
theorem After.bool {r : R Bool} {P : D → Hp → Hp → Prop} (n : NoEx r) (s : Sub F H) (h : After w K M W σ F H (r.bind fun t => .ok (.bool t)) P) : ∃ b, r = .ok b ∧ P (.bool b) F H := by
  cases r with
  | ok b => exact ⟨b, rfl, h.ok s⟩
  | ex c fs => exact absurd rfl (n c fs)
  | bad => exact h.elim

variable {a b c : E} {ea eb ec : Expr} {pos : Pos}
theorem s_bin {op : Operator} (hx : Hx g sc X M W cl) (ha : SE X M W cl a ea) (hb : SE X M W cl b eb) : SE X M W cl (.bin op a b) (.BinOp ea op eb pos) := by
  have base := pe_op (pos := pos) (op_binD hx.lst hx.py op) ha.r hb.r
  refine SE.of hx (base.weak fun σ H Q ⟨ρ, F, ok, h⟩ => ?_) (fun ρ => by simp only [ev, bind_fv, bind_fr]) (fun ρ => by simp only [ev, bind_fv, bind_assoc]) (fun _ => rfl) (fun _ => base.weak fun σ H Q ⟨ρ, F, ok, h⟩ => ?_)
  · simp only [ev, bind_fv] at h
    exact ⟨ρ, F, ok, h.bind.imp fun dx F1 H1 x1 h1 v1 r1 => ⟨ρ, F1, ok.ext x1, h1.bind.imp fun dy F2 H2 x2 h2 v2 r2 => ⟨F2, dx, dy, x2.inn, r1.ext x2, r2, (h2.resV (binD_no _ _ _)).m⟩⟩⟩
  · simp only [ev, bind_fv] at h
    exact ⟨ρ, F, ok, h.bind.imp fun dx F1 H1 x1 h1 v1 r1 => ⟨ρ, F1, ok.ext x1, h1.bind.imp fun dy F2 H2 x2 h2 v2 r2 => ⟨F2, dx, dy, x2.inn, r1.ext x2, r2, h2.resO (binD_no _ _ _) (x1.sub.trans x2.sub) x2.inn⟩⟩⟩
theorem s_neg (hx : Hx g sc X M W cl) (ha : SE X M W cl a ea) : SE X M W cl (.neg a) (.UnaryOp .USub ea pos) := by
  have base := pe_un (pos := pos) un_D ha.v
  refine SE.of hx (base.weak fun σ H Q ⟨ρ, F, ok, h⟩ => ?_) (fun ρ => by simp only [ev, bind_fv, bind_fr]) (fun ρ => by simp only [ev, bind_fv, bind_assoc]) (fun _ => rfl) (fun z => nomatch z)
  simp only [ev, bind_fv] at h
  exact ⟨ρ, F, ok, h.bind.imp fun dx F1 H1 x1 h1 v1 r1 => ⟨F1, dx, x1.inn, .inl r1, h1.resV (negD_no _)⟩⟩
/-- a value that is a bool, where it is tested -/
theorem truth_bool (b : Bool) : truth (.bool b) = b := rfl
theorem s_cmp {op : CmpOp} (hx : Hx g sc X M W cl) (hn : notSet eb = true) (ha : SE X M W cl a ea) (hb : SE X M W cl b eb) : SE X M W cl (.cmp op a b) (.Compare ea [op] [eb] pos) := by
  have hm : behindInMarks op eb = false := by cases eb <;> first | rfl | cases hn
  have oc := op_cmpD (X := X) (by have := hx.un; omega) hx.dr.inn op
  have base := pe_cmpR (pos := pos) oc ha.r hb.r hm
  have hv : PE X (.Compare ea [op] [eb] pos) (tV X M W cl (.cmp op a b)) := base.weak fun σ H Q ⟨ρ, F, ok, h⟩ => by
    simp only [ev] at h
    exact ⟨ρ, F, ok, h.bind.imp fun dx F1 H1 x1 h1 v1 r1 => ⟨ρ, F1, ok.ext x1, h1.bind.imp fun dy F2 H2 x2 h2 v2 r2 => by
      obtain ⟨t, e, q⟩ := After.bool (cmpD_no _ _ _) x2.inn h2
      exact ⟨F2, dx, dy, x2.inn, r1.ext x2, r2, t, e, q _ (by simp only [Rep])⟩⟩⟩
  refine ⟨hv, hv.weak fun σ H Q ⟨ρ, F, ok, h⟩ => ⟨ρ, F, ok, ?_⟩, (pt_cmpR (pos := pos) oc ha.r hb.r hm).weak fun σ H Q ⟨ρ, F, ok, h⟩ => ?_, fun z => nomatch z⟩
  · have : ev cl ρ .r (.cmp op a b) = ev cl ρ .v (.cmp op a b) := by simp only [ev]
    rw [this] at h
    exact h.imp fun d F' H' x q v rv => q v (.inl rv)
  · simp only [ev] at h
    exact ⟨ρ, F, ok, h.bind.imp fun dx F1 H1 x1 h1 v1 r1 => ⟨ρ, F1, ok.ext x1, h1.bind.imp fun dy F2 H2 x2 h2 v2 r2 => by
      obtain ⟨t, e, q⟩ := After.bool (cmpD_no _ _ _) x2.inn h2
      exact ⟨F2, dx, dy, x2.inn, r1.ext x2, r2, t, e, t, rfl, q⟩⟩⟩
theorem s_chn {o1 o2 : CmpOp} (hx : Hx g sc X M W cl) (hn1 : notSet eb = true) (hn2 : notSet ec = true) (ha : SE X M W cl a ea) (hb : SE X M W cl b eb) (hc : SE X M W cl c ec) : SE X M W cl (.chn o1 o2 a b c) (.Compare ea [o1, o2] [eb, ec] pos) := by
  have oc := fun op => op_cmpD (X := X) (by have := hx.un; omega) hx.dr.inn op
  have hm2 : behindInMarks o2 ec = false := by cases ec <;> first | rfl | cases hn2
  have go : ∀ {P : D → Hp → Hp → Prop} {Q : VK} {ρ : List Sl} {F H : Hp} {σ : L2.St}, Ok X.w X.K M F H σ ρ → After X.w X.K M W σ F H (ev cl ρ .v (.chn o1 o2 a b c)) P → (∀ t F' H', P (.bool t) F' H' → Q (.bl t) H') →
      tChain (rC X (cmpD o1)) (rC X (cmpD o2)) (tV X M W cl a) (tV X M W cl b) (tV X M W cl c) σ H Q := fun {P Q ρ F H σ} ok h hq => by
    simp only [ev] at h
    refine ⟨ρ, F, ok, h.bind.imp fun dx F1 H1 x1 h1 v1 r1 => ⟨ρ, F1, ok.ext x1, h1.bind.imp fun dy F2 H2 x2 h2 v2 r2 => ?_⟩⟩
    have h2 := h2.bind
    cases e : cmpD o1 dx dy with
    | ok t =>
      rw [e] at h2
      have h2 := h2.ok x2.inn
      refine ⟨F2, dx, dy, x2.inn, .inl (Rep.sub x2.subF _ _ r1), .inl r2, t, e, t, rfl, ?_⟩
      cases t with
      | true =>
        rw [if_pos rfl] at h2 ⊢
        refine ⟨ρ, F2, (ok.ext x1).ext x2, h2.bind.imp fun dz F3 H3 x3 h3 v3 r3 => ?_⟩
        obtain ⟨u, e3, q⟩ := After.bool (cmpD_no _ _ _) x3.inn h3
        exact ⟨F3, dy, dz, x3.inn, .inl (Rep.sub x3.subF _ _ r2), .inl r3, u, e3, hq u F3 H3 q⟩
      | false =>
        rw [if_neg Bool.false_ne_true] at h2 ⊢
        exact hq false F2 H2 (h2.ok x2.inn)
    | ex c fs => exact absurd e (cmpD_no _ _ _ c fs)
    | bad => rw [e] at h2; exact h2.elim
  have er : ∀ ρ, ev cl ρ .r (.chn o1 o2 a b c) = ev cl ρ .v (.chn o1 o2 a b c) := fun ρ => by simp only [ev]
  have et : ∀ ρ, ev cl ρ .t (.chn o1 o2 a b c) = ev cl ρ .v (.chn o1 o2 a b c) := fun ρ => by simp only [ev]
  have base := pe_chain (pos := pos) (oc o1) (oc o2) ha.v hb.v hc.v hm2
  refine ⟨base.weak fun σ H Q ⟨ρ, F, ok, h⟩ => go ok h fun t F' H' q => q _ (by simp only [Rep]), base.weak fun σ H Q ⟨ρ, F, ok, h⟩ => go ok (er ρ ▸ h) fun t F' H' q => q _ (.inl (by simp only [Rep])),
    (pt_chain (pos := pos) (oc o1) (oc o2) ha.v hb.v hc.v hm2).weak fun σ H Q ⟨ρ, F, ok, h⟩ => go ok (et ρ ▸ h) fun t F' H' q => ⟨t, rfl, q⟩, fun z => nomatch z⟩
theorem s_not (hx : Hx g sc X M W cl) (ha : SE X M W cl a ea) : SE X M W cl (.not a) (.UnaryOp .Not ea pos) := by
  have er : ∀ ρ, ev cl ρ .r (.not a) = ev cl ρ .v (.not a) := fun ρ => by simp only [ev, Md.sub]
  have base : PE X (.UnaryOp .Not ea pos) (fun σ H Q => tV X M W cl a σ H fun x H1 => ∃ F d, Sub F H1 ∧ RepR X.w X.K F H1 x d ∧ tok d = true ∧ Q (.bl (!truth d)) H1) := by
    refine ⟨fun pins s σ H Q I h => ?_⟩
    refine UnaryOp_ (thn (ha.v.run pins s σ H _ I h) fun v s1 ⟨x, H1, I1, r1, F, d, hF, hd, ht, q⟩ => ?_)
    exact not_of (thn (tru_D hx.dr pins s1 σ H1 x v (fun b H' => Q (.bl (!b)) H') I1 r1 ⟨F, d, hF, hd, ht, q⟩) fun b s2 ⟨H2, I2, q2⟩ => ⟨.bl (!b), H2, I2, rfl, q2⟩)
  have hv : PE X (.UnaryOp .Not ea pos) (tV X M W cl (.not a)) := base.weak fun σ H Q ⟨ρ, F, ok, h⟩ => by
    simp only [ev, Md.sub] at h
    refine ⟨ρ, F, ok, h.bind.imp fun d F1 H1 x1 h1 v1 r1 => ?_⟩
    by_cases c : tok d = true
    · rw [if_pos c] at h1
      exact ⟨F1, d, x1.inn, .inl r1, c, h1.ok x1.inn _ (by simp only [Rep])⟩
    · rw [if_neg c] at h1; exact h1.elim
  refine ⟨hv, hv.weak fun σ H Q ⟨ρ, F, ok, h⟩ => ⟨ρ, F, ok, (er ρ ▸ h).imp fun d F' H' x q v rv => q v (.inl rv)⟩, (pt_not (pos := pos) ha.t).weak fun σ H Q ⟨ρ, F, ok, h⟩ => ?_, fun z => nomatch z⟩
  simp only [ev, Md.sub] at h
  refine ⟨ρ, F, ok, h.bind.imp fun d F1 H1 x1 h1 => ?_⟩
  by_cases c : tok d = true
  · rw [if_pos c] at h1; exact h1.ok x1.inn
  · rw [if_neg c] at h1; exact h1.elim
theorem s_ite (hx : Hx g sc X M W cl) (hc : SE X M W cl c ec) (ha : SE X M W cl a ea) (hb : SE X M W cl b eb) : SE X M W cl (.ite c a b) (.IfExp ec ea eb pos) := by
  have er : ∀ ρ, ev cl ρ .r (.ite c a b) = ev cl ρ .v (.ite c a b) := fun ρ => by simp only [ev, Md.sub]
  have hv : PE X (.IfExp ec ea eb pos) (tV X M W cl (.ite c a b)) := (pe_ifExp (pos := pos) hc.t ha.v hb.v).weak fun σ H Q ⟨ρ, F, ok, h⟩ => by
    simp only [ev, Md.sub] at h
    refine ⟨ρ, F, ok, h.bind.imp fun d F1 H1 x1 h1 => ?_⟩
    cases e : truth d with
    | true => rw [e, if_pos rfl] at h1; rw [if_pos rfl]; exact ⟨ρ, F1, ok.ext x1, h1⟩
    | false => rw [e, if_neg Bool.false_ne_true] at h1; rw [if_neg Bool.false_ne_true]; exact ⟨ρ, F1, ok.ext x1, h1⟩
  refine ⟨hv, hv.weak fun σ H Q ⟨ρ, F, ok, h⟩ => ⟨ρ, F, ok, (er ρ ▸ h).imp fun d F' H' x q v rv => q v (.inl rv)⟩, ⟨fun pins s σ H Q I ⟨ρ, F, ok, h⟩ => ?_⟩, fun z => nomatch z⟩
  simp only [ev, Md.sub] at h
  show wpAny _ X.A (PySem.isTrue (.IfExp ec ea eb pos) X.env _) _ _ s
  simp only [PySem.isTrue]
  refine wpAny_bind (thn (hc.t.run pins s σ H (fun t H1 => if t = true then tT X M W cl a σ H1 Q else tT X M W cl b σ H1 Q) I ⟨ρ, F, ok, h.bind.imp fun d F1 H1 x1 h1 => ?_⟩) fun t s1 ⟨H1, I1, q1⟩ => ?_)
  · cases e : truth d with
    | true => rw [e, if_pos rfl] at h1; rw [if_pos rfl]; exact ⟨ρ, F1, ok.ext x1, h1⟩
    | false => rw [e, if_neg Bool.false_ne_true] at h1; rw [if_neg Bool.false_ne_true]; exact ⟨ρ, F1, ok.ext x1, h1⟩
  · cases t with
    | true => simp only [if_true] at q1 ⊢; exact ha.t.run pins s1 σ H1 Q I1 q1
    | false => simp only [Bool.false_eq_true, if_false] at q1 ⊢; exact hb.t.run pins s1 σ H1 Q I1 q1
end
end Ad
set_option Elab.async false
set_option linter.all false
set_option maxRecDepth 100000
set_option maxHeartbeats 4000000
namespace Ad
open PySem PySem.Spec PyProof.Rows L2

/-- all of a list -/
inductive SEs (X : Cx) (M : Pm) (W : WX) (cl : Cl) : List E → List Expr → Prop
  | nil : SEs X M W cl [] []
  | cons {x : E} {e : Expr} {xs : List E} {es : List Expr} : plainB e = true → SE X M W cl x e → SEs X M W cl xs es → SEs X M W cl (x :: xs) (e :: es)

section
variable {g : Gc} {sc : Scope} {X : Cx} {M : Pm} {W : WX} {cl : Cl} {w : World} {K : Fr} {pos : Pos}
theorem star_plain {e : Expr} {es : List Expr} {env : Env} (h : plainB e = true) : starEach (e :: es) env = (false, eval e env) :: starEach es env := by
  cases e <;> first | rfl | cases h
theorem SEs.plain {xs : List E} {es : List Expr} (h : SEs X M W cl xs es) (env : Env) : (backTo pos (starEach es env)).any (·.1) = false := by
  induction h with
  | nil => rfl
  | cons p _ _ ih =>
    rw [star_plain p]
    unfold backTo at ih ⊢
    simpa using ih
theorem s_args {xs : List E} {es : List Expr} (h : SEs X M W cl xs es) : PA X es (tVs X M W cl xs) := by
  induction h with
  | nil =>
    refine pa_nil.weak fun σ H Q ⟨ρ, F, ok, h⟩ => ?_
    simp only [evs] at h
    exact h.ok ok.sub [] (by simp only [RepL])
  | cons p hs _ ih =>
    exact (pa_cons hs.v ih (star_plain p)).weak fun σ H Q ⟨ρ, F, ok, h⟩ => by
      simp only [evs] at h
      exact ⟨ρ, F, ok, h.bind.imp fun d F1 H1 x1 h1 v r => ⟨ρ, F1, ok.ext x1, h1.bind.imp fun ds F2 H2 x2 h2 vs rs => h2.ok x2.inn _ (by simp only [RepL]; exact ⟨Rep.sub x2.subF _ _ r, rs⟩)⟩⟩
theorem s_argsR {xs : List E} {es : List Expr} (h : SEs X M W cl xs es) : PA X es (tRs X M W cl xs) := by
  induction h with
  | nil =>
    refine pa_nil.weak fun σ H Q ⟨ρ, F, ok, h⟩ => ?_
    simp only [evs] at h
    exact h.ok ok.sub [] trivial
  | cons p hs _ ih =>
    exact (pa_cons hs.r ih (star_plain p)).weak fun σ H Q ⟨ρ, F, ok, h⟩ => by
      simp only [evs] at h
      exact ⟨ρ, F, ok, h.bind.imp fun d F1 H1 x1 h1 v r => ⟨ρ, F1, ok.ext x1, h1.bind.imp fun ds F2 H2 x2 h2 vs rs => h2.ok x2.inn _ ⟨r.ext x2, rs⟩⟩⟩
theorem evs_length {cl : Cl} {ρ : List Sl} {m : Md} : ∀ {es : List E} {ds : List D}, evs cl ρ m es = .ok ds → ds.length = es.length
  | [], ds, h => by simp only [evs] at h; injection h with h; subst h; rfl
  | e :: es, ds, h => by
    simp only [evs] at h
    cases q : ev cl ρ m e with
    | ok d =>
      rw [q] at h
      cases q2 : evs cl ρ m es with
      | ok ds' =>
        rw [q2] at h
        injection h with h; subst h
        simp [evs_length q2]
      | ex c fs => rw [q2] at h; cases h
      | bad => rw [q2] at h; cases h
    | ex c fs => rw [q] at h; cases h
    | bad => rw [q] at h; cases h
theorem SEs.length {xs : List E} {es : List Expr} (h : SEs X M W cl xs es) : xs.length = es.length := by
  induction h with
  | nil => rfl
  | cons _ _ _ ih => simp [ih]
theorem After.keep {F H : Hp} {σ : L2.St} {α : Type} {r : R α} {P : α → Hp → Hp → Prop} (h : After w K M W σ F H r P) : After w K M W σ F H r fun a F' H' => r = .ok a ∧ P a F' H' := by
  cases r with
  | ok a => exact fun F' H' x => ⟨rfl, h F' H' x⟩
  | ex c fs => exact h
  | bad => exact h
theorem s_tup {xs : List E} {es : List Expr} {k : Nat} (hx : Hx g sc X M W cl) (h : SEs X M W cl xs es) (hf : fits es.length = true) : SE X M W cl (.tup xs) (.Tuple es k pos) := by
  refine SE.of hx ((pe_tupP (pos := pos) (k := k) (s_args h)).weak fun σ H Q ⟨ρ, F, ok, q⟩ => ?_) (fun ρ => by simp only [ev, fin_v, fin_r]) (fun ρ => by simp only [ev, bind_assoc, bind_ok, fin_v]) (fun _ => rfl) (fun z => nomatch z)
  simp only [ev, fin_v] at q
  refine ⟨ρ, F, ok, q.bind.keep.imp fun ds F1 H1 x1 ⟨e, h1⟩ vs rs => ?_⟩
  have hl : vs.length ≤ sizeLine := by
    rw [rs.length, evs_length e, h.length, ← line_eq]
    exact of_decide_eq_true hf
  exact ⟨hl, Res.tupNew (ds := ds) x1.inn (show Res X.w X.K F1 H1 (.ok (.tuple ds)) Q from fun v F' H' x r => h1 F' H' x v r) rs⟩
theorem s_lst {xs : List E} {es : List Expr} (hx : Hx g sc X M W cl) (h : SEs X M W cl xs es) (hf : fits es.length = true) : SE X M W cl (.lst xs) (.List es pos) := by
  refine SE.ofO hx ((pe_lst (pos := pos) (s_args h)).weak fun σ H Q ⟨ρ, F, ok, q⟩ => ?_) (fun ρ d q => ?_) (fun ρ => by simp only [ev, fin_v, fin_r]) (fun ρ => by simp only [ev, bind_assoc, bind_ok, fin_v]) (fun _ => rfl)
  · simp only [ev, fin_v] at q
    refine ⟨ρ, F, ok, q.bind.keep.imp fun ds F1 H1 x1 ⟨e, h1⟩ vs rs => ?_⟩
    have hl : vs.length ≤ sizeLine := by
      rw [rs.length, evs_length e, h.length, ← line_eq]
      exact of_decide_eq_true hf
    refine ⟨hl, fun p hp => ?_⟩
    have h0 : H p = none := by
      cases z : H p with
      | none => rfl
      | some o => rw [x1.sub _ _ z] at hp; cases hp
    exact ResO.lst (ds := ds) x1.inn (show ResO X.w X.K F1 H1 (.ok (.list ds)) Q from fun p F' H' x z z2 o => (h1 F' H' x).2 p (by
      cases q : H p with
      | none => rfl
      | some o => rw [x1.sub _ _ q] at z; cases z) z2 o) rs hp
  · simp only [ev, fin_v] at q
    cases z : evs cl ρ .v xs with
    | ok ds => rw [z] at q; injection q with q; subst q; rfl
    | ex c fs => rw [z] at q; cases q
    | bad => rw [z] at q; cases q
theorem s_idx {a i : E} {ea ei : Expr} (hx : Hx g sc X M W cl) (hi : ixB ei = true) (ha : SE X M W cl a ea) (hb : SE X M W cl i ei) : SE X M W cl (.idx a i) (.Subscript ea ei pos) := by
  have hp : PlainIx ei := fun o j => by cases ei <;> first | rfl | cases hi
  refine SE.of hx ((pe_ix (pos := pos) (ix_D hx.dr.ix) ha.r hb.v hp).weak fun σ H Q ⟨ρ, F, ok, h⟩ => ?_) (fun ρ => by simp only [ev, bind_fv, bind_fr]) (fun ρ => by simp only [ev, bind_fv, bind_assoc]) (fun _ => rfl) (fun z => nomatch z)
  simp only [ev, bind_fv] at h
  exact ⟨ρ, F, ok, h.bind.imp fun dx F1 H1 x1 h1 v1 r1 => ⟨ρ, F1, ok.ext x1, h1.bind.imp fun dy F2 H2 x2 h2 v2 r2 => ⟨F2, dx, dy, x2.inn, r1.ext x2, .inl r2, h2.resV (idxD_no _ _)⟩⟩⟩
theorem intO_no (d : D) : NoEx (intO d) := by
  unfold intO
  split <;> first | exact .ok | exact .bad
theorem s_none : PO X none (tOp' X M W cl none) := ⟨fun pins s σ H Q I ⟨ρ, F, ok, h⟩ => po_none.run pins s σ H Q I (by
  simp only [evO] at h
  exact h.ok ok.sub)⟩
theorem s_some {a : E} {ea : Expr} (ha : SE X M W cl a ea) : PO X (some ea) (tOp' X M W cl (some a)) := ⟨fun pins s σ H Q I ⟨ρ, F, ok, h⟩ => (po_some ha.v).run pins s σ H Q I (by
  simp only [evO] at h
  refine ⟨ρ, F, ok, h.bind.imp fun d F1 H1 x1 h1 v r => ?_⟩
  unfold intO at h1
  split at h1
  · simp only [Rep] at r
    exact ⟨_, r, h1.ok x1.inn⟩
  · exact h1.elim)⟩
theorem s_slc {a : E} {ea : Expr} {lo hi : Option E} {l u : Option Expr} {p2 : Pos} (hx : Hx g sc X M W cl) (ha : SE X M W cl a ea) (hl : PO X l (tOp' X M W cl lo)) (hu : PO X u (tOp' X M W cl hi)) : SE X M W cl (.slc a lo hi) (.Subscript ea (.Slice l u none p2) pos) := by
  have base := pe_slice (pos := pos) (p2 := p2) sl_D ha.r hl hu
  refine SE.of hx (base.weak fun σ H Q ⟨ρ, F, ok, h⟩ => ?_) (fun ρ => by simp only [ev, bind_fv, bind_fr]) (fun ρ => by simp only [ev, bind_fv, bind_assoc]) (fun _ => rfl) (fun _ => base.weak fun σ H Q ⟨ρ, F, ok, h⟩ => ?_)
  · simp only [ev, bind_fv] at h
    exact ⟨ρ, F, ok, h.bind.imp fun dx F1 H1 x1 h1 v1 r1 => ⟨ρ, F1, ok.ext x1, h1.bind.imp fun dl F2 H2 x2 h2 => ⟨ρ, F2, (ok.ext x1).ext x2, h2.bind.imp fun du F3 H3 x3 h3 =>
      ⟨F3, dx, x3.inn, (r1.ext x2).ext x3, (h3.resV (slcD_no _ _ _)).m⟩⟩⟩⟩
  · simp only [ev, bind_fv] at h
    exact ⟨ρ, F, ok, h.bind.imp fun dx F1 H1 x1 h1 v1 r1 => ⟨ρ, F1, ok.ext x1, h1.bind.imp fun dl F2 H2 x2 h2 => ⟨ρ, F2, (ok.ext x1).ext x2, h2.bind.imp fun du F3 H3 x3 h3 =>
      ⟨F3, dx, x3.inn, (r1.ext x2).ext x3, h3.resO (slcD_no _ _ _) ((x1.sub.trans x2.sub).trans x3.sub) x3.inn⟩⟩⟩⟩

/-! ### and, or -/
theorem or_val {a b : Expr} {rest : List Expr} {ta tb : TE} (hd : DR X) (ha : PE X a ta) (hb : PE X (.BoolOp .Or (b :: rest) pos) tb) :
    PE X (.BoolOp .Or (a :: b :: rest) pos) (fun σ H Q => ta σ H fun x H1 => ∃ F d, Sub F H1 ∧ RepR X.w X.K F H1 x d ∧ tok d = true ∧ if truth d = true then Q x H1 else tb σ H1 Q) := by
  refine ⟨fun pins s σ H Q I h => ?_⟩
  refine BoolOp_or (thn (ha.run pins s σ H _ I h) fun v s1 ⟨x, H1, I1, r1, q1⟩ => ?_)
  obtain ⟨F, d, hF, hr, ht, q1⟩ := q1
  refine thn (tru_D hd pins s1 σ H1 x v (fun c H2 => c = truth d ∧ H2 = H1) I1 r1 ⟨F, d, hF, hr, ht, rfl, rfl⟩) fun c s2 hc => ?_
  obtain ⟨H2, I2, e1, e2⟩ := hc
  rw [e2] at I2
  rw [← e1] at q1
  cases c with
  | true => exact ⟨x, H1, I2, r1, q1⟩
  | false => exact hb.run pins s2 σ H1 Q I2 q1
theorem and_val {a b : Expr} {rest : List Expr} {ta tb : TE} (hd : DR X) (ha : PE X a ta) (hb : PE X (.BoolOp .And (b :: rest) pos) tb) :
    PE X (.BoolOp .And (a :: b :: rest) pos) (fun σ H Q => ta σ H fun x H1 => ∃ F d, Sub F H1 ∧ RepR X.w X.K F H1 x d ∧ tok d = true ∧ if truth d = true then tb σ H1 Q else Q x H1) := by
  refine ⟨fun pins s σ H Q I h => ?_⟩
  refine BoolOp_and (thn (ha.run pins s σ H _ I h) fun v s1 ⟨x, H1, I1, r1, q1⟩ => ?_)
  obtain ⟨F, d, hF, hr, ht, q1⟩ := q1
  refine thn (tru_D hd pins s1 σ H1 x v (fun c H2 => c = truth d ∧ H2 = H1) I1 r1 ⟨F, d, hF, hr, ht, rfl, rfl⟩) fun c s2 hc => ?_
  obtain ⟨H2, I2, e1, e2⟩ := hc
  rw [e2] at I2
  rw [← e1] at q1
  cases c with
  | true => exact hb.run pins s2 σ H1 Q I2 q1
  | false => exact ⟨x, H1, I2, r1, q1⟩
theorem s_bopV (hx : Hx g sc X M W cl) (op : BoolOp) : ∀ {xs : List E} {es : List Expr}, SEs X M W cl xs es → es ≠ [] → PE X (.BoolOp op es pos) (tBv X M W cl op xs)
  | _, _, .nil, h => absurd rfl h
  | _, _, .cons (x := x) (e := e) p hs .nil, _ => (pe_one (pos := pos) hs.v).weak fun σ H Q ⟨ρ, F, ok, h⟩ => ⟨ρ, F, ok, by
      simp only [evB, Md.sub, bind_pure] at h
      exact h⟩
  | _, _, .cons (x := x) (e := e) p hs (.cons (x := y) (e := e2) (xs := ys) (es := es2) p2 hs2 rest), _ => by
    have ih := s_bopV hx op (.cons p2 hs2 rest) (List.cons_ne_nil _ _)
    cases op with
    | And => exact (and_val (pos := pos) hx.dr hs.v ih).weak fun σ H Q ⟨ρ, F, ok, h⟩ => ⟨ρ, F, ok, by
        rw [evB] at h
        refine h.bind.imp fun d F1 H1 x1 h1 v r => ?_
        by_cases c : tok d = true
        · simp only [c, if_true] at h1
          refine ⟨F1, d, x1.inn, .inl r, c, ?_⟩
          cases t : truth d with
          | true => simp only [t, if_true] at h1 ⊢; exact ⟨ρ, F1, ok.ext x1, h1⟩
          | false => simp only [t, Bool.false_eq_true, if_false] at h1 ⊢; exact h1.ok x1.inn v r
        · simp only [c, if_false] at h1; exact h1.elim⟩
    | Or => exact (or_val (pos := pos) hx.dr hs.v ih).weak fun σ H Q ⟨ρ, F, ok, h⟩ => ⟨ρ, F, ok, by
        rw [evB] at h
        refine h.bind.imp fun d F1 H1 x1 h1 v r => ?_
        by_cases c : tok d = true
        · simp only [c, if_true] at h1
          refine ⟨F1, d, x1.inn, .inl r, c, ?_⟩
          cases t : truth d with
          | true => simp only [t, if_true] at h1 ⊢; exact h1.ok x1.inn v r
          | false => simp only [t, Bool.false_eq_true, if_false] at h1 ⊢; exact ⟨ρ, F1, ok.ext x1, h1⟩
        · simp only [c, if_false] at h1; exact h1.elim⟩
theorem s_bopT (op : BoolOp) : ∀ {xs : List E} {es : List Expr}, SEs X M W cl xs es → es ≠ [] → PW X (.BoolOp op es pos) (tBt X M W cl op xs)
  | _, _, .nil, h => absurd rfl h
  | _, _, .cons (x := x) (e := e) p hs .nil, _ => by
    have go : ∀ σ H Q, tBt X M W cl op [x] σ H Q → tT X M W cl x σ H Q := fun σ H Q ⟨ρ, F, ok, h⟩ => ⟨ρ, F, ok, by
      simp only [evB, Md.sub, bind_pure] at h
      exact h⟩
    cases op with
    | And => exact (pw_and1 (pos := pos) hs.t).weak go
    | Or => exact (pw_or1 (pos := pos) hs.t).weak go
  | _, _, .cons (x := x) (e := e) p hs (.cons (x := y) (e := e2) (xs := ys) (es := es2) p2 hs2 rest), _ => by
    have ih := s_bopT op (.cons p2 hs2 rest) (List.cons_ne_nil _ _)
    cases op with
    | And => exact (pw_and (pos := pos) hs.t ih).weak fun σ H Q ⟨ρ, F, ok, h⟩ => ⟨ρ, F, ok, by
        rw [evB] at h
        refine h.bind.imp fun d F1 H1 x1 h1 => ?_
        by_cases c : tok d = true
        · simp only [c, if_true] at h1
          cases t : truth d with
          | true => simp only [t, if_true] at h1 ⊢; exact ⟨ρ, F1, ok.ext x1, h1⟩
          | false => simp only [t, Bool.false_eq_true, if_false] at h1 ⊢; have := h1.ok x1.inn; rw [t] at this; exact this
        · simp only [c, if_false] at h1; exact h1.elim⟩
    | Or => exact (pw_or (pos := pos) hs.t ih).weak fun σ H Q ⟨ρ, F, ok, h⟩ => ⟨ρ, F, ok, by
        rw [evB] at h
        refine h.bind.imp fun d F1 H1 x1 h1 => ?_
        by_cases c : tok d = true
        · simp only [c, if_true] at h1
          cases t : truth d with
          | true => simp only [t, if_true] at h1 ⊢; have := h1.ok x1.inn; rw [t] at this; exact this
          | false => simp only [t, Bool.false_eq_true, if_false] at h1 ⊢; exact ⟨ρ, F1, ok.ext x1, h1⟩
        · simp only [c, if_false] at h1; exact h1.elim⟩
theorem s_bop {op : BoolOp} {xs : List E} {es : List Expr} (hx : Hx g sc X M W cl) (h : SEs X M W cl xs es) (hn : es ≠ []) : SE X M W cl (.bop op xs) (.BoolOp op es pos) := by
  have hv : PE X (.BoolOp op es pos) (tV X M W cl (.bop op xs)) := (s_bopV hx op h hn).weak fun σ H Q ⟨ρ, F, ok, h⟩ => ⟨ρ, F, ok, by simp only [ev] at h; exact h⟩
  have er : ∀ (ρ : List Sl) (ys : List E), evB cl ρ .r op ys = evB cl ρ .v op ys := fun ρ ys => by
    induction ys with
    | nil => simp only [evB]
    | cons y r ih => rw [evB, evB]; cases r with
      | nil => rfl
      | cons z r => simp only [ih]; rfl
  refine ⟨hv, hv.weak fun σ H Q ⟨ρ, F, ok, h⟩ => ⟨ρ, F, ok, ?_⟩, (s_bopT (pos := pos) op h hn).pt.weak fun σ H Q ⟨ρ, F, ok, h⟩ => ⟨ρ, F, ok, by simp only [ev] at h; exact h⟩, fun z => nomatch z⟩
  simp only [ev, er] at h ⊢
  exact h.imp fun d F' H' x q v rv => q v (.inl rv)
end
end Ad
set_option Elab.async false
set_option linter.all false
set_option maxRecDepth 100000
set_option maxHeartbeats 4000000
namespace Ad
open PySem PySem.Spec PyProof.Rows L2

theorem rangeL_no (ds : List D) : NoEx (rangeL ds) := by
  unfold rangeL
  split
  · exact .ite .ok .bad
  · exact .ite .ok .bad
  · exact .ite .ok .bad
  · exact .bad
theorem pairsD_no : ∀ (xs : List D) (acc : List (D × D)), NoEx (pairsD xs acc)
  | [], acc => by unfold pairsD; exact .ok
  | x :: r, acc => by
    unfold pairsD
    split
    · exact .ok
    · rename_i h
      cases h
      split
      · exact pairsD_no r _
      · exact .bad
    · exact .bad
theorem prD_no (p : Pr) (ds : List D) : NoEx (prD p ds) := by
  cases p <;> simp only [prD]
  case len => unfold lenD; split <;> first | exact .ok | exact .bad | exact .ite .ok .bad
  case list => unfold listD; split <;> first | exact .ok | exact .bad
  case tuple => unfold tupleD; split <;> first | exact .ok | exact .bad
  case sorted => unfold sortedD; split <;> first | exact .of | exact .ite .of .bad | exact .bad
  case sitems => unfold sitemsD; split <;> first | exact .of | exact .bad
  case int =>
    unfold intD
    split
    · exact .ok
    · exact .ok
    · split
      · exact .ite .ok .bad
      · exact .bad
    · exact .bad
  case abs => unfold absD; split <;> first | exact .ok | exact .bad
  case max2 => unfold max2D; split <;> first | exact .ok | exact .bad
  case min2 => unfold min2D; split <;> first | exact .ok | exact .bad
  case dict => unfold dictD; split <;> first | exact .ok | exact .bad | exact pairsD_no _ _
  case sum => unfold sumD; split <;> first | exact .of | exact .bad
  case str => unfold strD; split <;> first | exact .ite .ok .bad | exact .bad
  case maxD => unfold maxDD; split <;> first | exact .ok | exact .of | exact .bad
  case sset => unfold ssetD; split <;> first | exact .of | exact .bad
  case rng => exact (rangeL_no _).bind fun _ => .ok
  case rev => unfold revD; split <;> first | exact .ite .ok .bad | exact .bad

section
variable {g : Gc} {sc : Scope} {X : Cx} {M : Pm} {W : WX} {cl : Cl} {pos p0 : Pos} {xs : List E} {e : Expr} {es : List Expr}
theorem s_pr0 {p : Pr} {x : Str} (hx : Hx g sc X M W cl) (hr : PE X (.Call (.Name x p0) (e :: es) [] pos) (tCB (rP X p) (tRs X M W cl xs))) : SE X M W cl (.pr p xs) (.Call (.Name x p0) (e :: es) [] pos) := by
  refine SE.of hx (hr.weak fun σ H Q ⟨ρ, F, ok, h⟩ => ?_) (fun ρ => by simp only [ev, bind_fv, bind_fr]) (fun ρ => by simp only [ev, bind_fv, bind_assoc]) (fun _ => rfl) (fun _ => hr.weak fun σ H Q ⟨ρ, F, ok, h⟩ => ?_)
  · simp only [ev, bind_fv] at h
    exact ⟨ρ, F, ok, h.bind.imp fun ds F1 H1 x1 h1 vs rs => ⟨F1, ds, x1.inn, rs, (h1.resV (prD_no _ _)).m⟩⟩
  · simp only [ev, bind_fv] at h
    exact ⟨ρ, F, ok, h.bind.imp fun ds F1 H1 x1 h1 vs rs => ⟨F1, ds, x1.inn, rs, h1.resO (prD_no _ _) x1.sub x1.inn⟩⟩
theorem s_pr {p : Pr} (hx : Hx g sc X M W cl) (hp : prB p = true) (hg : gloB sc (prName p) = true) (hc : g.calm = true) (h : SEs X M W cl xs (e :: es)) : SE X M W cl (.pr p xs) (.Call (.Name (prName p) p0) (e :: es) [] pos) := by
  have ha := s_argsR h
  obtain ⟨he, hpl⟩ : starEach (e :: es) X.env = (false, eval e X.env) :: starEach es X.env ∧ (backTo pos (starEach es X.env)).any (·.1) = false := by
    cases h with
    | cons p _ r => exact ⟨star_plain p, r.plain _⟩
  obtain ⟨g1, g2⟩ := glo_i hg hx
  have hq : X.calm = true := hx.calm.trans hc
  refine s_pr0 hx ?_
  cases p with
  | len => exact pe_callB (cr_len hx.dr.len) g1 (hx.blt _ (by decide +kernel)) boot_len ha (by decide) g2 he hpl
  | dict => exact pe_callTy cr_dict g1 (hx.blt _ (by decide +kernel)) (by decide +kernel) ha (by decide) g2 he hpl
  | list => exact pe_callTy cr_list g1 (hx.blt _ (by decide +kernel)) (by decide +kernel) ha (by decide) g2 he hpl
  | tuple => exact pe_callTy cr_tuple g1 (hx.blt _ (by decide +kernel)) (by decide +kernel) ha (by decide) g2 he hpl
  | int => exact pe_callTy cr_int g1 (hx.blt _ (by decide +kernel)) (by decide +kernel) ha (by decide) g2 he hpl
  | str => exact pe_callTy cr_str g1 (hx.blt _ (by decide +kernel)) (by decide +kernel) ha (by decide) g2 he hpl
  | abs => exact pe_callB cr_abs g1 (hx.blt _ (by decide +kernel)) (by decide +kernel) ha (by decide) g2 he hpl
  | max2 => exact pe_callB (cr_max2 hq) g1 (hx.blt _ (by decide +kernel)) (by decide +kernel) ha (by decide) g2 he hpl
  | min2 => exact pe_callB (cr_min2 hq) g1 (hx.blt _ (by decide +kernel)) (by decide +kernel) ha (by decide) g2 he hpl
  | sum => exact pe_callB (cr_sumD hq) g1 (hx.blt _ (by decide +kernel)) (by decide +kernel) ha (by decide) g2 he hpl
  | _ => cases hp

/-! ### isinstance -/
def tyS : D → String
  | .none => "NoneType"
  | .bool _ => "bool"
  | .int _ => "int"
  | .str _ => "str"
  | .list _ => "list"
  | .tuple _ => "tuple"
  | .dict _ => "dict"
def tyT : Ty → String
  | .int => "int"
  | .bool => "bool"
  | .str => "str"
  | .tuple => "tuple"
  | .list => "list"
  | .cls _ _ => ""
theorem tyX_of {w : World} {K : Fr} {F H : Hp} {v : V} {d : D} (s : Sub F H) (hd : ∀ kvs, d ≠ .dict kvs) (r : Rep w K F v d) : TyX K H v (.type (tyS d)) := by
  cases d with
  | none => simp only [Rep] at r; subst r; exact .base .non
  | bool b => simp only [Rep] at r; subst r; exact .base (.bl b)
  | int i => simp only [Rep] at r; subst r; exact .base (.int i)
  | str x => simp only [Rep] at r; subst r; exact .base (.str x)
  | list ds =>
    simp only [Rep] at r
    obtain ⟨a, xs, rfl, q, _⟩ := r
    rcases q with (q | ⟨o, q⟩) | ⟨o, its, n, hk, hc, _⟩
    · exact .base (.lst (s _ _ q))
    · exact .base (.frz (s _ _ q))
    · exact .kList hk hc
  | tuple ds =>
    simp only [Rep] at r
    obtain ⟨a, xs, rfl, q, _⟩ := r
    rcases q.t with (q | ⟨o, q⟩) | ⟨o, its, n, hk, hc, _⟩
    · exact .base (.tup (s _ _ q))
    · exact .fTuple (s _ _ q)
    · exact .kTuple hk hc
  | dict kvs => exact absurd rfl (hd kvs)
theorem isiD_ok {d : D} {t : Ty} {r : D} (h : isiD d t = .ok r) : (∀ kvs, d ≠ .dict kvs) ∧ (∀ x cs, t ≠ .cls x cs) ∧ ∃ b, r = .bool b ∧ kitB (tyS d) (tyT t) = some b := by
  cases d <;> cases t <;> simp only [isiD] at h <;> first | (injection h with h; subst h; exact ⟨(by intro _ z; cases z), (by intro _ _ z; cases z), _, rfl, by simp only [tyS, tyT]; decide +kernel⟩) | (cases h)
theorem isiD_cls (d : D) (z : Str) (cs : List Str) : isiD d (.cls z cs) = .bad := by cases d <;> rfl
theorem isiD_no (d : D) (t : Ty) : NoEx (isiD d t) := by
  unfold isiD
  split <;> first | exact .ok | exact .bad
theorem ev_isi {ρ : List Sl} {m : Md} {a : E} {t : Ty} (ht : ∀ x cs, t ≠ .cls x cs) : ev cl ρ m (.isi a t) = (ev cl ρ .v a).bind fun d => isiD d t := by
  cases a <;> simp only [ev, bind_fv] <;> first | rfl | skip
  unfold isiV getV
  rename_i i
  cases q : ρ[i]? with
  | none => cases t <;> rfl
  | some s => cases s <;> cases t <;> first | rfl | exact absurd rfl (ht _ _)
theorem boot_ty {t : Ty} (ht : ∀ x cs, t ≠ .cls x cs) : bootBuiltins (tyName t) = some (.type (tyT t)) ∧ tyName t ∈ builtins ∧ tyName t ≠ "__name__" ∧ (tyName t == ("__debug__" : Str)) = false := by
  cases t with
  | cls x cs => exact absurd rfl (ht x cs)
  | _ => exact ⟨by decide +kernel, by decide +kernel, by decide +kernel, by decide +kernel⟩
theorem s_isi {a : E} {ea : Expr} {t : Ty} {p1 : Pos} (hx : Hx g sc X M W cl) (ht : ∀ x cs, t ≠ .cls x cs) (hg : gloB sc "isinstance" = true) (hz : gloB sc (tyName t) = true) (hp : plainB ea = true) (ha : SE X M W cl a ea) :
    SE X M W cl (.isi a t) (.Call (.Name "isinstance" p0) [ea, .Name (tyName t) p1] [] pos) := by
  obtain ⟨g1, g2⟩ := glo_i hg hx
  obtain ⟨z1, z2⟩ := glo_i hz hx
  obtain ⟨b1, b2, b3, b4⟩ := boot_ty ht
  have pt : PE X (.Name (tyName t) p1) (tC (.ty (tyT t))) := pe_bltn z1 (hx.blt _ b2) b1 rfl b3 b4
  have hA : PA X [ea, .Name (tyName t) p1] (tCons (tV X M W cl a) (tCons (tC (.ty (tyT t))) tNil)) := pa_cons ha.v (pa_cons pt pa_nil rfl) (star_plain hp)
  have base := pe_callB (pos := pos) (p := p0) call_isi g1 (hx.blt _ (by decide +kernel)) (by decide +kernel) hA (by decide) g2 (star_plain hp) rfl
  refine SE.of hx (base.weak fun σ H Q ⟨ρ, F, ok, h⟩ => ?_) (fun ρ => by rw [ev_isi ht, ev_isi ht]) (fun ρ => ?_) (fun _ => rfl) (fun z => nomatch z)
  · rw [ev_isi ht] at h
    refine ⟨ρ, F, ok, h.bind.imp fun d F1 H1 x1 h1 v r => ?_⟩
    cases e : isiD d t with
    | ok b =>
      rw [e] at h1
      obtain ⟨e1, e2, b', rfl, e3⟩ := isiD_ok e
      exact ⟨v, .ty (tyT t), .type (tyS d), .type (tyT t), b', rfl, .ty _, tyX_of x1.inn e1 r, kit_ty e3, h1.ok x1.inn _ (by simp only [Rep])⟩
    | ex c fs => exact absurd e (isiD_no _ _ c fs)
    | bad => rw [e] at h1; exact h1.elim
  · rw [ev_isi ht, ev_isi ht, bind_assoc]
    congr
    funext d
    cases e : isiD d t with
    | ok b =>
      obtain ⟨_, _, b', rfl, _⟩ := isiD_ok e
      rfl
    | ex c fs => rfl
    | bad => rfl
/-- .. of the exception that is handled -/
theorem s_isiG {i : Nat} {v z : Str} {cs : List Str} {p1 p2 : Pos} {c : V} {cv : Value} (hx : Hx g sc X M W cl) (hc : g.calm = false) (hg : gloB sc "isinstance" = true) (hcv : ∀ u, RelV c u → u = cv) (hpz : ∀ (X0 : Cx) (a : Addr) (l : List (Addr × Obj)), X = Cx.suite X0 a l → PE X (.Name z p1) (tC c)) (m2 : ∀ k C, M.cls k = some C → PySem.W.kitOne X.K (.ref C) cv = some (cs.contains k) ∧ ExcC X.K C) (hv : varB g sc i v = true) :
    SE X M W cl (.isi (.var i) (.cls z cs)) (.Call (.Name "isinstance" p0) [.Name v p2, .Name z p1] [] pos) := by
  obtain ⟨g1, g2⟩ := glo_i hg hx
  obtain ⟨v1, v2, v3, v4⟩ := var_i hv hx
  have evE : ∀ (ρ : List Sl) (m : Md), ev cl ρ m (.isi (.var i) (.cls z cs)) = isiV ρ[i]? (.cls z cs) := fun ρ m => by simp only [ev]
  cases hE : M.exc with
  | none =>
    have no : ∀ {σ : L2.St} {F H : Hp} {ρ : List Sl} {α : Type} {P : D → Hp → Hp → Prop} {m : Md}, Ok X.w X.K M F H σ ρ → After X.w X.K M W σ F H (ev cl ρ m (.isi (.var i) (.cls z cs))) P → False := fun {σ F H ρ α P m} ok h => by
      rw [evE] at h
      cases q : ρ[i]? with
      | none => rw [q] at h; exact h
      | some s =>
        cases s with
        | ex c' fs => obtain ⟨_, _, _, h1, _⟩ := ok.slot i _ q; rw [hE] at h1; cases h1
        | fz d => rw [q] at h; cases d <;> exact h
        | _ => rw [q] at h; exact h
    refine ⟨⟨fun pins s σ H Q I ⟨ρ, F, ok, h⟩ => (no (α := D) ok h).elim⟩, ⟨fun pins s σ H Q I ⟨ρ, F, ok, h⟩ => (no (α := D) ok h).elim⟩, ⟨fun pins s σ H Q I ⟨ρ, F, ok, h⟩ => (no (α := D) ok h).elim⟩, fun z => nomatch z⟩
  | some q =>
    obtain ⟨a, C, d⟩ := q
    obtain ⟨X0, oe, pn, rfl, hZ, hf⟩ := hx.exq a C d hE hc
    have hA : PA (Cx.suite X0 a ((a, oe) :: pn)) [.Name v p2, .Name z p1] (tCons (tVar i) (tCons (tC c) tNil)) := pa_cons (pe_var v1 v2 v3 v4) (pa_cons (hpz _ _ _ rfl) pa_nil rfl) rfl
    have key : ∀ {σ : L2.St} {F H : Hp} {ρ : List Sl} {P : D → Hp → Hp → Prop} {m : Md}, Ok X0.w X0.K M F H σ ρ → After X0.w X0.K M W σ F H (ev cl ρ m (.isi (.var i) (.cls z cs))) P →
        ∃ b, σ[i]? = some (some (.ref a)) ∧ ExcC X0.K C ∧ PySem.W.kitOne X0.K (.ref C) cv = some b ∧ (∀ dd, d = some dd → ∃ vs, H dd = some (.xd vs)) ∧ P (.bool b) F H := fun {σ F H ρ P m} ok h => by
      rw [evE] at h
      cases q : ρ[i]? with
      | none => rw [q] at h; exact h.elim
      | some s =>
        cases s with
        | ex c' fs =>
          obtain ⟨a', C', d', h1, h2, h3, h4⟩ := ok.slot i _ q
          rw [hE] at h1
          cases h1
          rw [q] at h
          obtain ⟨k2, k3⟩ := m2 c' C h3
          refine ⟨_, h2, k3, k2, fun dd e => ?_, h F H (.refl ok.sub)⟩
          subst e
          obtain ⟨vs, f1, _⟩ := h4
          exact ⟨vs, ok.sub _ _ f1⟩
        | fz d => rw [q] at h; cases d <;> exact h.elim
        | _ => rw [q] at h; exact h.elim
    have base : PE (Cx.suite X0 a ((a, oe) :: pn)) (.Call (.Name "isinstance" p0) [.Name v p2, .Name z p1] [] pos) (fun σ H Q => ∃ b, σ[i]? = some (some (.ref a)) ∧ ExcC X0.K C ∧ PySem.W.kitOne X0.K (.ref C) cv = some b ∧ (∀ dd, d = some dd → ∃ vs, H dd = some (.xd vs)) ∧ Q (.bl b) H) := by
      refine ⟨fun pins s σ H Q I ⟨b, h1, h2, h3, h4, h5⟩ => ?_⟩
      exact (pe_callB (pos := pos) (p := p0) (call_isX h2 hZ hf) g1 (hx.blt _ (by decide +kernel)) (by decide +kernel) hA (by decide) g2 rfl rfl).run pins s σ H Q I ⟨_, h1, _, cv, b, rfl, hcv, h3, h4, h5⟩
    refine SE.of hx (base.weak fun σ H Q ⟨ρ, F, ok, h⟩ => ?_) (fun ρ => by rw [evE, evE]) (fun ρ => ?_) (fun _ => rfl) (fun z => nomatch z)
    · obtain ⟨b, k1, k2, k3, k4, k5⟩ := key ok h
      exact ⟨b, k1, k2, k3, k4, k5 _ (by simp only [Rep])⟩
    · rw [evE, evE]
      unfold isiV
      split
      · rfl
      · simp only [isiD_cls]; rfl
      · rfl
theorem s_isiC {i : Nat} {v z : Str} {cs : List Str} {p1 p2 : Pos} (hx : Hx g sc X M W cl) (hc : g.calm = false) (hg : gloB sc "isinstance" = true) (hz : gloB sc z = true) (hd : g.hd.lookup z = some cs) (hv : varB g sc i v = true) :
    SE X M W cl (.isi (.var i) (.cls z cs)) (.Call (.Name "isinstance" p0) [.Name v p2, .Name z p1] [] pos) := by
  obtain ⟨z1, z2⟩ := glo_i hz hx
  obtain ⟨c, m1, m2⟩ := hx.hd z cs hd
  exact s_isiG (c := .ref c) (cv := .ref c) hx hc hg (fun u r => by cases r; rfl) (fun _ _ _ _ => pe_glob z1 m1 rfl z2) (fun k C h => ⟨(m2 k C h).2.1, (m2 k C h).2.2.1⟩) hv
/-- .. and a ValueError -/
theorem s_isiV {i : Nat} {v : Str} {p1 p2 : Pos} (hx : Hx g sc X M W cl) (hc : g.calm = false) (hg : gloB sc "isinstance" = true) (hz : gloB sc "ValueError" = true) (hv : varB g sc i v = true) :
    SE X M W cl (.isi (.var i) (.cls "ValueError" (g.hd.map (·.1)))) (.Call (.Name "isinstance" p0) [.Name v p2, .Name "ValueError" p1] [] pos) := by
  obtain ⟨z1, z2⟩ := glo_i hz hx
  exact s_isiG (c := .ty "ValueError") (cv := .type "ValueError") hx hc hg (fun u r => by cases r; rfl) (fun _ _ _ _ => pe_bltn z1 (hx.blt _ (by decide +kernel)) (by decide +kernel) rfl (by decide +kernel) z2) (fun k C h => by
    obtain ⟨h1, h2, h3⟩ := hx.ve k C h
    rw [h2]; exact ⟨h1, h3⟩) hv
/-! ### e.point -/
theorem XFs.look {w : World} {K : Fr} {F : Hp} {f : Str} {d : D} : ∀ {vs : List (Str × V)} {fs : List (Str × D)}, XFs w K F vs fs → fs.lookup f = some d → ∃ v, vs.lookup f = some v ∧ Rep w K F v d
  | [], [], _, h => nomatch h
  | [], _ :: _, x, _ => x.elim
  | _ :: _, [], x, _ => x.elim
  | (a, v) :: r, (b, e) :: s, x, h => by
    obtain ⟨rfl, h2, h3⟩ := x
    rw [List.lookup_cons] at h ⊢
    cases c : f == a with
    | true =>
      rw [c] at h
      cases h
      exact ⟨v, rfl, h2⟩
    | false =>
      rw [c] at h
      exact XFs.look h3 h
theorem s_fld {i : Nat} {v f z : Str} {cs : List Str} {p1 : Pos} (hx : Hx g sc X M W cl) (hc : g.calm = false) (hd : g.hd.lookup z = some cs) (hF : f ∈ fldN) (hv : varB g sc i v = true) :
    SE X M W cl (.fld i f) (.Attribute (.Name v p1) f pos) := by
  obtain ⟨c, m1, m2⟩ := hx.hd z cs hd
  obtain ⟨v1, v2, v3, v4⟩ := var_i hv hx
  have nr : ¬ f = ("rows" : Str) := by
    have : (fldN.all fun f => !decide (f = ("rows" : Str))) = true := by decide +kernel
    have := List.all_eq_true.mp this f hF
    simpa using this
  have evE : ∀ (ρ : List Sl) (m : Md), ev cl ρ m (.fld i f) = match ρ[i]? with
    | some (.ex _ fs) => (R.of (fs.lookup f)).bind m.fin
    | _ => .bad := fun ρ m => by
      simp only [ev]
      rw [if_neg nr]
      try (cases ρ[i]? with
        | none => rfl
        | some s => cases s <;> rfl)
  cases hE : M.exc with
  | none =>
    have no : ∀ {σ : L2.St} {F H : Hp} {ρ : List Sl} {P : D → Hp → Hp → Prop} {m : Md}, Ok X.w X.K M F H σ ρ → After X.w X.K M W σ F H (ev cl ρ m (.fld i f)) P → False := fun {σ F H ρ P m} ok h => by
      rw [evE] at h
      cases q : ρ[i]? with
      | none => rw [q] at h; exact h
      | some s =>
        cases s with
        | ex c' fs => obtain ⟨_, _, _, h1, _⟩ := ok.slot i _ q; rw [hE] at h1; cases h1
        | _ => rw [q] at h; exact h
    exact ⟨⟨fun pins s σ H Q I ⟨ρ, F, ok, h⟩ => (no ok h).elim⟩, ⟨fun pins s σ H Q I ⟨ρ, F, ok, h⟩ => (no ok h).elim⟩, ⟨fun pins s σ H Q I ⟨ρ, F, ok, h⟩ => (no ok h).elim⟩, fun z => nomatch z⟩
  | some q =>
    obtain ⟨a, C, d⟩ := q
    obtain ⟨X0, oe, pn, rfl, hZ, hf⟩ := hx.exq a C d hE hc
    have key : ∀ {σ : L2.St} {F H : Hp} {ρ : List Sl} {P : D → Hp → Hp → Prop}, Ok X0.w X0.K M F H σ ρ → After X0.w X0.K M W σ F H (ev cl ρ .v (.fld i f)) P →
        σ[i]? = some (some (.ref a)) ∧ ExcC X0.K C ∧ PySem.W.findIn X0.K (.ref C) f = some none ∧ ∃ dd vs x e, d = some dd ∧ H dd = some (.xd vs) ∧ vs.lookup f = some x ∧ Rep X0.w X0.K F x e ∧ P e F H := fun {σ F H ρ P} ok h => by
      rw [evE] at h
      cases q : ρ[i]? with
      | none => rw [q] at h; exact h.elim
      | some s =>
        cases s with
        | ex c' fs =>
          obtain ⟨a', C', d', h1, h2, h3, h4⟩ := ok.slot i _ q
          rw [hE] at h1
          cases h1
          rw [q] at h
          obtain ⟨_, _, k3, k4⟩ := m2 c' C h3
          cases hl : fs.lookup f with
          | none => simp only [hl] at h; exact h.elim
          | some e =>
            simp only [hl] at h
            have h : P e F H := h F H (.refl ok.sub)
            cases d with
            | none => have : fs = [] := h4; subst this; cases hl
            | some dd =>
              obtain ⟨vs, f1, f2⟩ := h4
              obtain ⟨x, x1, x2⟩ := f2.look hl
              exact ⟨h2, k3, k4 f hF, dd, vs, x, e, rfl, ok.sub _ _ f1, x1, x2, h⟩
        | _ => rw [q] at h; exact h.elim
    have base : PE (Cx.suite X0 a ((a, oe) :: pn)) (.Attribute (.Name v p1) f pos) (fun σ H Q => σ[i]? = some (some (.ref a)) ∧ ExcC X0.K C ∧ PySem.W.findIn X0.K (.ref C) f = some none ∧ ∃ dd vs x, d = some dd ∧ H dd = some (.xd vs) ∧ vs.lookup f = some x ∧ Q x H) := by
      refine ⟨fun pins s σ H Q I ⟨h1, h2, h3, dd, vs, x, h4, h5, h6, h7⟩ => ?_⟩
      exact (pe_xf (X := X0) (C := C) (cls := .ref C) (d := d) ⟨h2.hg, h2.hk, h2.hs, h2.hd⟩ h3 hZ hf (pe_var v1 v2 v3 v4)).run pins s σ H Q I ⟨_, h1, rfl, rfl, dd, vs, x, h4, h5, h6, h7⟩
    refine SE.of hx (base.weak fun σ H Q ⟨ρ, F, ok, h⟩ => ?_) (fun ρ => by rw [evE, evE]; rfl) (fun ρ => ?_) (fun _ => rfl) (fun z => nomatch z)
    · obtain ⟨k1, k2, k3, dd, vs, x, e, k4, k5, k6, k7, k8⟩ := key ok h
      exact ⟨k1, k2, k3, dd, vs, x, k4, k5, k6, k8 _ k7⟩
    · rw [evE, evE]
      split
      · rw [bind_assoc]; rfl
      · rfl
/-- self.rows -/
theorem s_sfld {i : Nat} {v : Str} {p1 : Pos} (hx : Hx g sc X M W cl) (hv : varB g sc i v = true) : SE X M W cl (.fld i "rows") (.Attribute (.Name v p1) "rows" pos) := by
  obtain ⟨v1, v2, v3, v4⟩ := var_i hv hx
  have key : ∀ {σ : L2.St} {F H : Hp} {ρ : List Sl} {P : D → Hp → Hp → Prop}, Ok X.w X.K M F H σ ρ → After X.w X.K M W σ F H (ev cl ρ .v (.fld i "rows")) P →
      ∃ p, σ[i]? = some (some (.ref p)) ∧ BkS X.w X.K F H p ∧ P (.dict []) F H := fun {σ F H ρ P} ok h => by
    simp only [ev, if_true] at h
    cases q : ρ[i]? with
    | none => rw [q] at h; exact h.elim
    | some s =>
      cases s with
      | fn k =>
        obtain ⟨p, h1, h2, h3⟩ := ok.slot i _ q
        rw [q] at h
        exact ⟨p, h1, h3, h F H (.refl ok.sub)⟩
      | _ => rw [q] at h; exact h.elim
  have base : PE X (.Attribute (.Name v p1) "rows" pos) (tFld X.K (fun σ H Q => ∃ x, σ[i]? = some (some x) ∧ Q x H) "rows") := pe_fld (pe_var v1 v2 v3 v4) rfl
  refine SE.of hx (base.weak fun σ H Q ⟨ρ, F, ok, h⟩ => ?_) (fun ρ => by simp only [ev]; rfl) (fun ρ => ?_) (fun _ => rfl) (fun z => nomatch z)
  · obtain ⟨p, k1, ⟨C, dx, fs, r, k2, k3, k4, k5, k6⟩, k7⟩ := key ok h
    exact ⟨_, k1, p, C, dx, fs, r, rfl, k2, k3, k4, k5, k7 _ k6⟩
  · simp only [ev, if_true]
    split <;> first | rfl | (rw [bind_assoc]; rfl)
end
end Ad
set_option Elab.async false
set_option linter.all false
set_option maxRecDepth 100000
set_option maxHeartbeats 4000000
namespace Ad
open PySem PySem.Spec PyProof.Rows L2

/-! ### arguments of an own function: a list that is owned is lent -/
def RepA (w : World) (K : Fr) (b : Bool) (F H : Hp) (v : V) (d : D) : Prop := Rep w K F v d ∨ (b = true ∧ ∃ p ds xs, v = .ref p ∧ d = .list ds ∧ H p = some (.lst xs) ∧ RepL w K F xs ds)
def RepAs (w : World) (K : Fr) (b : Bool) (F H : Hp) : List V → List D → Prop
  | [], [] => True
  | v :: vs, d :: ds => RepA w K b F H v d ∧ RepAs w K b F H vs ds
  | _, _ => False
section
variable {w : World} {K : Fr} {F H F' H' : Hp} {b : Bool}
theorem RepA.ext {v : V} {d : D} (x : Ext F H F' H') (h : RepA w K b F H v d) : RepA w K b F' H' v d := by
  rcases h with h | ⟨hb, p, ds, xs, e1, e2, h1, h2⟩
  · exact .inl (Rep.sub x.subF _ _ h)
  · exact .inr ⟨hb, p, ds, xs, e1, e2, x.sub _ _ h1, RepL.sub x.subF _ _ h2⟩
theorem RepAs.mono {b' : Bool} (hb : b = true → b' = true) : ∀ {vs : List V} {ds : List D}, RepAs w K b F H vs ds → RepAs w K b' F H vs ds
  | [], [], _ => trivial
  | [], _ :: _, h => h.elim
  | _ :: _, [], h => h.elim
  | v :: vs, d :: ds, h => ⟨h.1.imp id fun ⟨e, z⟩ => ⟨hb e, z⟩, RepAs.mono hb h.2⟩
/-- lent: frozen for a while -/
theorem RepAs.lend (s : Sub F H) : ∀ {vs : List V} {ds : List D}, RepAs w K b F H vs ds → ∃ F2, Sub F F2 ∧ Sub F2 H ∧ RepL w K F2 vs ds ∧ (∀ a, F2 a ≠ none → F a ≠ none ∨ ∃ xs, F2 a = some (.lst xs)) ∧ (b = false → F2 = F)
  | [], [], _ => ⟨F, .refl, s, by simp only [RepL], fun a h => .inl h, fun _ => rfl⟩
  | [], _ :: _, h => h.elim
  | _ :: _, [], h => h.elim
  | v :: vs, d :: ds, h => by
    obtain ⟨F2, h1, h2, h3, h4, h5⟩ := RepAs.lend s h.2
    rcases h.1 with q | ⟨hb, p, es, xs, e1, e2, q1, q2⟩
    · exact ⟨F2, h1, h2, by simp only [RepL]; exact ⟨Rep.sub h1 _ _ q, h3⟩, h4, h5⟩
    · subst e1 e2
      cases e : F2 p with
      | some o =>
        have := h2 _ _ e
        rw [q1] at this; cases this
        refine ⟨F2, h1, h2, ?_, h4, h5⟩
        simp only [RepL, Rep]
        exact ⟨⟨p, xs, rfl, SqL.of e, RepL.sub h1 _ _ q2⟩, h3⟩
      | none =>
        have hs : Sub F2 (upd F2 p (.lst xs)) := Sub.upd e
        refine ⟨upd F2 p (.lst xs), h1.trans hs, fun a o q => ?_, ?_, fun a q => ?_, fun z => by rw [hb] at z; cases z⟩
        · by_cases z : a = p
          · subst z; rw [upd_same] at q; cases q; exact q1
          · rw [upd_ne z] at q; exact h2 _ _ q
        · simp only [RepL, Rep]
          exact ⟨⟨p, xs, rfl, SqL.of upd_same, RepL.sub (h1.trans hs) _ _ q2⟩, RepL.sub hs _ _ h3⟩
        · by_cases z : a = p
          · subst z; exact .inr ⟨xs, upd_same⟩
          · rw [upd_ne z] at q
            rcases h4 a q with q | ⟨ys, q⟩
            · exact .inl q
            · exact .inr ⟨ys, by rw [upd_ne z]; exact q⟩
end
section
variable {w : World} {K : Fr} {F F' : Hp}
/-- data without lists needs no list -/
def Cut (F F' : Hp) : Prop := ∀ a o, F a = some o → (∀ xs, o ≠ .lst xs) → F' a = some o
theorem SqT.cut {a : Addr} {xs : List V} (c : Cut F F') (h : SqT K F a xs) : SqT K F' a xs := by
  rcases h with (h | ⟨o, h⟩) | h
  · exact .inl (.inl (c _ _ h fun _ z => by cases z))
  · exact .inl (.inr ⟨o, c _ _ h fun _ z => by cases z⟩)
  · exact .inr h
theorem SqP.cut {a : Addr} {xs : List V} (c : Cut F F') (h : SqP K F a xs) : SqP K F' a xs := by
  rcases h with ⟨o, d, h⟩ | h
  · exact .inl ⟨o, d, c _ _ h fun _ z => by cases z⟩
  · exact .inr h
theorem DcAt.cut {a : Addr} {es : List DictEntry} {ep : Nat} (c : Cut F F') (h : DcAt K F a es ep) : DcAt K F' a es ep :=
  ⟨h.1, h.2.imp (fun h => c _ _ h fun _ z => by cases z) id⟩
mutual
theorem Rep.cut (c : Cut F F') : ∀ (d : D) (v : V), noLst d = true → Rep w K F v d → Rep w K F' v d
  | .none, _, _, h => by simpa only [Rep] using h
  | .bool b, _, _, h => by simpa only [Rep] using h
  | .int i, _, _, h => by simpa only [Rep] using h
  | .str x, _, _, h => by simpa only [Rep] using h
  | .list ds, v, n, h => by simp only [noLst] at n; cases n
  | .tuple ds, v, n, h => by
    simp only [noLst] at n
    simp only [Rep] at h ⊢
    obtain ⟨a, xs, e, q, r⟩ := h
    exact ⟨a, xs, e, SqP.cut c q, RepL.cut' c ds xs n r⟩
  | .dict kvs, v, n, h => by
    simp only [noLst] at n
    simp only [Rep] at h ⊢
    obtain ⟨a, es, ep, e, q, z, r⟩ := h
    exact ⟨a, es, ep, e, q.cut c, z, RepP.cut c kvs es n r⟩
theorem RepL.cut' (c : Cut F F') : ∀ (ds : List D) (vs : List V), noLsts ds = true → RepL w K F vs ds → RepL w K F' vs ds
  | [], [], _, _ => by simp only [RepL]
  | [], _ :: _, _, h => by simp only [RepL] at h
  | _ :: _, [], _, h => by simp only [RepL] at h
  | d :: ds, v :: vs, n, h => by
    simp only [noLsts, Bool.and_eq_true] at n
    simp only [RepL] at h ⊢
    exact ⟨Rep.cut c d v n.1 h.1, RepL.cut' c ds vs n.2 h.2⟩
theorem RepP.cut (c : Cut F F') : ∀ (kvs : List (D × D)) (es : List DictEntry), noLstP kvs = true → RepP w K F es kvs → RepP w K F' es kvs
  | [], [], _, _ => by simp only [RepP]
  | [], _ :: _, _, h => by simp only [RepP] at h
  | _ :: _, [], _, h => by simp only [RepP] at h
  | (k, d) :: r, e :: es, n, h => by
    simp only [noLstP, Bool.and_eq_true] at n
    simp only [RepP] at h ⊢
    obtain ⟨⟨x, h1, h2⟩, ⟨y, h3, h4⟩, h5, h6, h7, h8⟩ := h
    exact ⟨⟨x, h1, Rep.cut c k x n.1.1 h2⟩, ⟨y, h3, Rep.cut c d y n.1.2 h4⟩, h5, h6, h7, RepP.cut c r es n.2 h8⟩
end
theorem XFs.cut (c : Cut F F') : ∀ {vs : List (Str × V)} {fs : List (Str × D)}, fs.all (fun q => noLst q.2) = true → XFs w K F vs fs → XFs w K F' vs fs
  | [], [], _, _ => trivial
  | [], _ :: _, _, h => h.elim
  | _ :: _, [], _, h => h.elim
  | (f, v) :: r, (g, d) :: t, n, h => by
    simp only [List.all_cons, Bool.and_eq_true] at n
    exact ⟨h.1, Rep.cut c _ _ n.1 h.2.1, XFs.cut c n.2 h.2.2⟩
theorem XD.cut (c : Cut F F') {dA : Option Addr} {fs : List (Str × D)} (n : fs.all (fun q => noLst q.2) = true) (h : XD w K F dA fs) : XD w K F' dA fs := by
  cases dA with
  | none => exact h
  | some dx => obtain ⟨vs, h1, h2⟩ := h; exact ⟨vs, c _ _ h1 (fun _ z => by cases z), h2.cut c n⟩
end
/-- behind a call with lent lists -/
theorem call_back {F H F2 F2' H' : Hp} (s : Sub F H) (h1 : Sub F F2) (h4 : ∀ a, F2 a ≠ none → F a ≠ none ∨ ∃ xs, F2 a = some (.lst xs)) (x : Ext F2 H F2' H') : ∃ F', Ext F H F' H' ∧ Cut F2' F' := by
  classical
  refine ⟨fun a => if F a = none ∧ H a ≠ none then none else F2' a, ⟨x.sub, fun a o e => ?_, fun a o e => ?_, fun a e => ?_⟩, fun a o e n => ?_⟩
  · have : ¬ (F a = none ∧ H a ≠ none) := fun z => by rw [e] at z; cases z.1
    show (if F a = none ∧ H a ≠ none then none else F2' a) = some o
    rw [if_neg this]
    exact x.subF _ _ (h1 _ _ e)
  · have e : (if F a = none ∧ H a ≠ none then none else F2' a) = some o := e
    split at e
    · cases e
    · exact x.inn _ _ e
  · have e : (if F a = none ∧ H a ≠ none then none else F2' a) ≠ none := e
    split at e
    · exact absurd rfl e
    · rename_i z
      by_cases q : F a = none
      · right
        cases r : H a with
        | none => rfl
        | some o => exact absurd ⟨q, by rw [r]; intro z; cases z⟩ z
      · exact .inl q
  · show (if F a = none ∧ H a ≠ none then none else F2' a) = some o
    rw [if_neg]
    · exact e
    · rintro ⟨z1, z2⟩
      rcases x.grow a (by rw [e]; intro z; cases z) with q | q
      · rcases h4 a q with q | ⟨ys, q⟩
        · exact q z1
        · have := x.subF _ _ q
          rw [e] at this
          exact n ys (Option.some.inj this)
      · exact z2 q

section
variable {g : Gc} {sc : Scope} {X : Cx} {M : Pm} {W : WX} {cl : Cl} {pos p0 : Pos} {xs : List E} {e : Expr} {es : List Expr}
def isVar : E → Bool
  | .var _ => true
  | _ => false
theorem ev_rv {ρ : List Sl} {x : E} (h : isVar x = false) : ev cl ρ .r x = ev cl ρ .v x := by
  have er : ∀ (op : BoolOp) (ys : List E), evB cl ρ .r op ys = evB cl ρ .v op ys := fun op ys => by
    induction ys with
    | nil => simp only [evB]
    | cons y r ih => rw [evB, evB]; cases r with
      | nil => rfl
      | cons z r => simp only [ih]; rfl
  cases x <;> first | (simp only [ev, bind_fv, bind_fr, fin_v, fin_r, Md.sub, er]; done) | (exact Bool.noConfusion h) | (rename_i a t; cases a <;> simp only [ev])
def tAs (X : Cx) (M : Pm) (W : WX) (cl : Cl) (es : List E) : TA := fun σ H Q => ∃ ρ F, Ok X.w X.K M F H σ ρ ∧ lentDict ρ es = false ∧ After X.w X.K M W σ F H (evs cl ρ .r es) fun ds F' H' => ∀ vs, RepAs X.w X.K (lentAny ρ es) F' H' vs ds → Q vs H'
theorem PE.or {t u : TE} (h : PE X e t) (h' : PE X e u) : PE X e (fun σ H Q => t σ H Q ∨ u σ H Q) := ⟨fun pins s σ H Q I q => q.elim (h.run pins s σ H Q I) (h'.run pins s σ H Q I)⟩
theorem s_argsA {xs : List E} {es : List Expr} (h : SEs X M W cl xs es) : PA X es (tAs X M W cl xs) := by
  induction h with
  | nil =>
    refine pa_nil.weak fun σ H Q ⟨ρ, F, ok, _, h⟩ => ?_
    simp only [evs] at h
    exact h.ok ok.sub [] trivial
  | @cons x e xs es p hs _ ih =>
    refine (pa_cons (PE.or hs.v hs.r) ih (star_plain p)).weak fun σ H Q ⟨ρ, F, ok, hd, h⟩ => ?_
    simp only [evs] at h
    by_cases hv : isVar x = true
    · obtain ⟨i, rfl⟩ : ∃ i, x = .var i := by cases x <;> first | exact ⟨_, rfl⟩ | (exact Bool.noConfusion hv)
      simp only [lentDict, Bool.or_eq_false_iff] at hd
      have hd1 := hd.1
      cases q : ρ[i]? with
      | none => 
        have : ev cl ρ .r (.var i) = .bad := by simp only [ev, Ad.getR, q]; rfl
        rw [this] at h; exact h.elim
      | some sl =>
        by_cases hf : ∃ d, sl = .fz d
        · obtain ⟨d, rfl⟩ := hf
          have e1 : ev cl ρ .r (.var i) = ev cl ρ .v (.var i) := by simp only [ev, Ad.getR, getV, q]; rfl
          rw [e1] at h
          refine .inl ⟨ρ, F, ok, h.bind.imp fun d F1 H1 x1 h1 v r => ⟨ρ, F1, ok.ext x1, hd.2, h1.bind.imp fun ds F2 H2 x2 h2 vs rs => h2.ok x2.inn _ ⟨.inl (Rep.sub x2.subF _ _ r), rs.mono fun z => by simp only [lentAny, z, Bool.or_true]⟩⟩⟩
        · refine .inr ⟨ρ, F, ok, h.bind.keep.imp fun d F1 H1 x1 ⟨e1, h1⟩ v r => ⟨ρ, F1, ok.ext x1, hd.2, h1.bind.imp fun ds F2 H2 x2 h2 vs rs => h2.ok x2.inn _ ⟨?_, rs.mono fun z => by simp only [lentAny, z, Bool.or_true]⟩⟩⟩
          have hl : ∃ ys, d = .list ys ∧ isLent ρ i = true := by
            simp only [ev, Ad.getR, q] at e1
            cases sl with
            | fz d => exact absurd ⟨d, rfl⟩ hf
            | ow d' =>
              injection e1 with e1; subst e1
              cases d' <;> first | exact ⟨_, rfl, by simp only [isLent, q]⟩ | (simp only [isLentD, q] at hd1; cases hd1)
            | ln d' =>
              injection e1 with e1; subst e1
              cases d' <;> first | exact ⟨_, rfl, by simp only [isLent, q]⟩ | (simp only [isLentD, q] at hd1; cases hd1)
            | un => cases e1
            | fn f => cases e1
            | ex c fs => cases e1
          obtain ⟨ys, rfl, hl⟩ := hl
          have : RepA X.w X.K true F1 H1 v (.list ys) := by
            rcases r with r | ⟨pp, e2, zs, h1, h2⟩
            · exact .inl r
            · exact .inr ⟨rfl, pp, ys, zs, e2, rfl, h1, h2⟩
          have := this.ext x2
          simp only [lentAny, hl, Bool.true_or]
          exact this
    · have hv : isVar x = false := by simpa using hv
      have e1 : lentDict ρ (x :: xs) = lentDict ρ xs := by cases x <;> first | (exact Bool.noConfusion hv) | rfl
      have e2 : lentAny ρ (x :: xs) = lentAny ρ xs := by cases x <;> first | (exact Bool.noConfusion hv) | rfl
      rw [ev_rv hv] at h
      rw [e1] at hd
      rw [e2] at h
      exact .inl ⟨ρ, F, ok, h.bind.imp fun d F1 H1 x1 h1 v r => ⟨ρ, F1, ok.ext x1, hd, h1.bind.imp fun ds F2 H2 x2 h2 vs rs => h2.ok x2.inn _ ⟨.inl (Rep.sub x2.subF _ _ r), rs⟩⟩⟩
theorem pe_callSD0 {CX : CXT} {k : Nat} {f : Addr} {fd : FuncData} {ps : List Str} {sp : Sp} {ds : List Value} {dvs : List V} {E : L2.St → XK} {x : Str} {p : Pos} (F : FnOk X.prog X.w X.K X.mg X.base CX k f fd ps sp) (hr : Room k X.A) (hg : Gl X x) (hm : X.mg x = some (.ref f)) (hk : PySem.W.keepIn X.K (.ref f) = true) (hb : Binds X.K fd ps ds) (hd : Vals dvs ds) (hx : ∀ σ, PassesAt CX X σ (E σ))
    (hdb : (x == ("__debug__" : Str)) = false) : PE X (.Call (.Name x p) [] [] pos) (tCallSD sp dvs E tNil) := by
  refine ⟨fun pins s σ H Q I h => ?_⟩
  refine wpAny_Call_Name_kw (ld_glob I hg hm ?_ hdb)
  exact PySem.W.callWith_K0 I.kIn hk (run_fnSD (us := []) F hr hb hd (hx σ) I .nil h)
theorem s_call {f : Nat} {x : Str} (hx : Hx g sc X M W cl) (hc : g.calm = true) (hf : g.fn[f]? = some x) (hg : gloB sc x = true) (h : SEs X M W cl xs es) : SE X M W cl (.call f xs []) (.Call (.Name x p0) es [] pos) := by
  obtain ⟨k, a, fd, ps, dvs, ds, dd, r, m1, m2, m3, m4, m5, m6, m7, m8, m9⟩ := hx.fn hc f x hf
  obtain ⟨g1, g2⟩ := glo_i hg hx
  have base : PE X (.Call (.Name x p0) es [] pos) (tCallSD (spOf X.w X.K M.cls r) dvs (fun σ => fun c d H => W c d σ H) (tAs X M W cl xs)) := by
    cases h with
    | nil =>
      refine (pe_callSD0 (pos := pos) (p := p0) m5 m4 g1 m1 m3 m6 m7 (fun σ => passAt hx.tk σ) g2).weak fun σ H Q ⟨ρ, F, ok, hd, q⟩ => ?_
      simp only [evs] at q
      exact q.ok ok.sub [] trivial
    | cons p h1 r1 => exact pe_callSD (pos := pos) (p := p0) m5 m4 g1 m1 m3 m6 m7 (fun σ => passAt hx.tk σ) (s_argsA (.cons p h1 r1)) g2 (star_plain p) (r1.plain _)
  refine SE.of hx (base.weak fun σ H Q ⟨ρ, F, ok, h⟩ => ?_) (fun ρ => ev_rv rfl) (fun ρ => ?_) (fun _ => rfl) (fun z => nomatch z)
  · simp only [ev, evK, bind_fv, bind_ok] at h
    by_cases hd : lentDict ρ xs = true
    · rw [if_pos hd] at h; exact h.elim
    rw [if_neg hd] at h
    refine ⟨ρ, F, ok, by simpa using hd, h.bind.imp fun as F1 H1 x1 h1 vs rs => ?_⟩
    obtain ⟨F2, s1, s2, s3, s4, s5⟩ := rs.lend x1.inn
    refine ⟨F2, as ++ dd, s2, s3.append (RepL.sub Sub.none _ _ m8), ?_⟩
    rw [m9] at h1
    cases hl : lentAny ρ xs with
    | false =>
      rw [hl] at h1 s5
      have e : F2 = F1 := s5 rfl
      subst e
      cases q : r (as ++ dd) with
      | ok d => rw [q] at h1; exact fun v F' H' x rp => h1 F' H' x v rp
      | ex c fs => rw [q] at h1; exact fun F' H' C dA x hC hD => h1 F' H' C dA x hC hD
      | bad => rw [q] at h1; exact h1
    | true =>
      rw [hl] at h1
      cases q : r (as ++ dd) with
      | ok d =>
        rw [q] at h1
        simp only [cutR] at h1
        by_cases n : noLst d = true
        · rw [if_pos n] at h1
          intro v F' H' x rp
          obtain ⟨F3, y, c⟩ := call_back x1.inn s1 s4 x
          exact h1 F3 H' y v (Rep.cut c d v n rp)
        · rw [if_neg n] at h1; exact h1.elim
      | ex c fs =>
        rw [q] at h1
        simp only [cutR] at h1
        by_cases n : fs.all (fun q => noLst q.2) = true
        · rw [if_pos n] at h1
          intro F' H' C dA x hC hD
          obtain ⟨F3, y, c⟩ := call_back x1.inn s1 s4 x
          exact h1 F3 H' C dA y hC (hD.cut c n)
        · rw [if_neg n] at h1; exact h1.elim
      | bad => rw [q] at h1; exact h1.elim
  · simp only [ev, evK, bind_fv, bind_ok]
    split
    · rfl
    · rw [bind_assoc]
theorem RepAs.ext {w : World} {K : Fr} {b : Bool} {F H F' H' : Hp} (x : Ext F H F' H') : ∀ {vs : List V} {ds : List D}, RepAs w K b F H vs ds → RepAs w K b F' H' vs ds
  | [], [], h => h
  | [], _ :: _, h => h.elim
  | _ :: _, [], h => h.elim
  | v :: vs, d :: ds, h => ⟨h.1.ext x, RepAs.ext x h.2⟩
theorem run_fnkS {pins : List (Addr × Obj)} {σ : L2.St} {H : Hp} {s : Shared} {Q : VK} {us ws : List Value} {vs zs : List V} {CX : CXT} {k : Nat} {f : Addr} {fd : FuncData} {ps : List Str} {kn : Str} {sp : Sp} {E : XK}
    (F : FnOk X.prog X.w X.K X.mg X.base CX k f fd ps sp) (hr : Room k X.A) (hb : KBn X.K fd ps (ps.length - 1) [kn] (fun us ws => us ++ ws) (fun us ws => us ++ ws)) (hx : PassesAt CX X σ E) (I : Inv X pins σ H s) (r : Vals vs us) (rz : Vals zs ws) (hz : zs.length = 1) (h : sp (vs ++ zs) H Q E) : wpAny (model X.prog X.w) X.A (call (.ref f) us ([kn].zip ws)) (EP X pins σ Q) X.xe s := by
  have r2 := hb.rel r rz
  have hl : (us ++ ws).length = ps.length := by rw [← r2.length]; exact F.len _ _ _ _ h
  have hw : ws.length = 1 := by rw [← rz.length]; exact hz
  have hu : us.length = ps.length - 1 := by rw [List.length_append, hw] at hl; omega
  refine wpAny_call (codeAny_mono (F.run X.A X.stack s H ⟨us, [kn].zip ws⟩ (us ++ ws) (vs ++ zs) Q E hr I.env0 (hb.to s us ws I.kIn hu hw) r2 h) fun r s' hq => ?_)
  cases r with
  | error e => exact hx pins H s e s' I hq
  | ok fl => cases fl <;> first | exact I.after hq | exact False.elim hq
theorem s_callK {f : Nat} {x kn : Str} {ke : E} {e' : Expr} {kp : Pos} (hx : Hx g sc X M W cl) (hc : g.calm = true) (hf : g.fn[f]? = some x) (hkn : g.kw.lookup x = some kn) (hg : gloB sc x = true) (h : SEs X M W cl xs (e :: es)) (hk : SE X M W cl ke e') :
    SE X M W cl (.call f xs [(kn, ke)]) (.Call (.Name x p0) (e :: es) [⟨some kn, e', kp⟩] pos) := by
  obtain ⟨k, a, fd, ps, r, m1, m3, m4, m5, m6, m9⟩ := hx.fnk hc f x kn hf hkn
  obtain ⟨g1, g2⟩ := glo_i hg hx
  obtain ⟨he, hpl⟩ : starEach (e :: es) X.env = (false, eval e X.env) :: starEach es X.env ∧ (backTo pos (starEach (e :: es) X.env)).any (·.1) = false := by
    cases h with
    | cons p h1 r1 => exact ⟨star_plain p, by rw [star_plain p]; show (false || (backTo pos (starEach es X.env)).any (·.1)) = false; rw [r1.plain _]; rfl⟩
  have ha := s_argsA h
  have hpk : PK X [⟨some kn, e', kp⟩] (tCons (tV X M W cl ke) tNil) := pk_cons hk.v pk_nil
  have base : PE X (.Call (.Name x p0) (e :: es) [⟨some kn, e', kp⟩] pos) (fun σ H Q => tAs X M W cl xs σ H fun vs H1 => tV X M W cl ke σ H1 fun z H2 => spOf X.w X.K M.cls r (vs ++ [z]) H2 Q (fun c d H => W c d σ H)) := by
    refine ⟨fun pins s σ H Q I q => ?_⟩
    refine wpAny_Call_Name_kw (ld_glob I g1 m1 ?_ g2)
    refine PySem.W.callWith_KW (h₀ := X.base) I.ok.mod.kin m3 rfl (thn (ha.run pos pins s σ H _ I q) fun us s1 ⟨vs, H1, I1, rr, q⟩ => ?_) (by rw [hpl]; rfl) he
    refine thn (hpk.run pos pins s1 σ H1 (fun zs H2 => zs.length = 1 ∧ spOf X.w X.K M.cls r (vs ++ zs) H2 Q (fun c d H => W c d σ H)) I1 (by
      obtain ⟨ρ, F, ok, q⟩ := q
      exact ⟨ρ, F, ok, q.imp fun d F' H' _ h v rv => ⟨rfl, h v rv⟩⟩)) fun ws s2 ⟨zs, H2, I2, rz, hz, q2⟩ => ⟨I2.kIn, ?_⟩
    exact run_fnkS m5 m4 m6 (passAt hx.tk σ) I2 rr rz hz q2
  have eqv : ∀ ρ m, ev cl ρ m (.call f xs [(kn, ke)]) = if lentDict ρ xs then .bad else (evs cl ρ .r xs).bind fun ds => (ev cl ρ .v ke).bind fun v => (cutR (lentAny ρ xs) (r (ds ++ [v]))).bind m.fin := fun ρ m => by
    simp only [ev, evK]
    split
    · rfl
    · congr 1
      funext ds
      cases ev cl ρ .v ke with
      | ok v => simp only [bind_ok, m9]
      | ex c fs => rfl
      | bad => rfl
  refine SE.of hx (base.weak fun σ H Q ⟨ρ, F, ok, h⟩ => ?_) (fun ρ => ev_rv rfl) (fun ρ => ?_) (fun _ => rfl) (fun z => nomatch z)
  · rw [eqv] at h
    simp only [bind_fv] at h
    by_cases hd : lentDict ρ xs = true
    · rw [if_pos hd] at h; exact h.elim
    rw [if_neg hd] at h
    refine ⟨ρ, F, ok, by simpa using hd, h.bind.imp fun as F1 H1 x1 h1 vs rs => ?_⟩
    refine ⟨ρ, F1, ok.ext x1, h1.bind.imp fun v F1' H1' x1' h1 z rz => ?_⟩
    have rs := RepAs.ext x1' rs
    obtain ⟨F2, s1, s2, s3, s4, s5⟩ := rs.lend x1'.inn
    refine ⟨F2, as ++ [v], s2, s3.append (by simp only [RepL]; exact ⟨Rep.sub s1 _ _ rz, trivial⟩), ?_⟩
    cases hl : lentAny ρ xs with
    | false =>
      rw [hl] at h1 s5
      have e : F2 = F1' := s5 rfl
      subst e
      cases q : r (as ++ [v]) with
      | ok d => rw [q] at h1; exact fun v F' H' x rp => h1 F' H' x v rp
      | ex c fs => rw [q] at h1; exact fun F' H' C dA x hC hD => h1 F' H' C dA x hC hD
      | bad => rw [q] at h1; exact h1
    | true =>
      rw [hl] at h1
      cases q : r (as ++ [v]) with
      | ok d =>
        rw [q] at h1
        simp only [cutR] at h1
        by_cases n : noLst d = true
        · rw [if_pos n] at h1
          intro v F' H' x rp
          obtain ⟨F3, y, c⟩ := call_back x1'.inn s1 s4 x
          exact h1 F3 H' y v (Rep.cut c d v n rp)
        · rw [if_neg n] at h1; exact h1.elim
      | ex c fs =>
        rw [q] at h1
        simp only [cutR] at h1
        by_cases n : fs.all (fun q => noLst q.2) = true
        · rw [if_pos n] at h1
          intro F' H' C dA x hC hD
          obtain ⟨F3, y, c⟩ := call_back x1'.inn s1 s4 x
          exact h1 F3 H' C dA y hC (hD.cut c n)
        · rw [if_neg n] at h1; exact h1.elim
      | bad => rw [q] at h1; exact h1.elim
  · rw [eqv, eqv]
    split
    · rfl
    · rw [bind_assoc]
      congr 1
      funext ds
      rw [bind_assoc]
      congr 1
      funext v
      simp only [bind_fv]
theorem bkD_no (cl : Cl) (i : Nat) (d : D) {c : Str} {fs : List (Str × D)} : bkD cl i [d] ≠ .ex c fs := by
  unfold bkD
  split
  · repeat' split
    all_goals (intro z; cases z)
  · intro z; cases z
/-! ### a deed of a new book -/
theorem s_bk {i : Nat} {x1 : E} {e1 : Expr} {q0 q1 q2 qp : Pos} (hx : Hx g sc X M W cl) (hc : g.calm = true) (hb : g.bk = some i) (hi : i < 1000000000) (hg : gloB sc "_law_book_deed" = true) (hg2 : gloB sc "Book" = true) (hp : plainB e1 = true) (h : SE X M W cl x1 e1) :
    SE X M W cl (.callV i [x1]) (.Call (.Name "_law_book_deed" q0) [.Call (.Name "Book" q1) [] [] q2, e1] [] qp) := by
  obtain ⟨k, m7, C, fI, fdI, m1, m2, m3, m4, hy⟩ := hx.bk hc i hb
  obtain ⟨a, fd, m5, m6, m8, m9⟩ : BkD X.prog X.w X.K X.mg X.base cl i k C := by
    rcases hy with ⟨_, h⟩ | ⟨h, _⟩
    · exact h
    · exact absurd hi (Nat.not_lt.mpr h)
  obtain ⟨g1, g2⟩ := glo_i hg hx
  obtain ⟨g3, g4⟩ := glo_i hg2 hx
  have hpl : (backTo qp (starEach [e1] X.env)).any (·.1) = false := (SEs.cons hp h .nil).plain _
  have base := pe_callSD (pos := qp) (p := q0) m8 (m7.mono (by omega)) g1 m5 m6 m9 .nil (fun σ => passAt hx.tk σ) (pa_cons (pe_make0 (p := q1) (pos := q2) (E := fun _ _ _ => False) m2 m3 m7 g3 m1 m4 .nil (passes_call hx.tk (fun _ _ _ _ z => z.elim)) g4) (pa_cons h.v pa_nil (star_plain hp))) g2 rfl hpl
  refine SE.of hx (base.weak fun σ H Q ⟨ρ, F, ok, h⟩ => ?_) (fun ρ => ev_rv rfl) (fun ρ => ?_) (fun _ => rfl) (fun z => nomatch z)
  · simp only [ev, evs, bind_fv] at h
    intro x dx nx nd ndx
    refine ⟨x, dx, rfl, upd_same, fun r l1 l2 H' n1 n2 n3 r1 r2 r3 hsm h1 h2 h3 h4 h5 => ⟨rfl, ?_⟩⟩
    have off : ∀ {a : Addr}, (upd (upd H dx (.own x)) x (.ins C dx [])) a = none → a ≠ x ∧ H a = none := fun {a} z => by
      have z1 : a ≠ x := fun e => by subst e; rw [upd_same] at z; cases z
      rw [upd_ne z1] at z
      have z2 : a ≠ dx := fun e => by subst e; rw [upd_same] at z; cases z
      rw [upd_ne z2] at z
      exact ⟨z1, z⟩
    obtain ⟨o1, o2⟩ := off n1
    obtain ⟨o3, o4⟩ := off n2
    obtain ⟨o5, o6⟩ := off n3
    have nF : ∀ {a : Addr}, H a = none → F a = none := fun {a} z => by
      cases e : F a with
      | none => rfl
      | some o => rw [ok.sub _ _ e] at z; cases z
    have keep : ∀ a o, H a = some o → H' a = some o := fun a o e => by
      have z1 : a ≠ x := fun z => by subst z; rw [nx] at e; cases e
      have z2 : a ≠ dx := fun z => by subst z; rw [nd] at e; cases e
      exact h5 a o (by rw [upd_ne z1, upd_ne z2]; exact e) z1
    have e1 : Ext F H (upd F r (dHO r [] 0)) H' := by
      refine ⟨keep, fun a u e => ?_, fun a u e => ?_, fun a e => ?_⟩
      · have : a ≠ r := fun z => by subst z; rw [nF o2] at e; cases e
        rw [upd_ne this]; exact e
      · by_cases z : a = r
        · subst z; rw [upd_same] at e; rw [← e]; exact h2
        · rw [upd_ne z] at e; exact keep _ _ (ok.sub _ _ e)
      · by_cases z : a = r
        · subst z; exact .inr o2
        · rw [upd_ne z] at e; exact .inl e
    refine ⟨ρ, _, ok.ext e1, ?_⟩
    cases q : ev cl ρ .v x1 with
    | bad => rw [q] at h; exact h
    | ex c fs => rw [q] at h; exact After.ext (r := .ex c fs) h e1
    | ok d =>
      rw [q] at h
      intro F2 H2 x2 v rv
      refine ⟨F2, x, l1, l2, v, d, rfl, x2.inn, ⟨⟨dx, .ref r, x2.sub _ _ h1, ?_⟩, x2.sub _ _ h3, x2.sub _ _ h4, r3, ?_, ?_, ?_⟩, rv, ?_⟩
      · simp only [Rep]
        exact ⟨r, [], 0, rfl, ⟨hsm, .inl (x2.subF _ _ upd_same)⟩, Nat.zero_le _, by simp only [RepP]⟩
      · exact x2.stays (by rw [upd_ne (Ne.symm o1)]; exact nF nx) (by rw [h1]; intro z; cases z)
      · exact x2.stays (by rw [upd_ne (Ne.symm r1)]; exact nF o4) (by rw [h3]; intro z; cases z)
      · exact x2.stays (by rw [upd_ne (Ne.symm r2)]; exact nF o6) (by rw [h4]; intro z; cases z)
      · have x3 : Ext F H F2 H2 := e1.trans x2
        cases q2 : bkD cl i [d] with
        | bad => simp only [bind_ok, q2] at h; exact h
        | ex c fs => exact absurd q2 (bkD_no cl i d)
        | ok d' =>
          simp only [bind_ok, q2] at h
          intro v' F' H'' xb rv'
          refine h F' H'' ⟨fun a o e => xb.sub a o (x3.sub _ _ e) (fun z => by subst z; rw [nx] at e; cases e) (fun z => by subst z; rw [o4] at e; cases e) (fun z => by subst z; rw [o6] at e; cases e), x3.subF.trans xb.subF, xb.inn, fun a z => ?_⟩ v' rv'
          rcases xb.grow a z with z | z | rfl | rfl | rfl
          · exact x3.grow a z
          rotate_left
          · exact .inr nx
          · exact .inr o4
          · exact .inr o6
          · right
            cases e : H a with
            | none => rfl
            | some o => rw [x3.sub _ _ e] at z; cases z
  · simp only [ev, bind_fv, bind_assoc]
end
end Ad
set_option Elab.async false
set_option linter.all false
set_option maxRecDepth 100000
set_option maxHeartbeats 4000000
namespace Ad
open PySem PySem.Spec PyProof.Rows L2

/-- .. or a tuple of which no more is known -/
def RepT (b : Bool) (w : World) (K : Fr) (F : Hp) (v : V) (d : D) : Prop := Rep w K F v d ∨ (b = true ∧ ∃ ds a xs, d = .tuple ds ∧ v = .ref a ∧ SqT K F a xs ∧ RepL w K F xs ds)
def T.tp? : T → Bool
  | .tp _ => true
  | _ => false
def I.tp? : I → Bool
  | .seq _ => false
  | .rng _ => false
  | _ => true
theorem RepT.mono {b c : Bool} {w : World} {K : Fr} {F : Hp} {v : V} {d : D} (h : b = true → c = true) (r : RepT b w K F v d) : RepT c w K F v d := r.imp id fun ⟨e, q⟩ => ⟨h e, q⟩
/-- a walk over data: B what must stand, F what is frozen -/
structure Walk (w : World) (K : Fr) (B F0 : Hp) (J : It) (ds : List D) (b : Bool) : Prop where
  go : ∀ i H, i < ds.length → Sub B H → J.go i H
  yld : ∀ i H x H' F d, ds[i]? = some d → Sub B H → Sub F0 F → Sub F H → J.yld i H x H' → ∃ F', Ext F H F' H' ∧ RepT b w K F' x d
  stop : ∀ H, Sub B H → J.stop ds.length H

section
variable {w : World} {K : Fr} {B F0 : Hp} {a b : Addr} {xs ys : List V} {ds es : List D}
theorem walk_list (q : SqL K B a xs) (r : RepL w K F0 xs ds) : Walk w K B F0 (Itl K a) ds false where
  go := fun i H h s => ⟨xs, xs[i]'(by rw [r.length]; exact h), SqL.sub s q, by simp [r.length, h]⟩
  yld := fun i H x H' F d e s sF sFH y => by
    obtain ⟨rfl, y⟩ := y
    obtain ⟨v, e1, r1⟩ := r.get e
    have := y xs (SqL.sub s q)
    rw [e1] at this; cases this
    exact ⟨F, .refl sFH, .inl (Rep.sub sF _ _ r1)⟩
  stop := fun H s => ⟨xs, SqL.sub s q, by rw [r.length]; exact Nat.le_refl _⟩
theorem walk_tup (q : SqT K B a xs) (r : RepL w K F0 xs ds) : Walk w K B F0 (Itt K a) ds false where
  go := fun i H h s => ⟨xs, xs[i]'(by rw [r.length]; exact h), SqT.sub s q, by simp [r.length, h]⟩
  yld := fun i H x H' F d e s sF sFH y => by
    obtain ⟨rfl, y⟩ := y
    obtain ⟨v, e1, r1⟩ := r.get e
    have := y xs (SqT.sub s q)
    rw [e1] at this; cases this
    exact ⟨F, .refl sFH, .inl (Rep.sub sF _ _ r1)⟩
  stop := fun H s => ⟨xs, SqT.sub s q, by rw [r.length]; exact Nat.le_refl _⟩
theorem rngL_length (a c : Int) : ∀ n, (rngL a c n).length = n := by
  intro n
  induction n generalizing a with
  | zero => rfl
  | succ n ih => simp [rngL, ih]
theorem rngL_get (c : Int) : ∀ (n : Nat) (a : Int) (i : Nat), i < n → (rngL a c n)[i]? = some (.int (a + (i : Int) * c))
  | 0, _, _, h => absurd h (Nat.not_lt_zero _)
  | n + 1, a, 0, _ => by simp [rngL]
  | n + 1, a, i + 1, h => by
    simp only [rngL, List.getElem?_cons_succ]
    rw [rngL_get c n (a + c) i (by omega)]
    have : a + c + (i : Int) * c = a + ((i + 1 : Nat) : Int) * c := by
      rw [show ((i + 1 : Nat) : Int) = (i : Int) + 1 by omega, Int.add_mul, Int.one_mul]
      omega
    rw [this]
theorem walk_rng (lo : Int) (n : Nat) : Walk w K B F0 (Itr lo n) (rngL lo 1 n) false where
  go := fun i H h s => by rw [rngL_length] at h; exact h
  yld := fun i H x H' F d e s sF sFH y => by
    obtain ⟨rfl, rfl⟩ := y
    have hi : i < n := by
      have := (List.getElem?_eq_some_iff.mp e).1
      rw [rngL_length] at this; exact this
    rw [rngL_get 1 n lo i hi] at e
    cases e
    exact ⟨F, .refl sFH, .inl (by simp only [Rep, Int.mul_one])⟩
  stop := fun H s => by rw [rngL_length]; exact Nat.le_refl _
theorem walk_rngC (lo c : Int) (n : Nat) : Walk w K B F0 (Itc lo c n) (rngL lo c n) false where
  go := fun i H h s => by rw [rngL_length] at h; exact h
  yld := fun i H x H' F d e s sF sFH y => by
    obtain ⟨rfl, rfl⟩ := y
    have hi : i < n := by
      have := (List.getElem?_eq_some_iff.mp e).1
      rw [rngL_length] at this; exact this
    rw [rngL_get c n lo i hi] at e
    cases e
    exact ⟨F, .refl sFH, .inl (by simp only [Rep])⟩
  stop := fun H s => by rw [rngL_length]; exact Nat.le_refl _
theorem walk_str (z : Str) : Walk w K B F0 (Its z) (z.cps.toList.map fun c => .str ⟨#[c]⟩) false where
  go := fun i H h s => by
    show i < z.cps.size
    simpa using h
  yld := fun i H x H' F d e s sF sFH y => by
    obtain ⟨rfl, c, e1, rfl⟩ := y
    have : z.cps.toList[i]? = some c := by simpa using e1
    rw [List.getElem?_map, this] at e
    cases e
    exact ⟨F, .refl sFH, .inl (by simp only [Rep])⟩
  stop := fun H s => by simp [Its]
theorem enumL_length : ∀ (ds : List D) (k : Int), (enumL k ds).length = ds.length
  | [], _ => rfl
  | d :: r, k => by simp [enumL, enumL_length r]
theorem enumL_get : ∀ (ds : List D) (k : Int) (i : Nat) (e : D), (enumL k ds)[i]? = some e → ∃ d, ds[i]? = some d ∧ e = .tuple [.int (k + i), d]
  | [], _, _, _, h => by simp [enumL] at h
  | d :: r, k, 0, e, h => by simp [enumL] at h; exact ⟨d, rfl, by simp [h]⟩
  | d :: r, k, i + 1, e, h => by
    simp only [enumL, List.getElem?_cons_succ] at h
    obtain ⟨d', h1, h2⟩ := enumL_get r (k + 1) i e h
    refine ⟨d', by simpa using h1, ?_⟩
    rw [h2, show k + 1 + (i : Int) = k + ((i + 1 : Nat) : Int) by omega]
theorem walk_enum (q : SqL K B a xs) (r : RepL w K F0 xs ds) : Walk w K B F0 (Ite K a) (enumL 0 ds) true where
  go := fun i H h s => by
    rw [enumL_length] at h
    exact ⟨xs, xs[i]'(by rw [r.length]; exact h), SqL.sub s q, by simp [r.length, h]⟩
  yld := fun i H x H' F d e s sF sFH y => by
    obtain ⟨T, z, rfl, hT, rfl, y⟩ := y
    obtain ⟨d', e1, rfl⟩ := enumL_get ds 0 i d e
    obtain ⟨v, e2, r1⟩ := r.get e1
    have := y xs (SqL.sub s q)
    rw [e2] at this; cases this
    have hF : F T = none := by
      cases q : F T with
      | none => rfl
      | some o => rw [sFH _ _ q] at hT; cases hT
    refine ⟨_, Ext.new sFH hT, ?_⟩
    refine .inr ⟨rfl, _, T, _, rfl, rfl, SqT.of upd_same, ?_⟩
    exact (by simp only [RepL, Rep]; exact ⟨by simp, Rep.sub (sF.trans (Sub.upd hF)) _ _ r1, trivial⟩)
  stop := fun H s => ⟨xs, SqL.sub s q, by rw [enumL_length, r.length]; exact Nat.le_refl _⟩
end

/-! ### enumerate(tuple) -/
set_option maxHeartbeats 1000000 in
theorem meets_enumerate_new1 {v : Value} {o : Obj} {H : Heap → Prop} (B : Begins v o H) :
    Meets (Builtin.«enumerate.__new__» ⟨[.type "enumerate", v], []⟩) (fun _ R s => H s.heap ∧
      R (.ok (.ret (.ref (s.heap.push o).objs.size))) { s with heap := (s.heap.push o).push { cls := .type "enumerate", data := .fields #[.none, .bool false, .ref s.heap.objs.size, rawInt 0, .none, .none] } }) :=
  .of_wp fun prog w A R s h => by
    obtain ⟨hp, g, d, tk, os⟩ := s; obtain ⟨h1, h⟩ := h
    have hsub := sub_enumerate
    have q1 : ∀ {A' : Around} {E : Value → Shared → Prop} {Q : Value → Shared → Prop}, Q (.ref hp.objs.size) ⟨hp.push o, g, d, tk, os⟩ → wpAny (model prog w) A' (pyIter v) Q E ⟨hp, g, d, tk, os⟩ :=
      fun q => B.iter prog w _ _ ⟨hp, g, d, tk, os⟩ _ h1 q
    wp_walk using q1
    refine wpAny_stack_any fun st => wpAny_pure ?_
    split
    · rename_i c _ _ _ _ _
      cases (c == Value.type "enumerate")
      · wp_walk using q1
        exact ⟨_, rfl, h⟩
      · wp_walk using q1
        exact ⟨_, rfl, h⟩
    · wp_walk using q1
      exact ⟨_, rfl, h⟩
theorem call_enumerate1 {prog : Program} {w : World} {A : Around} {E : Value → Shared → Prop} {s : Shared} {v : Value} {o : Obj} {H : Heap → Prop} {Q : Value → Shared → Prop} (B : Begins v o H) (h1 : H s.heap)
    (h : ∀ h', IsEnum h' (s.heap.objs.size + 1) s.heap.objs.size 0 .none → h'.get? s.heap.objs.size = some o → h'.objs.size = s.heap.objs.size + 2 →
      (∀ b o, s.heap.get? b = some o → h'.get? b = some o) → Q (.ref (s.heap.objs.size + 1)) { s with heap := h' }) :
    wpAny (model prog w) A (call (.type "enumerate") [v]) Q E s := by
  refine callType_new F.called_enumerate (by decide) (F.typeCall_enumerate_1 _) (F.newCall_enumerate_1 _) (fun obj => F.args_object_init_2 obj _) F.entry_enumerate_new
    (meets_enumerate_new1 B) ⟨h1, ?_⟩
  have hz : (s.heap.push o).objs.size = s.heap.objs.size + 1 := Heap.size_push ..
  show _ ∧ _
  rw [hz]
  have he : IsEnum ((s.heap.push o).push { cls := .type "enumerate", data := .fields #[.none, .bool false, .ref s.heap.objs.size, rawInt 0, .none, .none] }) (s.heap.objs.size + 1) s.heap.objs.size 0 .none := by
    have := Heap.get?_push_size (s.heap.push o) (o := { cls := .type "enumerate", data := .fields #[.none, .bool false, .ref s.heap.objs.size, rawInt 0, .none, .none] }) rfl
    rw [hz] at this; exact this
  refine ⟨⟨_, he, rfl⟩, h _ he (Heap.get?_push_of_some _ (Heap.get?_push_size _ B.free)) (by rw [Heap.size_push, hz]) fun b o x => Heap.get?_push_of_some _ (Heap.get?_push_of_some _ x)⟩
def IteT (K : Fr) (a : Addr) : It :=
  ⟨fun i H => ∃ (xs : List V) (x : V), SqT K H a xs ∧ xs[i]? = some x, fun i H v H' => ∃ T x, v = .ref T ∧ H T = none ∧ H' = upd H T (.tup [.int (i : Nat), x]) ∧ ∀ xs, SqT K H a xs → xs[i]? = some x, fun i H => ∃ xs : List V, SqT K H a xs ∧ xs.length = i⟩
theorem turn_enumT {P : Program} {w : World} {K : PySem.W.Frag} {elts : List Expr} {kk : Nat} {tpos : Pos} (a e it : Addr) :
    Turn P w K (.Tuple elts kk tpos) (IteT K a) [e, it] e (fun i h => (∃ old, IsEnum h e it ((i : Nat) : Int) old) ∧ h.IsTupleIter it a i ∧ e ≠ it) where
  mem := by simp
  obj := fun i h st b hb => by
    obtain ⟨⟨old, he⟩, ⟨o, ho, hc, hd⟩, _⟩ := st
    have e' : b = e ∨ b = it := by simpa using hb
    rcases e' with z | z
    · rw [z]; exact ⟨_, he, fun v q => nomatch q⟩
    · rw [z]; exact ⟨o, ho, fun v q => by rw [hd] at q; cases q⟩
  keep := fun i h h' st k => let ⟨⟨old, he⟩, hi, hne⟩ := st; ⟨⟨old, k e (by simp) _ he⟩, hi.at fun o q => k it (by simp) o q, hne⟩
  item := by
    intro X hP hw hK hc i pins s σ H E I hf st hg
    subst hP hw hK
    obtain ⟨⟨old, he⟩, hit, hne⟩ := st
    obtain ⟨xs, x, hq, hx⟩ := hg
    obtain ⟨its, rv, p, hz⟩ := I.tuple hq
    obtain ⟨u, hu, ru⟩ := rv.get hx
    have hel : e < s.heap.objs.size := Heap.lt_size he
    have hil : it < s.heap.objs.size := by obtain ⟨_, q, _⟩ := hit; exact Heap.lt_size q
    have hti : a ≠ it := by
      rintro rfl
      obtain ⟨o1, q1, c1, _⟩ := hit
      obtain ⟨o2, q2, c2, _⟩ := p
      rw [q1] at q2; cases q2
      rw [c1] at c2; injection c2 with c2; exact absurd c2 (by decide)
    have hte : a ≠ e := by
      rintro rfl
      obtain ⟨o2, q2, c2, _⟩ := p
      unfold IsEnum at he
      rw [he] at q2; cases q2
      injection c2 with c2; exact absurd c2 (by decide)
    have hlt : i < its.toArray.size := by
      have := (List.getElem?_eq_some_iff.mp hu).1
      simpa using this
    refine wpAny_pyNext_enum_itemD (Draws.tuple (show X.A.in1.handled = none from I.ok.hd hc) it a hti its.toArray) he ⟨hit, p⟩ hlt hne (by simp [hne, Ne.symm hte]) fun y h' tk hP ho hs' hT hsz hk => ?_
    have hy : y = u := by
      have : its.toArray[i]? = some y := hP
      simp only [List.getElem?_toArray] at this
      rw [hu] at this
      exact (Option.some.inj this).symm
    subst hy
    refine ⟨_, rfl, wpAny_letOwnedTupleGo_enum (s := { s with heap := h', toks := tk + 1 }) ho fun h'' he' sb => ?_⟩
    have hT2 : h''.get? s.heap.objs.size = some { cls := .type "tuple", data := .seq #[.int i tk, y] } := (sb.2 _ (Nat.ne_of_gt hel)).trans hT
    have new : ObjOk X.prog X.w (upd H s.heap.objs.size (.tup [.int (i : Nat), x])) h'' s.heap.objs.size (.tup [.int (i : Nat), x]) :=
      ⟨by show 2 ≤ sizeLine; decide, [.int i tk, y], .cons ⟨_, rfl⟩ (.cons ru .nil), ⟨_, hT2, rfl, _, rfl⟩⟩
    have I1 : Inv X pins σ (upd H s.heap.objs.size (.tup [.int (i : Nat), x])) { s with heap := h'', toks := tk + 1 } :=
      I.turnedNew (ch := [e, it]) (fun b ob hb q => (sb.2 b (fun z => hb (by simp [z]))).trans (hk b ob (fun z => hb (by simp [z])) (fun z => hb (by simp [z])) q)) hf (Nat.le_refl _) new
    refine ⟨.ref s.heap.objs.size, _, I1, rfl, ⟨_, x, rfl, I.hok.fresh (Nat.le_refl _), rfl, fun ys hy => by rw [I.tuple_inj hy hq]; exact hx⟩, ⟨⟨y, ?_⟩, hs'.1.at fun o q => (sb.2 it (Ne.symm hne)).trans q, hne⟩, fun b hb => ?_⟩
    · have e1 : ((i + 1 : Nat) : Int) = (i : Int) + 1 := by omega
      rw [e1]; exact he'
    · have hb' : b < s.heap.objs.size := by
        have e' : b = e ∨ b = it := by simpa using hb
        rcases e' with z | z
        · rw [z]; exact hel
        · rw [z]; exact hil
      rw [upd_ne (Nat.ne_of_lt hb')]
      exact (hf b hb).1
  done := by
    intro X hP hw hK hc i pins s σ H E I hf st hg
    subst hP hw hK
    obtain ⟨⟨old, he⟩, hit, hne⟩ := st
    obtain ⟨xs, hq, hx⟩ := hg
    obtain ⟨its, rv, p, hz⟩ := I.tuple hq
    obtain ⟨f0, f1, f2, f3, f4, f5⟩ := hf it (by simp)
    have hl := rv.length
    have hti : a ≠ it := by
      rintro rfl
      obtain ⟨o1, q1, c1, _⟩ := hit
      obtain ⟨o2, q2, c2, _⟩ := p
      rw [q1] at q2; cases q2
      rw [c1] at c2; injection c2 with c2; exact absurd c2 (by decide)
    have hsz : its.toArray.size = i := by simp; omega
    exact wpAny_pyNext_enum_endD (Draws.tuple (show X.A.in1.handled = none from I.ok.hd hc) it a hti its.toArray) he ⟨by rw [hsz]; exact hit, p⟩ fun h' eb => ⟨rfl, I.turned (t' := s.toks) (fun b o hb q => eb b o hb q) f0 f1 f3 f4 f5⟩
  self := fun A i s Q E st h => let ⟨⟨_, he⟩, _⟩ := st; wpAny_pyIter_enum he h
def iEnumT (K : Fr) (ta : TA) : TI := fun σ H R => ta σ H fun vs H1 => ∃ a xs, vs = [.ref a] ∧ SqT K H1 a xs ∧ R (IteT K a) H1
theorem pi_enumT {X : Cx} {e : Expr} {ta : TA} {p pos tpos : Pos} {elts : List Expr} {kk : Nat} (hg : Gl X "enumerate") (hm : X.mg "enumerate" = none) (ha : PA X [e] ta) (hs : starEach [e] X.env = [(false, eval e X.env)] := by rfl) :
    PI X (.Tuple elts kk tpos) (.Call (.Name "enumerate" p) [e] [] pos) (iEnumT X.K ta) := by
  refine ⟨fun pins s σ H R I h => ?_⟩
  refine Call_ (ld_blt I hg hm boot_enumerate (PyProof.Rows.callWith_type1 (thn (ha.run pos pins s σ H _ I h) fun us s1 ⟨vs, H1, I1, r1, q1⟩ => ?_) hs rfl))
  obtain ⟨a, xs, ex, hq, q⟩ := q1
  subst ex
  cases r1 with
  | cons r rr =>
    cases rr
    cases r
    obtain ⟨its, rv, p', hz⟩ := I1.tuple hq
    refine call_enumerate1 (begins_tuple a its.toArray) p' fun h' he hit hsz hk => wpAny_pyIter_enum he ?_
    have I2 : Inv X pins σ H1 { s1 with heap := h' } := I1.kept (t' := s1.toks) hk
    refine ⟨s1.heap.objs.size + 1, [s1.heap.objs.size + 1, s1.heap.objs.size], _, _, H1, rfl, I2, turn_enumT a (s1.heap.objs.size + 1) s1.heap.objs.size, ⟨⟨.none, he⟩, ⟨_, hit, rfl, rfl⟩, Nat.succ_ne_self _⟩, fun b hb => ?_, q⟩
    have e' : b = s1.heap.objs.size + 1 ∨ b = s1.heap.objs.size := by simpa using hb
    have hle : s1.heap.objs.size ≤ b := by
      rcases e' with z | z
      · rw [z]; exact Nat.le_add_right _ _
      · rw [z]; exact Nat.le_refl _
    exact I1.fpOk hle (I1.hok.fresh hle)
section
variable {w : World} {K : Fr} {B F0 : Hp} {a b : Addr} {xs ys : List V} {ds es : List D}
theorem walk_enumT (q : SqT K B a xs) (r : RepL w K F0 xs ds) : Walk w K B F0 (IteT K a) (enumL 0 ds) true where
  go := fun i H h s => by
    rw [enumL_length] at h
    exact ⟨xs, xs[i]'(by rw [r.length]; exact h), SqT.sub s q, by simp [r.length, h]⟩
  yld := fun i H x H' F d e s sF sFH y => by
    obtain ⟨T, z, rfl, hT, rfl, y⟩ := y
    obtain ⟨d', e1, rfl⟩ := enumL_get ds 0 i d e
    obtain ⟨v, e2, r1⟩ := r.get e1
    have := y xs (SqT.sub s q)
    rw [e2] at this; cases this
    have hF : F T = none := by
      cases q : F T with
      | none => rfl
      | some o => rw [sFH _ _ q] at hT; cases hT
    refine ⟨_, Ext.new sFH hT, ?_⟩
    refine .inr ⟨rfl, _, T, _, rfl, rfl, SqT.of upd_same, ?_⟩
    exact (by simp only [RepL, Rep]; exact ⟨by simp, Rep.sub (sF.trans (Sub.upd hF)) _ _ r1, trivial⟩)
  stop := fun H s => ⟨xs, SqT.sub s q, by rw [enumL_length, r.length]⟩
theorem zipL_length : ∀ (ds es : List D), (zipL ds es).length = min ds.length es.length
  | [], _ => by simp [zipL]
  | _ :: _, [] => by simp [zipL]
  | d :: r, e :: s => by simp [zipL, zipL_length r s] <;> omega
theorem zipL_get : ∀ (ds es : List D) (i : Nat) (e : D), (zipL ds es)[i]? = some e → ∃ d d', ds[i]? = some d ∧ es[i]? = some d' ∧ e = .tuple [d, d']
  | [], _, _, _, h => by simp [zipL] at h
  | _ :: _, [], _, _, h => by simp [zipL] at h
  | d :: r, d' :: s, 0, e, h => by simp [zipL] at h; exact ⟨d, d', rfl, rfl, h.symm⟩
  | d :: r, d' :: s, i + 1, e, h => by
    simp only [zipL, List.getElem?_cons_succ] at h ⊢
    exact zipL_get r s i e h
theorem walk_zip (q : SqL K B a xs) (r : RepL w K F0 xs ds) (q' : SqL K B b ys) (r' : RepL w K F0 ys es) : Walk w K B F0 (Itz K a b) (zipL ds es) true where
  go := fun i H h s => by
    rw [zipL_length] at h
    exact ⟨xs, ys, xs[i]'(by rw [r.length]; omega), ys[i]'(by rw [r'.length]; omega), SqL.sub s q, SqL.sub s q', by simp, by simp⟩
  yld := fun i H x H' F d e s sF sFH y => by
    obtain ⟨T, z, z', rfl, hT, rfl, y, y'⟩ := y
    obtain ⟨d1, d2, e1, e2, rfl⟩ := zipL_get ds es i d e
    obtain ⟨v, e3, r1⟩ := r.get e1
    obtain ⟨v', e4, r2⟩ := r'.get e2
    have := y xs (SqL.sub s q)
    rw [e3] at this; cases this
    have := y' ys (SqL.sub s q')
    rw [e4] at this; cases this
    have hF : F T = none := by
      cases q : F T with
      | none => rfl
      | some o => rw [sFH _ _ q] at hT; cases hT
    refine ⟨_, Ext.new sFH hT, ?_⟩
    refine .inr ⟨rfl, _, T, _, rfl, rfl, SqT.of upd_same, ?_⟩
    exact (by simp only [RepL]; exact ⟨Rep.sub (sF.trans (Sub.upd hF)) _ _ r1, Rep.sub (sF.trans (Sub.upd hF)) _ _ r2, trivial⟩)
  stop := fun H s => ⟨xs, ys, SqL.sub s q, SqL.sub s q', by rw [zipL_length, r.length, r'.length]; omega⟩
theorem walk_zipT (q : SqT K B a xs) (r : RepL w K F0 xs ds) (q' : SqT K B b ys) (r' : RepL w K F0 ys es) : Walk w K B F0 (RZ.ItzT K a b) (zipL ds es) true where
  go := fun i H h s => by
    rw [zipL_length] at h
    exact ⟨xs, ys, xs[i]'(by rw [r.length]; omega), ys[i]'(by rw [r'.length]; omega), SqT.sub s q, SqT.sub s q', by simp, by simp⟩
  yld := fun i H x H' F d e s sF sFH y => by
    obtain ⟨T, z, z', rfl, hT, rfl, y, y'⟩ := y
    obtain ⟨d1, d2, e1, e2, rfl⟩ := zipL_get ds es i d e
    obtain ⟨v, e3, r1⟩ := r.get e1
    obtain ⟨v', e4, r2⟩ := r'.get e2
    have := y xs (SqT.sub s q)
    rw [e3] at this; cases this
    have := y' ys (SqT.sub s q')
    rw [e4] at this; cases this
    have hF : F T = none := by
      cases q : F T with
      | none => rfl
      | some o => rw [sFH _ _ q] at hT; cases hT
    refine ⟨_, Ext.new sFH hT, ?_⟩
    refine .inr ⟨rfl, _, T, _, rfl, rfl, SqT.of upd_same, ?_⟩
    exact (by simp only [RepL]; exact ⟨Rep.sub (sF.trans (Sub.upd hF)) _ _ r1, Rep.sub (sF.trans (Sub.upd hF)) _ _ r2, trivial⟩)
  stop := fun H s => ⟨xs, ys, SqT.sub s q, SqT.sub s q', by rw [zipL_length, r.length, r'.length]; omega⟩
end
end Ad
set_option Elab.async false
set_option linter.all false
set_option maxRecDepth 100000
set_option maxHeartbeats 4000000
/-! Dicts that are walked, asked by method, copied. -/
namespace Ad
open PySem PySem.Spec PyProof.Rows L2
section
variable {w : World} {K : Fr} {F H : Hp}
theorem RepP.cols : ∀ {es : List DictEntry} {kvs : List (D × D)}, RepP w K F es kvs → ∃ xs ys, Vals xs (es.map (·.key)) ∧ Vals ys (es.map (·.val)) ∧ RepL w K F xs (kvs.map (·.1)) ∧ RepL w K F ys (kvs.map (·.2))
  | [], [], _ => ⟨[], [], .nil, .nil, by simp only [List.map_nil, RepL], by simp only [List.map_nil, RepL]⟩
  | [], _ :: _, h => by simp only [RepP] at h
  | _ :: _, [], h => by simp only [RepP] at h
  | e :: es, (k, d) :: r, h => by
    simp only [RepP] at h
    obtain ⟨⟨x, h1, h2⟩, ⟨y, h3, h4⟩, h5, h6, h7, h8⟩ := h
    obtain ⟨xs, ys, a, b, c, d'⟩ := RepP.cols h8
    exact ⟨x :: xs, y :: ys, .cons h1 a, .cons h3 b, by simp only [List.map_cons, RepL]; exact ⟨h2, c⟩, by simp only [List.map_cons, RepL]; exact ⟨h4, d'⟩⟩
end
def Itkr (K : Fr) (d : Addr) (es : List DictEntry) (ep : Nat) (xs : List V) : It :=
  ⟨fun i H => DcAt K H d es ep ∧ i < es.length, fun i H x H' => H' = H ∧ xs[i]? = some x, fun i H => DcAt K H d es ep ∧ es.length ≤ i⟩
def Itir (K : Fr) (d : Addr) (es : List DictEntry) (ep : Nat) (xs ys : List V) : It :=
  ⟨fun i H => DcAt K H d es ep ∧ i < es.length, fun i H v H' => ∃ T x y, xs[i]? = some x ∧ ys[i]? = some y ∧ v = .ref T ∧ H T = none ∧ H' = upd H T (.tup [x, y]), fun i H => DcAt K H d es ep ∧ es.length ≤ i⟩
theorem vals_at {α : Type} {xs : List V} {l : List α} {f : α → Value} (h : Vals xs (l.map f)) {i : Nat} (hi : i < l.length) : ∃ x, xs[i]? = some x ∧ RelV x (f l[i]) := by
  have hl : xs.length = l.length := by rw [h.length, List.length_map]
  have hx : xs[i]? = some xs[i] := List.getElem?_eq_getElem (by omega)
  obtain ⟨u, h1, h2⟩ := h.get hx
  refine ⟨_, hx, ?_⟩
  rw [List.getElem?_map, List.getElem?_eq_getElem hi] at h1
  cases h1
  exact h2
section
variable {P : Program} {w : World} {K : Fr} {tg : Expr} {d : Addr} {es : List DictEntry} {ep : Nat} {xs ys : List V}
theorem raw_of {h : Heap} (e : h.get? d = some (dObj es ep)) : h.DictRaw d es.toArray ep := ⟨_, e, ⟨rfl, rfl, rfl⟩, rfl⟩
theorem turn_keysR (it : Addr) (hv : Vals xs (es.map (·.key))) : Turn P w K tg (Itkr K d es ep xs) [it] it (fun i h => h.IsKeyIter it d i es.length ep) where
  mem := by simp
  obj := fun i h st b hb => by
    have e : b = it := by simpa using hb
    subst e
    obtain ⟨oi, e, c, dd⟩ := st
    exact ⟨oi, e, fun v z => by rw [dd] at z; cases z⟩
  keep := fun i h h' st k => st.at fun oi e => k it (by simp) oi e
  item := by
    intro X hP hw hK hc i pins s σ H E I hf st hg
    subst hP hw hK
    obtain ⟨hd, hi⟩ := hg
    obtain ⟨f0, f1, f2, f3, f4, f5⟩ := hf it (by simp)
    obtain ⟨x, hx, rx⟩ := vals_at hv hi
    refine next_key_item (en := es[i]) st (Inv.dAt I hd) (es := es.toArray) rfl (by simp) (by simp [hi]) fun h' st' sb => ?_
    have I1 : Inv X pins σ H { s with heap := h' } := I.turned (t' := s.toks) (fun b ob hb e => (sb.2 b hb).trans e) f0 f1 f3 f4 f5
    obtain ⟨oi, e, c, dd⟩ := id st'
    exact ⟨es[i].key, rfl, go_of (s := { s with heap := h' }) e c dd (by decide) ⟨x, H, I1, rx, ⟨rfl, hx⟩, st', fun b hb => (hf b hb).1⟩⟩
  done := by
    intro X hP hw hK hc i pins s σ H E I hf st hg
    subst hP hw hK
    obtain ⟨hd, hi⟩ := hg
    obtain ⟨f0, f1, f2, f3, f4, f5⟩ := hf it (by simp)
    exact next_key_end (I.ok.hd hc) st (Inv.dAt I hd) (es := es.toArray) rfl (by simp) hi fun h' eb => ⟨rfl, I.turned (t' := s.toks) (fun b ob hb e => eb b ob hb e) f0 f1 f3 f4 f5⟩
  self := fun A i s Q E st h => by
    refine wpAny_pyIter_slot st.typeIs PySem.F.slot_dict_keyiterator_iter (wpAny_call_entry PySem.F.slot_dict_keyiterator_iter st.typeIs PySem.F.entry_dict_keyiterator_iter ?_ (PySem.F.args_dict_keyiterator_iter_1 _))
    show wpAny _ _ (ret (.ref it)) _ _ s
    exact wpAny_pure ⟨_, rfl, "dict_keyiterator", _, st.typeIs, PySem.F.slot_dict_keyiterator_next.lookup, h⟩
theorem turn_itemsR {elts : List Expr} {kk : Nat} {tpos : Pos} (it : Addr) (hv : Vals xs (es.map (·.key))) (hy : Vals ys (es.map (·.val))) :
    Turn P w K (.Tuple elts kk tpos) (Itir K d es ep xs ys) [it] it (fun i h => ∃ ok ov, IsItemIter h it d i es.length ep ok ov) where
  mem := by simp
  obj := fun i h st b hb => by
    have e : b = it := by simpa using hb
    subst e
    obtain ⟨ok, ov, e⟩ := st
    exact ⟨_, e, fun v z => nomatch z⟩
  keep := fun i h h' st k => let ⟨ok, ov, e⟩ := st; ⟨ok, ov, k it (by simp) _ e⟩
  item := by
    intro X hP hw hK hc i pins s σ H E I hf st hg
    subst hP hw hK
    obtain ⟨hd, hi⟩ := hg
    obtain ⟨x, hx, rx⟩ := vals_at hv hi
    obtain ⟨y, hy', ry⟩ := vals_at hy hi
    obtain ⟨ok, ov, he⟩ := st
    have hlt : it < s.heap.objs.size := Heap.lt_size he
    refine wpAny_pyNext_items_item_raw (es := es.toArray) (by simpa using he) (raw_of (Inv.dAt I hd)) (by simpa using hi) fun h' ho hT hz hk => ?_
    refine ⟨_, rfl, wpAny_letOwnedTupleGo_items (s := { s with heap := h' }) ho fun h'' he' sb => ?_⟩
    have hT2 : h''.get? s.heap.objs.size = some { cls := .type "tuple", data := .seq #[es[i].key, es[i].val] } := (sb.2 _ (Nat.ne_of_gt hlt)).trans (by simpa using hT)
    have new : ObjOk X.prog X.w (upd H s.heap.objs.size (.tup [x, y])) h'' s.heap.objs.size (.tup [x, y]) :=
      ⟨by show 2 ≤ sizeLine; decide, [es[i].key, es[i].val], .cons rx (.cons ry .nil), ⟨_, hT2, rfl, _, rfl⟩⟩
    have I1 : Inv X pins σ (upd H s.heap.objs.size (.tup [x, y])) { s with heap := h'' } :=
      I.turnedNew (t' := s.toks) (ch := [it]) (fun b ob hb e => (sb.2 b (by simpa using hb)).trans (hk b ob (by simpa using hb) e)) hf (Nat.le_refl _) new
    refine ⟨.ref s.heap.objs.size, _, I1, rfl, ⟨_, x, y, hx, hy', rfl, I.hok.fresh (Nat.le_refl _), rfl⟩, ⟨es[i].key, es[i].val, ?_⟩, fun b hb => ?_⟩
    · simpa using he'
    · have e : b = it := by simpa using hb
      rw [e, upd_ne (Nat.ne_of_lt hlt)]
      exact (hf it (by simp)).1
  done := by
    intro X hP hw hK hc i pins s σ H E I hf st hg
    subst hP hw hK
    obtain ⟨hd, hi⟩ := hg
    obtain ⟨f0, f1, f2, f3, f4, f5⟩ := hf it (by simp)
    obtain ⟨ok, ov, he⟩ := st
    exact wpAny_pyNext_items_end_raw (es := es.toArray) (I.ok.hd hc) (by simpa using he) (raw_of (Inv.dAt I hd)) (by simpa using hi) fun h' eb => ⟨rfl, I.turned (t' := s.toks) (fun b ob hb e => eb b ob hb e) f0 f1 f3 f4 f5⟩
  self := fun A i s Q E st h => let ⟨_, _, e⟩ := st; PySem.W.kcp_self e h
end
/-! ### the walks -/
def iKeysR (X : Cx) (td : TE) : TI := fun σ H R => td σ H fun x H1 => ∃ d es ep xs, x = .ref d ∧ DcAt X.K H1 d es ep ∧ Vals xs (es.map (·.key)) ∧ R (Itkr X.K d es ep xs) H1
def iItemsR (X : Cx) (td : TE) : TI := fun σ H R => td σ H fun x H1 => ∃ d es ep xs ys, x = .ref d ∧ DcAt X.K H1 d es ep ∧ Vals xs (es.map (·.key)) ∧ Vals ys (es.map (·.val)) ∧ R (Itir X.K d es ep xs ys) H1
section
variable {X : Cx} {tg e : Expr} {td : TE} {apos cpos : Pos}
theorem pi_keysR (he : PE X e td) : PI X tg e (iKeysR X td) := by
  refine ⟨fun pins s σ H R I h => ?_⟩
  refine thn (he.run pins s σ H _ I h) fun u s1 ⟨x, H1, I1, rx, d, es, ep, xs, ex, hd, hv, q⟩ => ?_
  subst ex
  obtain rfl : u = Value.ref d := rx
  refine iter_keys hd.1 (Inv.dAt I1 hd) (es := es.toArray) ⟨rfl, rfl, rfl⟩ rfl (pi_one (tk := s1.toks) I1 _ (turn_keysR _ hv) ⟨_, Heap.get?_push_size _ rfl, rfl, ?_⟩ q)
  simp
theorem pi_itemsR {elts : List Expr} {kk : Nat} {tpos : Pos} (he : PE X e td) (hbase : attributeBase e "items" X.env (eval e X.env) = eval e X.env) (hline : (apos.endLine == cpos.line) = true) :
    PI X (.Tuple elts kk tpos) (.Call (.Attribute e "items" apos) [] [] cpos) (iItemsR X td) := by
  refine ⟨fun pins s σ H R I h => ?_⟩
  refine wpAny_Call_method (T := "dict") (id := "dict.items") hbase rfl hline PySem.F.plainAttrs_dict PySem.F.slot_dict_items PySem.F.type_dict_items (thn (he.run pins s σ H _ I h) fun u s1 ⟨x, H1, I1, rx, d, es, ep, xs, ys, ex, hd, hv, hy, q⟩ => ?_)
  subst ex
  obtain rfl : u = Value.ref d := rx
  have at' := Inv.dAt I1 hd
  have raw := raw_of at'
  refine ⟨raw.typeIs, fun b z => ?_, ?_⟩
  · cases z; exact ⟨_, at', rfl⟩
  have I2 : Inv X pins σ H1 { s1 with heap := s1.heap.push { cls := .type "dict_items", data := .fields #[.ref d] } } := I1.kept (t' := s1.toks) fun b ob q => Heap.get?_push_of_some _ q
  have fin : wpAny (model X.prog X.w) X.A (pyIter (.ref s1.heap.objs.size)) (PIE X pins σ (.Tuple elts kk tpos) R) X.xe { s1 with heap := s1.heap.push { cls := .type "dict_items", data := .fields #[.ref d] } } := by
    refine wpAny_pyIter_items_raw (d := d) (es := es.toArray) (ep := ep) ⟨_, Heap.get?_push_size _ rfl, rfl, rfl⟩ (raw_of (Heap.get?_push_of_some _ at')) (pi_one (tk := s1.toks) I2 _ (turn_itemsR _ hv hy) ⟨.none, .none, ?_⟩ q)
    exact Heap.get?_push_size _ rfl
  show wpAny _ _ (callWith cpos (.builtin "dict.items") [.ref d] [] []) _ X.xe s1
  exact method_meetsIn PySem.F.slot_dict_items PySem.F.entry_dict_items rfl (PySem.evalArgs_none ⟨rfl, raw.typeIs, PySem.F.args_dict_items_1 _, _, meets_dict_items_raw d hd.1, ⟨es.toArray, ep, raw⟩, fin⟩)
end
section
variable {w : World} {K : Fr} {B F0 : Hp} {d : Addr} {es : List DictEntry} {ep : Nat} {xs ys : List V} {kvs : List (D × D)}
theorem walk_keysR (q : DcAt K B d es ep) (hl : es.length = kvs.length) (r : RepL w K F0 xs (kvs.map (·.1))) : Walk w K B F0 (Itkr K d es ep xs) (kvs.map (·.1)) false where
  go := fun i H h s => ⟨q.sub s, by simpa [hl] using h⟩
  yld := fun i H x H' F d e s sF sFH y => by
    obtain ⟨rfl, y⟩ := y
    obtain ⟨v, e1, r1⟩ := r.get e
    rw [y] at e1; cases e1
    exact ⟨F, .refl sFH, .inl (Rep.sub sF _ _ r1)⟩
  stop := fun H s => ⟨q.sub s, by simp [hl]⟩
theorem itemsL_get : ∀ {kvs : List (D × D)} {i : Nat} {e : D}, (itemsL kvs)[i]? = some e → ∃ k v, (kvs.map (·.1))[i]? = some k ∧ (kvs.map (·.2))[i]? = some v ∧ e = .tuple [k, v]
  | [], _, _, h => by simp [itemsL] at h
  | (k, v) :: r, 0, e, h => by
    simp [itemsL] at h
    exact ⟨k, v, rfl, rfl, h.symm⟩
  | (k, v) :: r, i + 1, e, h => by
    simp only [itemsL, List.getElem?_cons_succ] at h
    simpa using itemsL_get h
theorem itemsL_length : ∀ (kvs : List (D × D)), (itemsL kvs).length = kvs.length
  | [] => rfl
  | (k, v) :: r => by simp [itemsL, itemsL_length r]
theorem walk_itemsR (q : DcAt K B d es ep) (hl : es.length = kvs.length) (r : RepL w K F0 xs (kvs.map (·.1))) (r' : RepL w K F0 ys (kvs.map (·.2))) : Walk w K B F0 (Itir K d es ep xs ys) (itemsL kvs) true where
  go := fun i H h s => ⟨q.sub s, by rw [itemsL_length] at h; omega⟩
  yld := fun i H x H' F d e s sF sFH y => by
    obtain ⟨T, x1, y1, h1, h2, rfl, h3, rfl⟩ := y
    obtain ⟨k, v, g1, g2, rfl⟩ := itemsL_get e
    obtain ⟨v1, e1, r1⟩ := r.get g1
    obtain ⟨v2, e2, r2⟩ := r'.get g2
    rw [h1] at e1; cases e1
    rw [h2] at e2; cases e2
    have xx : Ext F H (upd F T (.tup [x1, y1])) (upd H T (.tup [x1, y1])) := Ext.new sFH h3
    refine ⟨_, xx, ?_⟩
    exact .inr ⟨rfl, _, T, [x1, y1], rfl, rfl, SqT.of upd_same, by simp only [RepL]; exact ⟨Rep.sub (sF.trans xx.subF) _ _ r1, Rep.sub (sF.trans xx.subF) _ _ r2, trivial⟩⟩
  stop := fun H s => ⟨q.sub s, by rw [itemsL_length]; omega⟩
end
end Ad
set_option Elab.async false
set_option linter.all false
set_option maxRecDepth 100000
set_option maxHeartbeats 4000000
namespace Ad
open PySem PySem.Spec PyProof.Rows L2

/-! ### what is walked -/
def RW (w : World) (K : Fr) (m : Md) (F H : Hp) (v : V) (d : D) : Prop := match m with
  | .v => Rep w K F v d
  | _ => RepR w K F H v d
def Bs (m : Md) (F H : Hp) : Hp := match m with
  | .v => F
  | _ => H
section
variable {w : World} {K : Fr} {m : Md} {F H : Hp} {v : V}
theorem RW.list {ds : List D} (h : RW w K m F H v (.list ds)) (s : Sub F H) : ∃ a xs, v = .ref a ∧ SqL K (Bs m F H) a xs ∧ RepL w K F xs ds := by
  cases m with
  | v => have h : Rep w K F v (.list ds) := h; simp only [Rep] at h; exact h
  | r => exact RepR.list (show RepR w K F H v (.list ds) from h) s
  | t => exact RepR.list (show RepR w K F H v (.list ds) from h) s
theorem RW.tuple {ds : List D} (h : RW w K m F H v (.tuple ds)) (s : Sub F H) : ∃ a xs, v = .ref a ∧ SqT K (Bs m F H) a xs ∧ RepL w K F xs ds := by
  cases m with
  | v => have h : Rep w K F v (.tuple ds) := h; simp only [Rep] at h; obtain ⟨a, xs, e, q, r⟩ := h; exact ⟨a, xs, e, q.t, r⟩
  | r => exact RepR.tuple (show RepR w K F H v (.tuple ds) from h) s
  | t => exact RepR.tuple (show RepR w K F H v (.tuple ds) from h) s
theorem RW.dict {kvs : List (D × D)} (h : RW w K m F H v (.dict kvs)) (s : Sub F H) : ∃ a es ep, v = .ref a ∧ DcAt K (Bs m F H) a es ep ∧ RepP w K F es kvs := by
  cases m with
  | v =>
    have h : Rep w K F v (.dict kvs) := h
    simp only [Rep] at h
    obtain ⟨a, es, ep, e, q, z, r⟩ := h
    exact ⟨a, es, ep, e, q, r⟩
  | r => obtain ⟨a, es, ep, e, q, z, r⟩ := (show RepR w K F H v (.dict kvs) from h).dict s; exact ⟨a, es, ep, e, q, r⟩
  | t => obtain ⟨a, es, ep, e, q, z, r⟩ := (show RepR w K F H v (.dict kvs) from h).dict s; exact ⟨a, es, ep, e, q, r⟩
theorem RW.str {z : Str} (h : RW w K m F H v (.str z)) : v = .str z := by
  cases m with
  | v => have h : Rep w K F v (.str z) := h; simpa only [Rep] using h
  | r => exact RepR.str (show RepR w K F H v (.str z) from h)
  | t => exact RepR.str (show RepR w K F H v (.str z) from h)
theorem Bs.sub (s : Sub F H) : Sub (Bs m F H) H := by
  cases m
  · exact s
  · exact .refl
  · exact .refl
theorem Bs.ext {F' H' : Hp} (x : Ext F H F' H') : Sub (Bs m F H) (Bs m F' H') := by
  cases m
  · exact x.subF
  · exact x.sub
  · exact x.sub
end
section
variable (X : Cx) (M : Pm) (W : WX) (cl : Cl)
def tW (m : Md) (e : E) : TE := fun σ H Q => ∃ ρ F, Ok X.w X.K M F H σ ρ ∧ After X.w X.K M W σ F H (ev cl ρ m e) fun d F' H' => ∀ v, RW X.w X.K m F' H' v d → Q v H'
def tI (m : Md) (it : I) : TI := fun σ H Q => ∃ ρ F, Ok X.w X.K M F H σ ρ ∧ After X.w X.K M W σ F H (evI cl ρ m it) fun ds F' H' => ∀ J, Walk X.w X.K (Bs m F' H') F' J ds it.tp? → Q J H'
end
section
variable {g : Gc} {sc : Scope} {X : Cx} {M : Pm} {W : WX} {cl : Cl} {pos p0 : Pos} {x y : E} {e e2 tg : Expr} {es : List Expr} {m : Md}
theorem SE.w (h : SE X M W cl x e) (hm : m = .v ∨ m = .r) : PE X e (tW X M W cl m x) := by
  rcases hm with rfl | rfl
  · exact h.v
  · exact h.r
theorem PI.or {t u : TI} (h : PI X tg e t) (h' : PI X tg e u) : PI X tg e (fun σ H Q => t σ H Q ∨ u σ H Q) := ⟨fun pins s σ H Q I q => q.elim (h.run pins s σ H Q I) (h'.run pins s σ H Q I)⟩
theorem PI.weak {t t' : TI} (h : PI X tg e t) (i : ∀ σ H Q, t' σ H Q → t σ H Q) : PI X tg e t' := ⟨fun pins s σ H Q I q => h.run pins s σ H Q I (i σ H Q q)⟩
theorem s_seq (hx : Hx g sc X M W cl) (hm : m = .v ∨ m = .r) (h : SE X M W cl x e) : PI X tg e (tI X M W cl m (.seq x)) := by
  have pw := h.w hm
  refine PI.weak (PI.or (pi_list pw) (PI.or (pi_tup pw) (PI.or (pi_str pw) (pi_keysR pw)))) fun σ H Q ⟨ρ, F, ok, h⟩ => ?_
  simp only [evI] at h
  have h := h.bind.keep
  cases q : ev cl ρ m x with
  | bad => rw [q] at h; exact h.elim
  | ex c fs => refine .inl ⟨ρ, F, ok, ?_⟩; rw [q] at h ⊢; exact h
  | ok d =>
    cases d with
    | list ds =>
      refine .inl ⟨ρ, F, ok, h.imp fun d F1 H1 x1 ⟨e1, h1⟩ v rv => ?_⟩
      rw [q] at e1; injection e1 with e1; subst e1
      obtain ⟨a, xs, rfl, qa, ra⟩ := rv.list x1.inn
      exact ⟨a, rfl, ⟨xs, SqL.sub (Bs.sub x1.inn) qa⟩, After.ok h1 x1.inn _ (walk_list qa ra)⟩
    | tuple ds =>
      refine .inr (.inl ⟨ρ, F, ok, h.imp fun d F1 H1 x1 ⟨e1, h1⟩ v rv => ?_⟩)
      rw [q] at e1; injection e1 with e1; subst e1
      obtain ⟨a, xs, rfl, qa, ra⟩ := rv.tuple x1.inn
      exact ⟨a, rfl, ⟨xs, SqT.sub (Bs.sub x1.inn) qa⟩, After.ok h1 x1.inn _ (walk_tup qa ra)⟩
    | str z =>
      refine .inr (.inr (.inl ⟨ρ, F, ok, h.imp fun d F1 H1 x1 ⟨e1, h1⟩ v rv => ?_⟩))
      rw [q] at e1; injection e1 with e1; subst e1
      cases rv.str
      exact ⟨z, rfl, After.ok h1 x1.inn _ (walk_str z)⟩
    | dict kvs =>
      refine .inr (.inr (.inr ⟨ρ, F, ok, h.imp fun d F1 H1 x1 ⟨e1, h1⟩ v rv => ?_⟩))
      rw [q] at e1; injection e1 with e1; subst e1
      obtain ⟨a, es, ep, rfl, qa, ra⟩ := rv.dict x1.inn
      obtain ⟨xs, ys, c1, c2, c3, c4⟩ := ra.cols
      exact ⟨a, es, ep, xs, rfl, qa.sub (Bs.sub x1.inn), c1, After.ok h1 x1.inn _ (walk_keysR qa ra.length c3)⟩
    | _ => rw [q] at h; exact ((After.ok h ok.sub).2).elim
theorem itemsD_no (d : D) : NoEx (itemsD d) := by
  cases d <;> intro c fs h <;> cases h
theorem s_items {elts : List Expr} {kk : Nat} {tpos ap cp : Pos} (hx : Hx g sc X M W cl) (hm : m = .v ∨ m = .r) (hb : baseB e = true) (hl : (ap.endLine == cp.line) = true) (h : SE X M W cl x e) : PI X (.Tuple elts kk tpos) (.Call (.Attribute e "items" ap) [] [] cp) (tI X M W cl m (.items x)) := by
  have pw := h.w hm
  have hbase : attributeBase e "items" X.env (eval e X.env) = eval e X.env := by
    unfold attributeBase
    split
    · cases hb
    · rfl
  refine PI.weak (pi_itemsR pw hbase hl) fun σ H Q ⟨ρ, F, ok, h⟩ => ?_
  simp only [evI] at h
  refine ⟨ρ, F, ok, h.bind.imp fun d F1 H1 x1 h1 v rv => ?_⟩
  cases d with
  | dict kvs =>
    obtain ⟨a, es, ep, rfl, qa, ra⟩ := rv.dict x1.inn
    obtain ⟨xs, ys, c1, c2, c3, c4⟩ := ra.cols
    exact ⟨a, es, ep, xs, ys, rfl, qa.sub (Bs.sub x1.inn), c1, c2, After.ok h1 x1.inn _ (walk_itemsR qa ra.length c3 c4)⟩
  | _ => exact h1.elim
theorem s_argsW {xs : List E} {es : List Expr} (h : SEs X M W cl xs es) : PA X es (tVs X M W cl xs) := s_args h
theorem rangeL_ok {ds rs : List D} (h : rangeL ds = .ok rs) : (∃ n, ds = [.int n] ∧ n.natAbs ≤ line ∧ rs = rngL 0 1 n.toNat) ∨ (∃ a b, ds = [.int a, .int b] ∧ a.natAbs ≤ line ∧ b.natAbs ≤ line ∧ rs = rngL a 1 (b - a).toNat) ∨
    ∃ a b c, ds = [.int a, .int b, .int c] ∧ c.natAbs ≤ line ∧ c ≠ 0 ∧ Builtin.Range.small a b c = true ∧ rs = rngL a c (Builtin.Range.rangeSize a b c).toNat := by
  unfold rangeL at h
  split at h
  · split at h
    · injection h with h; exact .inl ⟨_, rfl, by assumption, h.symm⟩
    · cases h
  · split at h
    · rename_i hc; injection h with h; exact .inr (.inl ⟨_, _, rfl, hc.1, hc.2, h.symm⟩)
    · cases h
  · split at h
    · rename_i hc; injection h with h; exact .inr (.inr ⟨_, _, _, rfl, hc.2.2.1, hc.2.2.2.1, hc.2.2.2.2, h.symm⟩)
    · cases h
  · cases h
theorem size_nn (a b c : Int) (hc : c ≠ 0) : 0 ≤ Builtin.Range.rangeSize a b c := by
  unfold Builtin.Range.rangeSize
  split
  · split
    · have : 0 ≤ (b - a - 1) / c := Int.ediv_nonneg (by omega) (by omega)
      omega
    · omega
  · split
    · have : 0 ≤ (a - b - 1) / (-c) := Int.ediv_nonneg (by omega) (by omega)
      omega
    · omega
theorem s_rng {xs : List E} (hx : Hx g sc X M W cl) (hg : gloB sc "range" = true) (h : SEs X M W cl xs es) (hl : 1 ≤ es.length ∧ es.length ≤ 3) : PI X tg (.Call (.Name "range" p0) es [] pos) (tI X M W cl m (.rng xs)) := by
  obtain ⟨g1, g2⟩ := glo_i hg hx
  have hm : X.mg "range" = none := hx.blt _ (by decide +kernel)
  have ha := s_args h
  have key : ∀ {σ H Q}, tI X M W cl m (.rng xs) σ H Q → ∃ ρ F, Ok X.w X.K M F H σ ρ ∧ After X.w X.K M W σ F H (evs cl ρ .v xs) fun ds F' H' => ∀ vs, RepL X.w X.K F' vs ds → evs cl ρ .v xs = .ok ds ∧ ∃ rs, rangeL ds = .ok rs ∧ ∀ J, Walk X.w X.K (Bs m F' H') F' J rs false → Q J H' := fun {σ H Q} ⟨ρ, F, ok, h⟩ => by
    simp only [evI] at h
    refine ⟨ρ, F, ok, h.bind.keep.imp fun ds F1 H1 x1 ⟨e1, h1⟩ vs rv => ⟨e1, ?_⟩⟩
    cases q : rangeL ds with
    | ok rs => rw [q] at h1; exact ⟨rs, rfl, h1.ok x1.inn⟩
    | ex c fs => exact absurd q (rangeL_no _ _ _)
    | bad => rw [q] at h1; exact h1.elim
  have len := h.length
  have hline : (line : Int) < 2 ^ 62 := by decide
  match es, h, hl, ha, len with
  | [e1], h, _, ha, len =>
    obtain ⟨p1⟩ : ∃ p : plainB e1 = true, True := by cases h with | cons p _ _ => exact ⟨p, trivial⟩
    refine PI.weak (pi_range1 (pos := pos) (p := p0) g1 hm ha (star_plain p1)) fun σ H Q q => ?_
    obtain ⟨ρ, F, ok, q⟩ := key q
    refine ⟨ρ, F, ok, q.imp fun ds F1 H1 x1 h1 vs rv => ?_⟩
    obtain ⟨e1, rs, e2, h2⟩ := h1 vs rv
    have hl := evs_length e1
    rcases rangeL_ok e2 with ⟨n, rfl, hn, rfl⟩ | ⟨a, b, rfl, _⟩ | ⟨a, b, c, rfl, _⟩
    · match vs, rv with
      | [v], rv =>
        simp only [RepL, Rep] at rv
        exact ⟨n, by rw [rv.1], by omega, by omega, h2 _ (walk_rng 0 n.toNat)⟩
    · rw [len] at hl; simp at hl
    · rw [len] at hl; simp at hl
  | [e1, e2], h, _, ha, len =>
    obtain ⟨p1, p2⟩ : plainB e1 = true ∧ plainB e2 = true := by cases h with | cons p _ r => cases r with | cons p2 _ _ => exact ⟨p, p2⟩
    refine PI.weak (pi_range2 (pos := pos) (p := p0) g1 hm ha (by rw [star_plain p1, star_plain p2]; rfl) (by rw [star_plain p2]; rfl)) fun σ H Q q => ?_
    obtain ⟨ρ, F, ok, q⟩ := key q
    refine ⟨ρ, F, ok, q.imp fun ds F1 H1 x1 h1 vs rv => ?_⟩
    obtain ⟨e1, rs, e2, h2⟩ := h1 vs rv
    have hl := evs_length e1
    rcases rangeL_ok e2 with ⟨n, rfl, _⟩ | ⟨a, b, rfl, ha, hb, rfl⟩ | ⟨a, b, c, rfl, _⟩
    · rw [len] at hl; simp at hl
    · match vs, rv with
      | [v, u], rv =>
        simp only [RepL, Rep] at rv
        exact ⟨a, b, by rw [rv.1, rv.2.1], ⟨by omega, by omega, by omega, by omega⟩, h2 _ (walk_rng a (b - a).toNat)⟩
    · rw [len] at hl; simp at hl
  | [e1, e2, e3], h, _, ha, len =>
    obtain ⟨p1, p2, p3⟩ : plainB e1 = true ∧ plainB e2 = true ∧ plainB e3 = true := by cases h with | cons p _ r => cases r with | cons p2 _ r => cases r with | cons p3 _ _ => exact ⟨p, p2, p3⟩
    refine PI.weak (pi_range3 (pos := pos) (p := p0) g1 hm ha (star_plain p1) (by rw [star_plain p2, star_plain p3]; rfl)) fun σ H Q q => ?_
    obtain ⟨ρ, F, ok, q⟩ := key q
    refine ⟨ρ, F, ok, q.imp fun ds F1 H1 x1 h1 vs rv => ?_⟩
    obtain ⟨e1, rs, e2, h2⟩ := h1 vs rv
    have hl := evs_length e1
    rcases rangeL_ok e2 with ⟨n, rfl, _⟩ | ⟨a, b, rfl, _⟩ | ⟨a, b, c, rfl, hc, hc0, hs, rfl⟩
    · rw [len] at hl; simp at hl
    · rw [len] at hl; simp at hl
    · match vs, rv with
      | [v, u, z], rv =>
        simp only [RepL, Rep] at rv
        exact ⟨a, b, c, (Builtin.Range.rangeSize a b c).toNat, by rw [rv.1, rv.2.1, rv.2.2.1], ⟨hc0, Nat.lt_of_le_of_lt hc (by decide), hs, (Int.toNat_of_nonneg (size_nn a b c hc0)).symm⟩, h2 _ (walk_rngC a c _)⟩
  | [], _, hl, _, _ => simp at hl
  | _ :: _ :: _ :: _ :: _, _, hl, _, _ => simp at hl
theorem seq2_no (d : D) : NoEx (seq2 d) := by
  unfold seq2
  split <;> first | exact .ok | exact .bad
def tW1 (X : Cx) (M : Pm) (W : WX) (cl : Cl) (m : Md) (e : E) : TA := tCons (tW X M W cl m e) tNil
theorem s_enum {elts : List Expr} {kk : Nat} {tpos : Pos} (hx : Hx g sc X M W cl) (hm : m = .v ∨ m = .r) (hg : gloB sc "enumerate" = true) (hp : plainB e = true) (h : SE X M W cl x e) :
    PI X (.Tuple elts kk tpos) (.Call (.Name "enumerate" p0) [e] [] pos) (tI X M W cl m (.enum x)) := by
  obtain ⟨g1, g2⟩ := glo_i hg hx
  have mg : X.mg "enumerate" = none := hx.blt _ (by decide +kernel)
  have ha : PA X [e] (tCons (tW X M W cl m x) tNil) := pa_cons (h.w hm) pa_nil (star_plain hp)
  have hs : starEach [e] X.env = [(false, eval e X.env)] := by rw [star_plain hp]; rfl
  refine PI.weak (PI.or (pi_enum (pos := pos) (p := p0) g1 mg ha hs) (pi_enumT (pos := pos) (p := p0) g1 mg ha hs)) fun σ H Q ⟨ρ, F, ok, h⟩ => ?_
  simp only [evI] at h
  have h := h.bind.keep
  cases q : ev cl ρ m x with
  | bad => rw [q] at h; exact h.elim
  | ex c fs => refine .inl ⟨ρ, F, ok, ?_⟩; rw [q] at h ⊢; exact h
  | ok d =>
    cases d with
    | list ds =>
      refine .inl ⟨ρ, F, ok, h.imp fun d F1 H1 x1 ⟨e1, h1⟩ v rv => ?_⟩
      rw [q] at e1; injection e1 with e1; subst e1
      obtain ⟨a, xs, rfl, qa, ra⟩ := rv.list x1.inn
      exact ⟨a, xs, rfl, SqL.sub (Bs.sub x1.inn) qa, After.ok h1 x1.inn _ (walk_enum qa ra)⟩
    | tuple ds =>
      refine .inr ⟨ρ, F, ok, h.imp fun d F1 H1 x1 ⟨e1, h1⟩ v rv => ?_⟩
      rw [q] at e1; injection e1 with e1; subst e1
      obtain ⟨a, xs, rfl, qa, ra⟩ := rv.tuple x1.inn
      exact ⟨a, xs, rfl, SqT.sub (Bs.sub x1.inn) qa, After.ok h1 x1.inn _ (walk_enumT qa ra)⟩
    | _ => rw [q] at h; exact ((After.ok h ok.sub).2).elim

theorem RW.ext {w : World} {K : Fr} {F H F' H' : Hp} {v : V} {d : D} (x : Ext F H F' H') (h : RW w K m F H v d) : RW w K m F' H' v d := by
  cases m with
  | v => exact Rep.sub x.subF _ _ h
  | r => exact RepR.ext x h
  | t => exact RepR.ext x h
theorem s_zip {elts : List Expr} {kk : Nat} {tpos : Pos} (hx : Hx g sc X M W cl) (hm : m = .v ∨ m = .r) (hg : gloB sc "zip" = true) (hp : plainB e = true) (hp2 : plainB e2 = true) (h : SE X M W cl x e) (h2 : SE X M W cl y e2) :
    PI X (.Tuple elts kk tpos) (.Call (.Name "zip" p0) [e, e2] [] pos) (tI X M W cl m (.zip x y)) := by
  obtain ⟨g1, g2⟩ := glo_i hg hx
  have mg : X.mg "zip" = none := hx.blt _ (by decide +kernel)
  have ha : PA X [e, e2] (tCons (tW X M W cl m x) (tCons (tW X M W cl m y) tNil)) := pa_cons (h.w hm) (pa_cons (h2.w hm) pa_nil (star_plain hp2)) (star_plain hp)
  refine PI.weak (RZ.pi_zipA (pos := pos) (p := p0) g1 mg ha (star_plain hp) (by rw [star_plain hp2]; rfl)) fun σ H Q ⟨ρ, F, ok, h⟩ => ?_
  simp only [evI] at h
  refine ⟨ρ, F, ok, h.bind.imp fun d F1 H1 x1 h1 v rv => ⟨ρ, F1, ok.ext x1, h1.bind.imp fun d2 F2 H2 x2 h2 u ru => ?_⟩⟩
  have rv2 := rv.ext x2
  cases d <;> cases d2 <;> first | exact h2.elim | skip
  · obtain ⟨a, xs, rfl, qa, ra⟩ := rv2.list x2.inn
    obtain ⟨b, ys, rfl, qb, rb⟩ := ru.list x2.inn
    exact ⟨a, b, xs, ys, rfl, .inl ⟨SqL.sub (Bs.sub x2.inn) qa, SqL.sub (Bs.sub x2.inn) qb, After.ok h2 x2.inn _ (walk_zip qa ra qb rb)⟩⟩
  · obtain ⟨a, xs, rfl, qa, ra⟩ := rv2.tuple x2.inn
    obtain ⟨b, ys, rfl, qb, rb⟩ := ru.tuple x2.inn
    exact ⟨a, b, xs, ys, rfl, .inr ⟨SqT.sub (Bs.sub x2.inn) qa, SqT.sub (Bs.sub x2.inn) qb, After.ok h2 x2.inn _ (walk_zipT qa ra qb rb)⟩⟩

/-! ### targets -/
def slotsT : T → List Nat
  | .nm i => [i]
  | .tp ts => slotsTs ts
  | .st i j => [i, j]
where slotsTs : List T → List Nat
  | [] => []
  | t :: ts => slotsT t ++ slotsTs ts
def Off (vs : List Nat) (σ σ' : L2.St) : Prop := σ'.length = σ.length ∧ ∀ j, j ∉ vs → σ'[j]? = σ[j]?
theorem Off.refl {vs : List Nat} {σ : L2.St} : Off vs σ σ := ⟨rfl, fun _ _ => rfl⟩
theorem Off.trans {vs us : List Nat} {σ σ1 σ2 : L2.St} (a : Off vs σ σ1) (b : Off us σ1 σ2) : Off (vs ++ us) σ σ2 :=
  ⟨b.1.trans a.1, fun j h => by
    simp only [List.mem_append, not_or] at h
    rw [b.2 j h.2, a.2 j h.1]⟩
/-- the names that may be stored -/
structure Hg (g : Gc) (ts : Scope) (X : Cx) : Prop where
  N : X.N = g.N
  nd : g.N.Nodup
  loc : ∀ x, locB ts x = true → Loc X.env.scope x ∧ (X.fn x = true ∨ X.env.scope.names.lookup x = some .local)
theorem Ok.setF {w : World} {K : Fr} {F H : Hp} {σ : L2.St} {ρ : List Sl} {i : Nat} {v : V} {d : D} (ok : Ok w K M F H σ ρ) (r : Rep w K F v d) : Ok w K M F H (σ.set i (some v)) (ρ.set i (.fz d)) where
  sub := ok.sub
  base := ok.base
  baseF := ok.baseF
  grow := ok.grow
  len := by simp [ok.len]
  slot := fun j s e => by
    by_cases h : i = j
    · subst h
      have hl : i < ρ.length := by
        have := (List.getElem?_eq_some_iff.mp e).1
        simpa using this
      rw [List.getElem?_set_self hl] at e
      cases e
      refine ⟨v, ?_, r⟩
      rw [List.getElem?_set_self (by rw [← ok.len]; exact hl)]
    · rw [List.getElem?_set_ne h] at e ⊢
      exact ok.slot j s e
  sep := fun j k s t p q hjk e1 e2 h1 h2 e3 e4 => by
    have ne : ∀ {j : Nat} {s : Sl}, (ρ.set i (.fz d))[j]? = some s → s.held = true → j ≠ i := fun {j s} e h => by
      rintro rfl
      have hl : j < ρ.length := by
        have := (List.getElem?_eq_some_iff.mp e).1
        simpa using this
      rw [List.getElem?_set_self hl] at e
      cases e; cases h
    have n1 := Ne.symm (ne e1 h1)
    have n2 := Ne.symm (ne e2 h2)
    rw [List.getElem?_set_ne n1] at e1 e3
    rw [List.getElem?_set_ne n2] at e2 e4
    exact ok.sep j k s t p q hjk e1 e2 h1 h2 e3 e4
def tG (w : World) (K : Fr) (t : T) : TG := fun v σ H Q => ∃ M ρ F d ρ', Ok w K M F H σ ρ ∧ RepT t.tp? w K F v d ∧ bindT ρ t d = some ρ' ∧ ∀ σ', Ok w K M F H σ' ρ' → Off (slotsT t) σ σ' → Q σ' H
def tGs (w : World) (K : Fr) (ts : List T) : TGs := fun vs σ H Q => ∃ M ρ F ds ρ', Ok w K M F H σ ρ ∧ RepL w K F vs ds ∧ bindTs ρ ts ds = some ρ' ∧ ∀ σ', Ok w K M F H σ' ρ' → Off (slotsT.slotsTs ts) σ σ' → Q σ' H
theorem PG.weak {t t' : TG} (h : PG X tg t) (i : ∀ v σ H Q, t' v σ H Q → t v σ H Q) : PG X tg t' := ⟨fun pins s σ H v u Q I r q => h.run pins s σ H v u Q I r (i v σ H Q q)⟩
theorem PG.or {t t' : TG} (h : PG X tg t) (h' : PG X tg t') : PG X tg (fun v σ H Q => t v σ H Q ∨ t' v σ H Q) := ⟨fun pins s σ H v u Q I r q => q.elim (h.run pins s σ H v u Q I r) (h'.run pins s σ H v u Q I r)⟩
theorem PGs.weak {ts : List Expr} {t t' : TGs} (h : PGs X ts t) (i : ∀ v σ H Q, t' v σ H Q → t v σ H Q) : PGs X ts t' := ⟨fun pins s σ H v u Q I r q => h.run pins s σ H v u Q I r (i v σ H Q q)⟩
theorem assign_plain {e : Expr} {es : List Expr} {env : Env} (h : plainB e = true) : assignEach (e :: es) env = (false, assign e env) :: assignEach es env := by
  cases e <;> first | rfl | cases h
theorem bindTs_length : ∀ {ts : List T} {ds : List D} {ρ ρ' : List Sl}, bindTs ρ ts ds = some ρ' → ts.length = ds.length
  | [], [], _, _, _ => rfl
  | [], _ :: _, _, _, h => by simp only [bindTs] at h; cases h
  | _ :: _, [], _, _, h => by simp only [bindTs] at h; cases h
  | t :: ts, d :: ds, ρ, ρ', h => by
    simp only [bindTs] at h
    split at h
    · simp [bindTs_length h]
    · cases h
theorem chkTs_length {sc : Scope} : ∀ {ts : List T} {es : List Expr}, chkTs g sc ts es = true → ts.length = es.length
  | [], [], _ => rfl
  | [], _ :: _, h => by simp only [chkTs] at h; cases h
  | _ :: _, [], h => by simp only [chkTs] at h; cases h
  | t :: ts, e :: es, h => by
    simp only [chkTs, Bool.and_eq_true] at h
    simp [chkTs_length h.2]
mutual
theorem s_tg {ts : Scope} (hg : Hg g ts X) (hc : X.calm = true) : ∀ (t : T) (e : Expr), chkT g ts t e = true → PG X e (tG X.w X.K t)
  | .nm i, e, h => by
    cases e with
    | Name x p =>
      simp only [chkT, Bool.and_eq_true, decide_eq_true_eq] at h
      obtain ⟨l1, l2⟩ := hg.loc x h.2
      refine PG.weak (pg_name (i := i) (by rw [hg.N]; exact hg.nd) (by rw [hg.N]; exact h.1) l1 l2) fun v σ H Q ⟨M, ρ, F, d, ρ', ok, r, b, q⟩ => ?_
      simp only [bindT] at b
      have r : Rep X.w X.K F v d := r.elim id fun z => nomatch z.1
      split at b
      · injection b with b; subst b
        refine q _ (ok.setF r) ⟨by simp, fun j hj => ?_⟩
        rw [List.getElem?_set_ne]
        intro z; subst z; exact hj (by simp [slotsT])
      · cases b
    | _ => simp only [chkT] at h; cases h
  | .tp ts', e, h => by
    cases e with
    | Tuple es k p =>
      simp only [chkT] at h
      obtain ⟨q1, q2, q3⟩ := s_tgs hg hc ts' es h
      refine PG.weak (PG.or (pg_tup (n := es.length) hc q1 q2 q3) (pg_unl (n := es.length) hc q1 q2 q3)) fun v σ H Q ⟨M, ρ, F, d, ρ', ok, r, b, q⟩ => ?_
      have hl : ts'.length = es.length := chkTs_length h
      cases d with
      | tuple ds =>
        simp only [bindT] at b
        have r : ∃ a xs, v = .ref a ∧ SqT X.K F a xs ∧ RepL X.w X.K F xs ds := by
          rcases r with r | ⟨_, ds', a, xs, e, e1, q1, r1⟩
          · simp only [Rep] at r
            obtain ⟨a, xs, e, q, r⟩ := r
            exact ⟨a, xs, e, q.t, r⟩
          · cases e; exact ⟨a, xs, e1, q1, r1⟩
        obtain ⟨a, xs, rfl, qa, ra⟩ := r
        exact .inl ⟨a, xs, rfl, SqT.sub ok.sub qa, by rw [ra.length, ← bindTs_length b, hl], M, ρ, F, ds, ρ', ok, ra, b, fun σ' o f => q σ' o (by simpa only [slotsT] using f)⟩
      | list ds =>
        simp only [bindT] at b
        have r : Rep X.w X.K F v (.list ds) := r.elim id fun ⟨_, _, _, _, z, _⟩ => nomatch z
        simp only [Rep] at r
        obtain ⟨a, xs, rfl, qa, ra⟩ := r
        exact .inr ⟨a, xs, rfl, SqL.sub ok.sub qa, by rw [ra.length, ← bindTs_length b, hl], M, ρ, F, ds, ρ', ok, ra, b, fun σ' o f => q σ' o (by simpa only [slotsT] using f)⟩
      | _ => simp only [bindT] at b; cases b
    | _ => simp only [chkT] at h; cases h
  | .st i j, e, h => by cases e <;> simp only [chkT] at h <;> cases h
theorem s_tgs {ts : Scope} (hg : Hg g ts X) (hc : X.calm = true) : ∀ (t : List T) (es : List Expr), chkTs g ts t es = true → PGs X es (tGs X.w X.K t) ∧ (assignEach es X.env).length = es.length ∧ (assignEach es X.env).findIdx? (·.1) = none
  | [], [], _ => by
    refine ⟨PGs.weak pgs_nil fun v σ H Q ⟨M, ρ, F, d, ρ', ok, r, b, q⟩ => ?_, rfl, rfl⟩
    cases d with
    | nil =>
      simp only [bindTs, Option.some.injEq] at b
      subst b
      have := r.length
      exact ⟨List.eq_nil_of_length_eq_zero this, q σ ok .refl⟩
    | cons d ds => simp only [bindTs] at b; cases b
  | [], _ :: _, h => by simp only [chkTs] at h; cases h
  | _ :: _, [], h => by simp only [chkTs] at h; cases h
  | t :: ts', e :: es, h => by
    simp only [chkTs, Bool.and_eq_true] at h
    have h1 := s_tg hg hc t e h.1.2
    obtain ⟨h2, h3, h4⟩ := s_tgs hg hc ts' es h.2
    refine ⟨PGs.weak (pgs_cons h1 h2 (by rw [assign_plain h.1.1]; rfl)) fun v σ H Q ⟨M, ρ, F, d, ρ', ok, r, b, q⟩ => ?_, by rw [assign_plain h.1.1]; simp [h3], by rw [assign_plain h.1.1]; simp [List.findIdx?_cons, h4]⟩
    cases d with
    | nil => simp only [bindTs] at b; cases b
    | cons d ds =>
      simp only [bindTs] at b
      cases q1 : bindT ρ t d with
      | none => rw [q1] at b; cases b
      | some ρ1 =>
        rw [q1] at b
        cases v with
        | nil => simp only [RepL] at r
        | cons v vs =>
          simp only [RepL] at r
          exact ⟨v, vs, rfl, M, ρ, F, d, ρ1, ok, .inl r.1, q1, fun σ1 ok1 f1 => ⟨M, ρ1, F, ds, ρ', ok1, r.2, b, fun σ2 ok2 f2 => q σ2 ok2 (f1.trans f2)⟩⟩
end
theorem tp_ok {sc1 sc2 : Scope} {t : T} {it : I} {e tg : Expr} (h : chkT g sc1 t tg = true) (h' : chkI g sc2 it e tg = true) : it.tp? = true → t.tp? = true := by
  intro z
  have hT : ∃ es k p, tg = .Tuple es k p := by
    cases it with
    | seq x => cases z
    | rng x => cases z
    | enum x => simp only [chkI] at h'; split at h' <;> first | (split at h' <;> first | exact ⟨_, _, _, rfl⟩ | cases h') | cases h'
    | zip x y => simp only [chkI] at h'; split at h' <;> first | (split at h' <;> first | exact ⟨_, _, _, rfl⟩ | cases h') | cases h'
    | items x => simp only [chkI] at h'; split at h' <;> first | (split at h' <;> first | exact ⟨_, _, _, rfl⟩ | cases h') | cases h'
  obtain ⟨es, k, p, rfl⟩ := hT
  cases t with
  | tp ts => rfl
  | nm i => simp only [chkT] at h; cases h
  | st i j => simp only [chkT] at h; cases h
end
end Ad
set_option Elab.async false
set_option linter.all false
set_option maxRecDepth 100000
set_option maxHeartbeats 4000000
namespace Ad
open PySem PySem.Spec PyProof.Rows L2
def Wf : WX := fun _ _ _ _ => False
section
variable {g : Gc} {sc : Scope} {X : Cx} {M : Pm} {W : WX} {cl : Cl} {pos p0 : Pos}
theorem Hx.blk (hx : Hx g sc X M W cl) (hc : g.calm = true) {scope : Scope} {own : List (Str × Nat)} (ok : BlkOk X.N X.env.scope scope own) (Z : Zt) (s : Shared) (H : Hp) (C : Addr) (cs : List (Str × Addr)) (fp : List Addr) :
    Hx g (relS scope sc) (X.blk s H scope (compEnvC scope cs C X.env) fp) { M with Z := Z } Wf cl where
  N := hx.N
  nd := hx.nd
  sc := by rw [← hx.sc]; rfl
  kind := ok.kind
  calm := hx.calm
  tk := fun u s' ⟨a, B, sI, pins, σ, H, cls, d, e, I, nb, up, sky, na, os, ag, w⟩ => w.elim
  un := hx.un
  lst := hx.lst
  py := ⟨hx.py.k, hx.py.dp, hx.py.tr, hx.py.fr⟩
  glob := hx.glob
  blt := hx.blt
  hd := hx.hd
  fnk := hx.fnk
  bk := hx.bk
  ve := hx.ve
  exq := fun a C d _ z => by rw [hc] at z; cases z
  fn := hx.fn
theorem Hg.blk (hx : Hx g sc X M W cl) {scope : Scope} {own : List (Str × Nat)} (s : Shared) (H : Hp) (C : Addr) (cs : List (Str × Addr)) (fp : List Addr) :
    Hg g scope (X.blk s H scope (compEnvC scope cs C X.env) fp) where
  N := hx.N
  nd := hx.nd
  loc := fun x h => by
    have e : (X.blk s H scope (compEnvC scope cs C X.env) fp).env.scope = relS scope X.env.scope := rfl
    have k : ∀ nk, nk ≠ .free → scope.names.lookup x = some nk → (relS scope X.env.scope).names.lookup x = some nk := fun nk hn q => lookup_relS_keep hn q
    unfold locB at h
    rw [e]
    split at h
    · rename_i q
      have := k _ (by intro z; cases z) q
      exact ⟨.inl this, .inr this⟩
    · rename_i q
      have := k _ (by intro z; cases z) q
      refine ⟨.inr this, .inl ?_⟩
      show (scope.names.lookup x == some .cell) = true
      rw [q]; rfl
    · cases h
/-- the tests of a comprehension -/
def tF (X : Cx) (M : Pm) (cl : Cl) (ifs : List E) : TT := fun σ H Q => ∃ Z ρ F, Ok X.w X.K { M with Z := Z } F H σ ρ ∧ After X.w X.K { M with Z := Z } Wf σ F H (evFs cl ρ ifs) fun b F' H' => Q b H'
theorem s_ifs {xs : List E} {es : List Expr} (hl : es.length ≤ 1) (h : ∀ Z, SEs X { M with Z := Z } Wf cl xs es) : PTs X es (tF X M cl xs) := by
  have h0 := h M.Z
  cases h0 with
  | nil => exact ⟨fun pins s σ H Q I ⟨Z, ρ, F, ok, q⟩ => pts_nil.run pins s σ H Q I (by simp only [evFs] at q; exact q.ok ok.sub)⟩
  | cons p hs r =>
    cases r with
    | nil =>
      refine ⟨fun pins s σ H Q I ⟨Z, ρ, F, ok, q⟩ => ?_⟩
      have hz := h Z
      cases hz with
      | cons _ hz _ =>
        refine (pts_one hz.t).run pins s σ H Q I ⟨ρ, F, ok, ?_⟩
        simp only [evFs] at q
        exact q.bind.imp fun d F1 H1 x1 h1 => h1.ok x1.inn
    | cons p2 hs2 r2 => simp at hl
def tZ (X : Cx) (M : Pm) (cl : Cl) (e : E) : TE := fun σ H Q => ∃ Z, tV X { M with Z := Z } Wf cl e σ H Q
theorem s_tz {x : E} {e : Expr} (h : ∀ Z, SE X { M with Z := Z } Wf cl x e) : PE X e (tZ X M cl x) := ⟨fun pins s σ H Q I ⟨Z, q⟩ => (h Z).v.run pins s σ H Q I q⟩

/-! ### slots wiped, lent -/
theorem wipe_get (σ : L2.St) : ∀ (vs : List Nat) (j : Nat), j ∉ vs → (wipe σ vs)[j]? = σ[j]?
  | [], j, _ => rfl
  | v :: vs, j, h => by
    simp only [List.mem_cons, not_or] at h
    unfold wipe
    rw [List.getElem?_set_ne (Ne.symm h.1), wipe_get σ vs j h.2]
theorem wipeS_get (ρ : List Sl) : ∀ (vs : List Nat) (j : Nat), j ∉ vs → (wipeS ρ vs)[j]? = ρ[j]?
  | [], j, _ => rfl
  | v :: vs, j, h => by
    simp only [List.mem_cons, not_or] at h
    unfold wipeS
    rw [List.getElem?_set_ne (Ne.symm h.1), wipeS_get ρ vs j h.2]
theorem wipeS_length (ρ : List Sl) : ∀ (vs : List Nat), (wipeS ρ vs).length = ρ.length
  | [] => rfl
  | v :: vs => by unfold wipeS; rw [List.length_set, wipeS_length ρ vs]
theorem wipeS_in (ρ : List Sl) : ∀ (vs : List Nat) (j : Nat) (s : Sl), j ∈ vs → (wipeS ρ vs)[j]? = some s → s = .un
  | [], j, s, h, _ => by cases h
  | v :: vs, j, s, h, e => by
    unfold wipeS at e
    by_cases z : v = j
    · subst z
      have hl : v < (wipeS ρ vs).length := by
        have := (List.getElem?_eq_some_iff.mp e).1
        simpa using this
      rw [List.getElem?_set_self hl] at e
      cases e; rfl
    · rw [List.getElem?_set_ne z] at e
      have : j ∈ vs := by
        cases h with
        | head => exact absurd rfl z
        | tail _ h => exact h
      exact wipeS_in ρ vs j s this e
theorem wipe_eq {σ σ' : L2.St} {us : List Nat} (o : Off us σ σ') : ∀ {vs : List Nat}, (∀ j ∈ us, j ∈ vs) → wipe σ' vs = wipe σ vs := fun {vs} hs => by
  apply List.ext_getElem?
  intro j
  by_cases h : j ∈ vs
  · have key : ∀ (τ : L2.St) (ws : List Nat), j ∈ ws → j < τ.length → (wipe τ ws)[j]? = some none := fun τ ws => by
      induction ws with
      | nil => intro h; cases h
      | cons w ws ih =>
        intro h hl
        unfold wipe
        by_cases z : w = j
        · subst z; rw [List.getElem?_set_self (by rw [wipe_length]; exact hl)]
        · rw [List.getElem?_set_ne z]
          cases h with
          | head => exact absurd rfl z
          | tail _ h => exact ih h hl
    by_cases hl : j < σ.length
    · rw [key σ' vs h (by rw [o.1]; exact hl), key σ vs h hl]
    · rw [List.getElem?_eq_none (by rw [wipe_length, o.1]; omega), List.getElem?_eq_none (by rw [wipe_length]; omega)]
  · rw [wipe_get _ _ _ h, wipe_get _ _ _ h, o.2 j fun z => h (hs j z)]
theorem wipe_idem (σ : L2.St) (vs : List Nat) : wipe (wipe σ vs) vs = wipe σ vs := by
  have h : Off vs σ (wipe σ vs) := ⟨wipe_length σ vs, fun j hj => wipe_get σ vs j hj⟩
  exact wipe_eq h fun j hj => hj
theorem ext_mut {F H F' H' : Hp} {p : Addr} {o : HO} (x : Ext F H F' H') (h0 : H p = none) (hf : F' p = none) : Ext F H F' (upd H' p o) where
  sub := fun a u e => by
    have : a ≠ p := fun z => by subst z; rw [e] at h0; cases h0
    rw [upd_ne this]; exact x.sub _ _ e
  subF := x.subF
  inn := fun a u e => by
    have : a ≠ p := fun z => by subst z; rw [e] at hf; cases hf
    rw [upd_ne this]; exact x.inn _ _ e
  grow := x.grow
theorem Ok.block {w : World} {K : Fr} {F H : Hp} {σ : L2.St} {ρ : List Sl} (ok : Ok w K M F H σ ρ) (vs : List Nat) : Ok w K { M with Z := ⟨F, H⟩ } F H (wipe σ vs) (wipeS (lend ρ) vs) where
  sub := ok.sub
  base := .refl
  baseF := .refl
  grow := fun a h => .inl h
  len := by rw [wipeS_length, wipe_length]; simp [lend, ok.len]
  slot := fun j s e => by
    by_cases h : j ∈ vs
    · cases wipeS_in _ vs j s h e
      trivial
    · rw [wipeS_get _ _ _ h] at e
      rw [wipe_get _ _ _ h]
      unfold lend at e
      rw [List.getElem?_map] at e
      cases q : ρ[j]? with
      | none => rw [q] at e; cases e
      | some t =>
        rw [q] at e
        have := ok.slot j t q
        simp only [Option.map_some, Option.some.injEq] at e
        subst e
        cases t with
        | ow d => obtain ⟨p, h1, h2, h3, h4⟩ := this; exact ⟨p, h1, h2, h4⟩
        | un => trivial
        | fz d => exact this
        | ln d => exact this
        | fn f => exact this
        | ex c fs => exact this
  sep := fun i j s t p q hij e1 e2 h1 h2 e3 e4 => by
    have out : ∀ {i : Nat} {s : Sl}, (wipeS (lend ρ) vs)[i]? = some s → s.held = true → i ∉ vs ∧ ∃ t, ρ[i]? = some t ∧ t.held = true := fun {i s} e h => by
      by_cases z : i ∈ vs
      · cases wipeS_in _ vs i s z e; cases h
      · refine ⟨z, ?_⟩
        rw [wipeS_get _ _ _ z] at e
        unfold lend at e
        rw [List.getElem?_map] at e
        cases q : ρ[i]? with
        | none => rw [q] at e; cases e
        | some t =>
          rw [q] at e
          simp only [Option.map_some, Option.some.injEq] at e
          subst e
          refine ⟨t, rfl, ?_⟩
          cases t <;> first | exact h | rfl
    obtain ⟨n1, t1, q1, k1⟩ := out e1 h1
    obtain ⟨n2, t2, q2, k2⟩ := out e2 h2
    rw [wipe_get _ _ _ n1] at e3
    rw [wipe_get _ _ _ n2] at e4
    exact ok.sep i j t1 t2 p q hij q1 q2 k1 k2 e3 e4
theorem filtD_no {α : Type} (f : D → R (Option α)) : ∀ ds, NoEx (filtD f ds)
  | [] => .ok
  | d :: r => by
    simp only [filtD]
    split
    · exact (filtD_no f r).bind fun _ => .ok
    · exact .bad
/-- one turn of a comprehension -/
def lcF (cl : Cl) (ρ : List Sl) (t : T) (own : List Nat) (ifs : List E) (elt : E) (d : D) : R (Option D) := match bindT (wipeS (lend ρ) own) t d with
  | some ρ' => (evFs cl ρ' ifs).bind fun b => if b then (ev cl ρ' .v elt).bind fun x => .ok (some x) else .ok none
  | none => .bad
theorem filtD_cons {α : Type} {f : D → R (Option α)} {d : D} {r : List D} {ys : List α} (h : filtD f (d :: r) = .ok ys) : ∃ o zs, f d = .ok o ∧ filtD f r = .ok zs ∧ ys = (match o with | some y => y :: zs | none => zs) := by
  simp only [filtD] at h
  cases q : f d with
  | ok o =>
    rw [q] at h
    cases q2 : filtD f r with
    | ok zs => rw [q2] at h; injection h with h; exact ⟨o, zs, rfl, rfl, h.symm⟩
    | ex c fs => rw [q2] at h; cases h
    | bad => rw [q2] at h; cases h
  | ex c fs => rw [q] at h; cases h
  | bad => rw [q] at h; cases h
theorem ownOf_eq {N : List Str} : ∀ {own : List Nat}, (∀ v ∈ own, v < N.length) → (ownOf N own).map (·.2) = own
  | [], _ => rfl
  | v :: vs, h => by
    have hv := h v (by simp)
    have ih := ownOf_eq (N := N) (own := vs) fun u hu => h u (by simp [hu])
    unfold ownOf at ih ⊢
    simp only [List.filterMap_cons, List.getElem?_eq_getElem hv, Option.map_some, List.map_cons, ih]
theorem ev_lc (cl : Cl) (ρ : List Sl) (m : Md) (elt : E) (t : T) (it : I) (ifs : List E) (own : List Nat) : ev cl ρ m (.lc elt t it ifs own) = (evI cl ρ .r it).bind fun ds => (filtD (lcF cl ρ t own ifs elt) ds).bind fun xs => if fits ds.length then m.fin (.list xs) else .bad := by
  simp only [ev]; rfl
theorem lc_read {elt : E} {t : T} {it : I} {ifs : List E} {own : List Nat} (hsub : ∀ j ∈ slotsT t, j ∈ own) (htp : it.tp? = true → t.tp? = true) {σ : L2.St} {H : Hp} {Q : VK} (h : tO X M W cl (.lc elt t it ifs own) σ H Q) :
    tLc (tI X M W cl .r it) (tG X.w X.K t) (tF X M cl ifs) (tZ X M cl elt) own σ H Q := by
  obtain ⟨ρ, F, ok, h⟩ := h
  rw [ev_lc] at h
  refine ⟨ρ, F, ok, h.bind.imp fun ds F1 H1 x1 h1 J hJ D hD => ?_⟩
  cases qf : filtD (lcF cl ρ t own ifs elt) ds with
  | ex c fs => exact absurd qf (filtD_no _ _ _ _)
  | bad => rw [qf] at h1; exact h1.elim
  | ok all =>
  rw [qf] at h1
  cases hfit : fits ds.length with
  | false => simp only [bind_ok, hfit] at h1; exact h1.elim
  | true =>
  simp only [bind_ok, hfit, if_true, fin_v] at h1
  have hfit : ds.length ≤ sizeLine := by rw [← line_eq]; exact of_decide_eq_true hfit
  have hFD : F1 D = none := by
    cases e : F1 D with
    | none => rfl
    | some o => rw [x1.inn _ _ e] at hD; cases hD
  have hH0 : H D = none := by
    cases e : H D with
    | none => rfl
    | some o => rw [x1.sub _ _ e] at hD; cases hD
  -- the invariant
  refine ⟨fun i k Hi => k = ds.length - i ∧ i ≤ ds.length ∧ ∃ Fi acc ys rest, Ext F1 H1 Fi Hi ∧ Hi D = some (.lst acc) ∧ Fi D = none ∧ RepL X.w X.K Fi acc ys ∧ ys.length ≤ i ∧ filtD (lcF cl ρ t own ifs elt) (ds.drop i) = .ok rest ∧ ys ++ rest = all,
    ⟨ds.length, rfl, Nat.zero_le _, F1, [], [], all, Ext.newO x1.inn hD, upd_same, hFD, by simp only [RepL], Nat.zero_le _, by simpa using qf, rfl⟩, ?_⟩
  rintro i k Hi ⟨rfl, hi, Fi, acc, ys, rest, xi, hDi, hFi, ri, hyi, qi, ei⟩
  by_cases hlt : i < ds.length
  · right
    have hgo : J.go i Hi := hJ.go i Hi hlt xi.sub
    obtain ⟨d, r, hdr⟩ : ∃ d r, ds.drop i = d :: r := ⟨ds[i], ds.drop (i + 1), by rw [List.drop_eq_getElem_cons hlt]⟩
    have hd : ds[i]? = some d := by
      have := congrArg (fun l => l[0]?) hdr
      simpa using this
    have hr : ds.drop (i + 1) = r := by
      have := congrArg List.tail hdr
      simpa using this
    rw [hdr] at qi
    obtain ⟨o, zs, qo, qz, er⟩ := filtD_cons qi
    refine ⟨hgo, fun Hn => ∃ Fi acc ys rest, Ext F1 H1 Fi Hn ∧ Hn D = some (.lst acc) ∧ Fi D = none ∧ RepL X.w X.K Fi acc ys ∧ ys.length ≤ i + 1 ∧ filtD (lcF cl ρ t own ifs elt) (ds.drop (i + 1)) = .ok rest ∧ ys ++ rest = all, fun Hn hn => ⟨ds.length - (i + 1), by omega, rfl, hlt, hn⟩, fun x H' hy => ?_⟩
    obtain ⟨F2, x2, rx⟩ := hJ.yld i Hi x H' Fi d hd xi.sub xi.subF xi.inn hy
    have ok2 := ((ok.ext x1).ext (xi.trans x2)).block own
    unfold lcF at qo
    cases qb : bindT (wipeS (lend ρ) own) t d with
    | none => rw [qb] at qo; cases qo
    | some ρ' =>
      rw [qb] at qo
      refine ⟨_, _, F2, d, ρ', ok2, rx.mono htp, qb, fun σ2 ok3 off => ⟨(wipe_eq off hsub).trans (wipe_idem σ own), ⟨F2, H'⟩, ρ', F2, ok3, ?_⟩⟩
      simp only at qo
      cases qe : evFs cl ρ' ifs with
      | ex c fs => rw [qe] at qo; cases qo
      | bad => rw [qe] at qo; cases qo
      | ok b =>
        rw [qe] at qo
        intro F3 H3 x3
        cases b with
        | false =>
          simp only [bind_ok, Bool.false_eq_true, if_false] at qo ⊢
          injection qo with qo; subst qo
          have y3 := x2.trans x3
          refine ⟨F3, acc, ys, zs, xi.trans y3, y3.sub _ _ hDi, y3.stays hFi (by rw [hDi]; intro z; cases z), RepL.sub y3.subF _ _ ri, by omega, by rw [hr]; exact qz, ?_⟩
          rw [← ei, er]
        | true =>
          simp only [bind_ok, if_true] at qo ⊢
          cases qv : ev cl ρ' .v elt with
          | ex c fs => rw [qv] at qo; cases qo
          | bad => rw [qv] at qo; cases qo
          | ok dd =>
            rw [qv] at qo
            simp only [bind_ok] at qo
            injection qo with qo; subst qo
            refine ⟨⟨F2, H'⟩, ρ', F3, ok3.ext x3, ?_⟩
            rw [qv]
            intro F4 H4 x4 v rv
            have y4 := (x2.trans x3).trans x4
            have hF4 : F4 D = none := y4.stays hFi (by rw [hDi]; intro z; cases z)
            have hl := ri.length
            refine ⟨acc, y4.sub _ _ hDi, by omega, F4, acc ++ [v], ys ++ [dd], zs, ext_mut (xi.trans y4) hD hF4, upd_same, hF4, (RepL.sub y4.subF _ _ ri).append (by simp only [RepL]; exact ⟨rv, trivial⟩), by simp; omega, by rw [hr]; exact qz, ?_⟩
            rw [← ei, er]; simp
  · have e : i = ds.length := by omega
    subst e
    left
    refine ⟨hJ.stop Hi xi.sub, ?_⟩
    simp only [List.drop_length, filtD] at qi
    injection qi with qi; subst qi
    rw [List.append_nil] at ei; subst ei
    exact (h1 Fi Hi xi).2 D hH0 hFi ⟨acc, hDi, ri⟩
theorem s_lc {elt : E} {t : T} {it : I} {ifs : List E} {own : List Nat} {el tg iter : Expr} {fs : List Expr} {scope : Scope} (hx : Hx g sc X M W cl) (hc : g.calm = true) (hb : blkC g.N sc scope (ownOf g.N own) = true) (hset : notSet iter = true)
    (hown : ∀ v ∈ own, v < g.N.length) (hsub : ∀ j ∈ slotsT t, j ∈ own) (ht : chkT g scope t tg = true) (htp : it.tp? = true → t.tp? = true) (hi : PI X tg iter (tI X M W cl .r it)) (hl : fs.length ≤ 1)
    (hf : ∀ X' M', Hx g (relS scope sc) X' M' Wf cl → SEs X' M' Wf cl ifs fs) (he : ∀ X' M', Hx g (relS scope sc) X' M' Wf cl → SE X' M' Wf cl elt el) :
    SE X M W cl (.lc elt t it ifs own) (.ListComp el [⟨tg, iter, fs, 0⟩] scope pos) := by
  have hq : X.calm = true := hx.calm.trans hc
  have ok : BlkOk X.N X.env.scope scope (ownOf g.N own) := by rw [hx.N, hx.sc]; exact blkOk_by hb
  have hN : X.N.Nodup := by rw [hx.N]; exact hx.nd
  have base := pe_lc (X := X) (pos := pos) (wi := tI X M W cl .r it) (g := tG X.w X.K t) (tt := tF X M cl ifs) (te := tZ X M cl elt) hq hN hi ok
    (fun s H C cs fp => s_tg (Hg.blk hx (own := ownOf g.N own) s H C cs fp) hq t tg ht)
    (fun s H C cs fp => s_ifs hl fun Z => hf _ _ (hx.blk hc ok Z s H C cs fp))
    (fun s H C cs fp => s_tz fun Z => he _ _ (hx.blk hc ok Z s H C cs fp))
    (by intro x; cases iter <;> first | rfl | cases hset)
  rw [ownOf_eq hown] at base
  have eq := fun ρ m => ev_lc cl ρ m elt t it ifs own
  refine SE.ofO hx (base.weak fun σ H Q h => lc_read hsub htp h) (fun ρ d q => ?_) (fun ρ => by rw [eq, eq]; rfl) (fun ρ => ?_) (fun _ => rfl)
  · rw [eq] at q
    cases z : evI cl ρ .r it with
    | ok ds =>
      rw [z] at q
      cases z2 : filtD (lcF cl ρ t own ifs elt) ds with
      | ok xs =>
        simp only [bind_ok, z2] at q
        split at q
        · rw [fin_v] at q; injection q with q; subst q; rfl
        · cases q
      | ex c fs => simp only [bind_ok, z2] at q; cases q
      | bad => simp only [bind_ok, z2] at q; cases q
    | ex c fs => rw [z] at q; cases q
    | bad => rw [z] at q; cases q
  · rw [eq, eq]
    simp only [bind_assoc]
    congr
    funext ds
    congr
    funext xs
    split
    · rfl
    · rfl
end
end Ad
set_option Elab.async false
set_option linter.all false
set_option maxRecDepth 100000
set_option maxHeartbeats 400000
/-! Displays of dicts. -/
namespace Ad
open PySem PySem.Spec PyProof.Rows L2
section
variable {X : Cx} {pins : List (Addr × Obj)} {σ : L2.St} {F : Hp} {p : Addr} {k d : D}
theorem dd_set {H : Hp} {s : Shared} {es : List DictEntry} {ep : Nat} {kvs : List (D × D)} {kv v : V} {u r : Value} {Q : Unit → Shared → Prop} {E : Value → Shared → Prop} (hu : X.A.units + 200 < cLine) (I : Inv X pins σ H s) (hF : Sub F H) (hsm : (p == sysModules) = false) (hp : H p = some (dHO p es ep))
    (rp : RepP X.w X.K F es kvs) (hi : Rep X.w X.K F kv k) (ri : RelV kv u) (hv : Rep X.w X.K F v d) (rv : RelV v r) (ok : okK k kvs = true) (hz : kvs.length + 1 ≤ sizeLine)
    (q : ∀ es' ep' s', Inv X pins σ (upd H p (dHO p es' ep')) s' → RepP X.w X.K F es' (putK k d kvs) → Q () s') : wpAny (model X.prog X.w) X.A (dictSet p u r) Q E s := by
  have hd : DcAt X.K H p es ep := ⟨hsm, .inl hp⟩
  have at' := Inv.dAt I hd
  have srt := rp.sort ok
  have hk := okK_keyed ok
  have hl := RepP.length rp
  cases c : keyF k with
  | true =>
    rw [c] at srt
    cases rep_flat c hi
    have dd := dict_flat (P := X.prog) at' rp srt
    obtain ⟨f1, f2⟩ := RepP.find c rp srt
    refine wpAny_dictSet_pairs (hsz := by rw [vks_len hl]; omega) (kV_is ri) dd fun h' dd' hs => ?_
    obtain ⟨o', es', ep', g1, g2, g3, g4, g5, g6⟩ := dd'
    rw [exact_obj g2 g3] at g1
    have hkv : valueAt (vks es kvs) (keyK k) = none ↔ findK k kvs = none := by
      refine ⟨fun z => ?_, f2⟩
      cases z2 : findK k kvs with
      | none => rfl
      | some d' =>
        obtain ⟨u', y', z1, _⟩ := f1 d' z2
        rw [z] at z1; cases z1
    refine q _ _ _ (d_write I (ob := dHO p es'.toList ep') (by rw [hp]; exact trivial) hs ⟨_, g1⟩ (dho_ok g1)) (back_flat X.prog g5 (fun e he => g4 e (by simpa using he)) (vr_put hk c rp.vr rp.wf srt hkv rv hv) (WfK.put hk rp.wf (by rw [c]; exact srt)) fun x hx => ?_)
    rcases putK_key hk hx with z | ⟨y, hy, z⟩
    · rw [z]; exact c
    · rw [← z]; exact srt y hy
  | false =>
    rw [c] at srt
    obtain ⟨b, rfl⟩ := rep_tup hk c hi
    cases ri
    have dd := dict_tup I hF at' rp srt
    obtain ⟨f1, f2⟩ := RepP.findT hk rp
    refine wpAny_dictSet_heap (hsz := by rw [xks_len hl]; omega) (show X.A.units + 8 < cLine by omega) (Rep.isNk I hF hk hi) dd fun h' dd' hs => ?_
    obtain ⟨o', es', ep', g1, g2, g3, g4, g5, g6⟩ := dd'
    rw [exact_obj g2 g3] at g1
    have hkv : atKey (xks es kvs) (nkey k) = none ↔ findK k kvs = none := by
      refine ⟨fun z => ?_, f2⟩
      cases z2 : findK k kvs with
      | none => rfl
      | some d' =>
        obtain ⟨b', u', y', z1, _⟩ := f1 d' z2
        rw [z] at z1; cases z1
    refine q _ _ _ (d_write I (ob := dHO p es'.toList ep') (by rw [hp]; exact trivial) hs ⟨_, g1⟩ (dho_ok g1)) ?_
    rw [g4]
    refine back_tup X.prog (xr_put hk (rp.xr srt) rp.wf hkv hi rv hv) (WfK.put hk rp.wf (by rw [c]; exact srt)) fun x hx => ?_
    rcases putK_key hk hx with z | ⟨y, hy, z⟩
    · rw [z]; exact c
    · rw [← z]; exact srt y hy
def RepPs (w : World) (K : Fr) (F : Hp) : List (V × V) → List (D × D) → Prop
  | [], [] => True
  | (x, y) :: vs, (k, d) :: ds => Rep w K F x k ∧ Rep w K F y d ∧ RepPs w K F vs ds
  | _, _ => False
theorem upd_upd {H : Hp} {p : Addr} {o o' : HO} : upd (upd H p o) p o' = upd H p o' := by
  funext a
  by_cases e : a = p
  · subst e; rw [upd_same, upd_same]
  · rw [upd_ne e, upd_ne e, upd_ne e]
theorem sub_upd {H : Hp} {o : HO} (hF : Sub F H) (hp : F p = none) : Sub F (upd H p o) := fun a u e => by
  have : a ≠ p := fun z => by subst z; rw [hp] at e; cases e
  rw [upd_ne this]; exact hF _ _ e
theorem dd_all {E : Value → Shared → Prop} (hu : X.A.units + 200 < cLine) (hFp : F p = none) (hsm : (p == sysModules) = false) (ds : List (D × D)) : ∀ (ps : List (V × V)) (ws : List (Value × Value)) (es : List DictEntry) (ep : Nat) (kvs kvs' : List (D × D)) (s : Shared) (H : Hp) (Q : PUnit → Shared → Prop),
    Inv X pins σ H s → Sub F H → H p = some (dHO p es ep) → RepP X.w X.K F es kvs → VV ps ws → RepPs X.w X.K F ps ds → putsD ds kvs = .ok (.dict kvs') → kvs.length ≤ sizeLine →
    (∀ es' ep' s', Inv X pins σ (upd H p (dHO p es' ep')) s' → RepP X.w X.K F es' kvs' → kvs'.length ≤ sizeLine → Q PUnit.unit s') → wpAny (model X.prog X.w) X.A (storeAll p ws) Q E s := by
  induction ds with
  | nil =>
    intro ps ws es ep kvs kvs' s H Q I hF hp rp rel hr h hz q
    cases ps with
    | cons a b => exact hr.elim
    | nil =>
      cases rel
      simp only [putsD] at h
      injection h with h; injection h with h; subst h
      unfold storeAll
      rw [List.forIn_nil]
      have e : upd H p (dHO p es ep) = H := by
        funext a
        by_cases z : a = p
        · subst z; rw [upd_same, hp]
        · rw [upd_ne z]
      exact wpAny_pure (q es ep s (by rw [e]; exact I) rp hz)
  | cons kd ds ih =>
    intro ps ws es ep kvs kvs' s H Q I hF hp rp rel hr h hz q
    obtain ⟨k, d⟩ := kd
    cases ps with
    | nil => exact hr.elim
    | cons a b =>
      obtain ⟨x, y⟩ := a
      cases rel with
      | @cons _ w2 _ ws2 z1 z2 =>
        simp only [putsD] at h
        split at h
        · rename_i c
          simp only [Bool.and_eq_true] at c
          have hl : kvs.length + 1 ≤ sizeLine := by rw [← line_eq]; exact of_decide_eq_true c.2
          unfold storeAll
          rw [List.forIn_cons]
          refine wpAny_bind (wpAny_bind (dd_set hu I hF hsm hp rp hr.1 z1.1 hr.2.1 z1.2 c.1 hl fun es1 ep1 s1 I1 rp1 => wpAny_pure ?_))
          refine ih b ws2 es1 ep1 (putK k d kvs) kvs' s1 _ Q I1 (sub_upd hF hFp) upd_same rp1 z2 hr.2.2 h (Nat.le_trans (putK_length k d kvs) hl) fun es2 ep2 s2 I2 rp2 hz2 => ?_
          rw [upd_upd] at I2
          exact q es2 ep2 s2 I2 rp2 hz2
        · cases h
end
/-! ### the rule -/
inductive SPs (X : Cx) (M : Pm) (W : WX) (cl : Cl) : List (E × E) → List (Option Expr) → List Expr → Prop
  | nil : SPs X M W cl [] [] []
  | cons {k x : E} {ek e : Expr} {kvs : List (E × E)} {ks : List (Option Expr)} {es : List Expr} : SE X M W cl k ek → SE X M W cl x e → SPs X M W cl kvs ks es → SPs X M W cl ((k, x) :: kvs) (some ek :: ks) (e :: es)
section
variable {g : Gc} {sc : Scope} {X : Cx} {M : Pm} {W : WX} {cl : Cl} {pos : Pos} {kvs : List (E × E)} {ks : List (Option Expr)} {es : List Expr}
def trsOf (X : Cx) (M : Pm) (W : WX) (cl : Cl) (kvs : List (E × E)) : List (TE × TE) := kvs.map fun q => (tV X M W cl q.1, tV X M W cl q.2)
theorem SPs.pps (h : SPs X M W cl kvs ks es) : PPs X pos ks es (trsOf X M W cl kvs) := by
  induction h with
  | nil => exact pps_nil
  | cons a b _ ih => exact pps_cons a.v b.v ih
theorem SPs.shape (h : SPs X M W cl kvs ks es) : ks.all (·.isSome) = true ∧ ks.length = es.length ∧ ks.length = kvs.length := by
  induction h with
  | nil => exact ⟨rfl, rfl, rfl⟩
  | cons a b _ ih => exact ⟨by simp [ih.1], by simp [ih.2.1], by simp [ih.2.2]⟩
theorem RepPs.ext {w : World} {K : Fr} {F F' : Hp} (s : Sub F F') : ∀ {vs : List (V × V)} {ds : List (D × D)}, RepPs w K F vs ds → RepPs w K F' vs ds
  | [], [], _ => trivial
  | [], _ :: _, h => h.elim
  | _ :: _, [], h => h.elim
  | (x, y) :: vs, (k, d) :: ds, h => ⟨Rep.sub s _ _ h.1, Rep.sub s _ _ h.2.1, RepPs.ext s h.2.2⟩
/-- the pairs, read -/
theorem pairs_read {σ : L2.St} {ρ : List Sl} : ∀ (kvs : List (E × E)) (acc : List (D × D)) (F H : Hp) (P : D → Hp → Hp → Prop), Ok X.w X.K M F H σ ρ → After X.w X.K M W σ F H (evDct cl ρ kvs acc) P →
    tPairs (trsOf X M W cl kvs) σ H fun ps H' => ∃ F' ds kvs', Ext F H F' H' ∧ RepPs X.w X.K F' ps ds ∧ putsD ds acc = .ok (.dict kvs') ∧ evDct cl ρ kvs acc = .ok (.dict kvs')
  | [], acc, F, H, P, ok, h => ⟨F, [], acc, .refl ok.sub, trivial, rfl, rfl⟩
  | (k, x) :: r, acc, F, H, P, ok, h => by
    simp only [evDct] at h
    refine ⟨ρ, F, ok, h.bind.keep.imp fun kd F1 H1 x1 ⟨e1, h1⟩ v rv => ⟨ρ, F1, ok.ext x1, h1.bind.keep.imp fun d F2 H2 x2 ⟨e2, h2⟩ y ry => ?_⟩⟩
    by_cases c : (okK kd acc && fits (acc.length + 1)) = true
    · rw [if_pos c] at h2
      have ih := pairs_read r (putK kd d acc) F2 H2 P ((ok.ext x1).ext x2) h2
      have mono : ∀ (l : List (E × E)) (H : Hp) (Q Q' : List (V × V) → Hp → Prop), (∀ ps H', Q ps H' → Q' ps H') → tPairs (trsOf X M W cl l) σ H Q → tPairs (trsOf X M W cl l) σ H Q' := by
        intro l
        induction l with
        | nil => intro H Q Q' i q; exact i _ _ q
        | cons q l ihl =>
          intro H Q Q' i z
          obtain ⟨ρ1, F1, o1, z⟩ := z
          refine ⟨ρ1, F1, o1, z.imp fun a F2 H2 x2 z2 v rv => ?_⟩
          obtain ⟨ρ3, F3, o3, z3⟩ := z2 v rv
          exact ⟨ρ3, F3, o3, z3.imp fun b F4 H4 x4 z4 y ry => ihl _ _ _ (fun ps H' zz => i _ _ zz) (z4 y ry)⟩
      refine mono r H2 _ _ (fun ps H' ⟨F', ds, kvs', e3, e4, e5, e6⟩ => ?_) ih
      refine ⟨F', (kd, d) :: ds, kvs', (x1.trans x2).trans e3, ⟨Rep.sub (x2.subF.trans e3.subF) _ _ rv, Rep.sub e3.subF _ _ ry, e4⟩, ?_, ?_⟩
      · simp only [putsD, if_pos c]
        exact e5
      · simp only [evDct, e1, e2, bind_ok, if_pos c]
        exact e6
    · rw [if_neg c] at h2; exact h2.elim
theorem evDct_dict {ρ : List Sl} : ∀ (kvs : List (E × E)) (acc : List (D × D)) (d : D), evDct cl ρ kvs acc = .ok d → isMut d = true
  | [], acc, d, h => by simp only [evDct] at h; injection h with h; subst h; rfl
  | (k, x) :: r, acc, d, h => by
    simp only [evDct] at h
    cases z : ev cl ρ .v k with
    | bad => rw [z] at h; cases h
    | ex c fs => rw [z] at h; cases h
    | ok kd =>
      rw [z] at h
      simp only [bind_ok] at h
      cases z2 : ev cl ρ .v x with
      | bad => rw [z2] at h; cases h
      | ex c fs => rw [z2] at h; cases h
      | ok y =>
        rw [z2] at h
        simp only [bind_ok] at h
        split at h
        · exact evDct_dict r _ d h
        · cases h
theorem s_dct (hx : Hx g sc X M W cl) (h : SPs X M W cl kvs ks es) (hl : ks.length ≤ 15) : SE X M W cl (.dct kvs) (.Dict ks es pos) := by
  obtain ⟨h1, h2, h3⟩ := h.shape
  refine SE.ofO hx ?_ (fun ρ d q => by simp only [ev, bind_fv] at q; exact evDct_dict kvs [] d q) (fun ρ => by simp only [ev]; rfl) (fun ρ => by simp only [ev, bind_fv]) (fun _ => rfl)
  cases h with
  | nil =>
    refine pe_dnew.weak fun σ H Q ⟨ρ, F, ok, q⟩ => ?_
    simp only [ev, bind_fv, evDct] at q
    intro p hp hsm
    have hFp : F p = none := by
      cases e : F p with
      | none => rfl
      | some o => rw [ok.sub _ _ e] at hp; cases hp
    exact (q F _ (Ext.newO ok.sub hp)).2 p hp hFp ⟨hsm, Nat.zero_le _, [], 0, upd_same, by simp only [RepP]⟩
  | cons a b r =>
    have hh : SPs X M W cl _ _ _ := .cons a b r
    refine ⟨fun pins s σ H Q I ⟨ρ, F, ok, q⟩ => ?_⟩
    simp only [ev, bind_fv] at q
    have hn := I.hok.fresh (Nat.le_refl s.heap.objs.size)
    have hsm : (s.heap.objs.size == sysModules) = false := beq_eq_false_iff_ne.mpr (Ne.symm (Nat.ne_of_lt I.big))
    have x0 : Ext F H F (upd H s.heap.objs.size (dHO s.heap.objs.size [] 0)) := Ext.newO ok.sub hn
    have I1 := I.laid (a := s.heap.objs.size) (o := dHO s.heap.objs.size [] 0) (h' := s.heap.push { cls := .type "dict", data := .dict #[] }) (t' := s.toks) (fun _ _ q => Heap.get?_push_of_some _ q) (Nat.le_refl _) (dho_ok (Heap.get?_push_size _ rfl))
    refine wpAny_Dict_any h1 h2 (by intro z; cases z) hl (thn ((hh.pps (pos := pos)).run pins _ σ _ _ I1 (pairs_read _ [] F _ _ (ok.ext x0) (q.ext x0))) fun ws s2 ⟨ps, H2, I2, rel, F2, ds, kvs', e1, e2, e3, e4⟩ => ?_)
    have hFp : F2 s.heap.objs.size = none := e1.stays (by
      cases e : F s.heap.objs.size with
      | none => rfl
      | some o => rw [ok.sub _ _ e] at hn; cases hn) (by rw [upd_same]; intro z; cases z)
    refine dd_all hx.un hFp hsm ds ps ws [] 0 [] kvs' s2 H2 _ I2 e1.inn (e1.sub _ _ upd_same) (by simp only [RepP]) rel e2 e3 (Nat.zero_le _) fun es' ep' s3 I3 rp3 hz3 => ?_
    refine ⟨.ref s.heap.objs.size, _, I3, rfl, ?_⟩
    rw [e4] at q
    exact (q F2 _ (ext_mut (x0.trans e1) hn hFp)).2 _ hn hFp ⟨hsm, hz3, es', ep', upd_same, rp3⟩
end
end Ad
set_option Elab.async false
set_option linter.all false
set_option maxRecDepth 100000
set_option maxHeartbeats 4000000
/-! Dict comprehensions, keys that may be tuples. -/
namespace Ad
open PySem PySem.Spec PyProof.Rows L2
/-- in each block of a comprehension -/
def InBlk (X : Cx) (sc : Scope) (P : Cx → Prop) : Prop := ∀ (s0 : Shared) (G : Hp) (c0 : Addr) (cs : List (Str × Addr)) (bs : List Addr), P (X.blk s0 G sc (compEnvC sc cs c0 X.env) bs)
/-- one pair set into the dict at a -/
def SetP (w : World) (K : Fr) (a : Addr) (y z : V) (G : Hp) (Nx : Hp → Prop) : Prop := ∃ F es ep kvs k d, Sub F G ∧ G a = some (dHO a es ep) ∧ RepP w K F es kvs ∧ Rep w K F y k ∧ Rep w K F z d ∧ okK k kvs = true ∧ kvs.length + 1 ≤ sizeLine ∧
  ∀ es' ep', RepP w K F es' (putK k d kvs) → Nx (upd G a (dHO a es' ep'))
/-- one turn -/
def TurnP (w : World) (K : Fr) (gt : TG) (ts : TT) (tk tv : TE) (vs : List Nat) (a : Addr) (τ : L2.St) (x : V) (G : Hp) (Nx : Hp → Prop) : Prop :=
  gt x (wipe τ vs) G fun τ' G' => wipe τ' vs = wipe τ vs ∧ ts τ' G' fun b G2 => if b = true then tk τ' G2 fun y G3 => tv τ' G3 fun z G4 => SetP w K a y z G4 Nx else Nx G2
def tDcH (w : World) (K : Fr) (wi : TI) (gt : TG) (ts : TT) (tk tv : TE) (vs : List Nat) : TE := fun τ G Q => wi τ G fun J G1 => ∀ a, G1 a = none → (a == sysModules) = false →
  ∃ V : Nat → Nat → Hp → Prop, (∃ m, V 0 m (upd G1 a (dHO a [] 0))) ∧ ∀ i m G2, V i m G2 → (J.stop i G2 ∧ Q (.ref a) G2) ∨
    (J.go i G2 ∧ ∃ Nx : Hp → Prop, (∀ G3, Nx G3 → ∃ m', m' < m ∧ V (i + 1) m' G3) ∧ ∀ x G3, J.yld i G2 x G3 → TurnP w K gt ts tk tv vs a τ x G3 Nx)
section
variable {X : Cx}
theorem dh_core {ps : List (Addr × Obj)} {s : Shared} {τ : L2.St} {G : Hp} {Q : VK} {ke ve tg itr : Expr} {fs : List Expr} {sc : Scope} {own : List (Str × Nat)} {pos p2 : Pos} {wi : TI} {gt : TG} {ts : TT} {tk tv : TE} {use : Option (Value → Sem Unit)} {Qf : Value → Shared → Prop}
    (hu : X.A.units + 200 < cLine) (hc : X.calm = true) (nd : X.N.Nodup) (I : Inv X ps τ G s) (hi : PI X tg itr wi) (ok : BlkOk X.N X.env.scope sc own)
    (hg : InBlk X sc fun Y => PG Y tg gt) (ht : InBlk X sc fun Y => PTs Y fs ts) (hk : InBlk X sc fun Y => PE Y ke tk) (he : InBlk X sc fun Y => PE Y ve tv) (hs : ∀ x, foldedSetIterable itr X.env x = pure x)
    (h : tDcH X.w X.K wi gt ts tk tv (own.map (·.2)) τ G Q)
    (fin : ∀ a c s' m G', Inv X ps τ G' s' → Q (.ref a) G' → s'.heap.Ns c m → FpOk X ps G' c → compPost (model X.prog X.w) X.A X.xe use Qf (.ref a) c (.ok .next) s') :
    wpAny (model X.prog X.w) X.A (comprehension (.DictComp ke ve [⟨tg, itr, fs, 0⟩] sc pos) sc X.env p2 newDict false (eval itr X.env) use) Qf X.xe s := by
  have free : ∀ y ∈ sc.names, y.2 = .free → ∃ c, X.env.cells.lookup y.1 = some c := fun y my e => (ok.free y my e).elim (fun k => I.ok.has _ (.inl k)) fun k => I.ok.has _ (.inr k)
  refine wpAny_comprehension_free (use := use) rfl hs (closure_ok free) ok.kind (fun y my e => by rw [ok.uniq y my]; rw [e]) (thn (hi.run ps s τ G _ I h) fun u0 t1 z1 => thn z1 fun u1 t2 z2 => ?_)
  obtain ⟨it, bs, tn, J, G2, rfl, I2, T, k2, f2, q⟩ := z2
  refine wpAny_newObj_type (newEnv_comp ?_)
  have hsm : (t2.heap.objs.size == sysModules) = false := beq_eq_false_iff_ne.mpr (Ne.symm (Nat.ne_of_lt I2.big))
  generalize ea : t2.heap.objs.size = a at hsm
  have na : G2 a = none := I2.hok.fresh (Nat.le_of_eq ea)
  obtain ⟨V, ⟨m0, v0⟩, turn⟩ := q a na hsm
  generalize e3 : ({ t2 with heap := t2.heap.push { cls := .type "dict", data := .dict #[] } } : Shared) = t3
  have hh : t3.heap = t2.heap.push { cls := .type "dict", data := .dict #[] } := by rw [← e3]
  have I3 : Inv X ps τ (upd G2 a (dHO a [] 0)) t3 := by
    rw [← e3]
    refine I2.laid (t' := t2.toks) (fun _ _ e => Heap.get?_push_of_some _ e) (Nat.le_of_eq ea) (dho_ok ?_)
    rw [← ea]; exact Heap.get?_push_size _ rfl
  have small : ∀ b ∈ bs, b < t2.heap.objs.size := fun b mb => let ⟨o, e, _⟩ := T.obj _ _ k2 b mb; Heap.lt_size e
  have f3 : ∀ b ∈ bs, FpOk X ps (upd G2 a (dHO a [] 0)) b ∧ b < t3.heap.objs.size := fun b mb => by
    have lt := small b mb
    refine ⟨⟨?_, (f2 b mb).2⟩, by rw [hh]; rw [Heap.size_push]; exact Nat.lt_succ_of_lt lt⟩
    rw [upd_ne (by rw [← ea]; exact Nat.ne_of_lt lt)]; exact (f2 b mb).1
  have k3 : tn 0 t3.heap := T.keep _ _ _ k2 fun _ _ _ e => by rw [hh]; exact Heap.get?_push_of_some _ e
  have I4 := block_start I3 ok nd f3
  generalize ec : cellsFrom (t3.heap.objs.size + 1) sc.names (cloFrom X.env.cells sc.names []) = cs at I4 ⊢
  have pg := hg t3 (upd G2 a (dHO a [] 0)) t3.heap.objs.size cs bs
  have pt := ht t3 (upd G2 a (dHO a [] 0)) t3.heap.objs.size cs bs
  have pk := hk t3 (upd G2 a (dHO a [] 0)) t3.heap.objs.size cs bs
  have pv := he t3 (upd G2 a (dHO a [] 0)) t3.heap.objs.size cs bs
  show codeAny _ _ (.compStart (.DictComp ke ve [⟨tg, itr, fs, 0⟩] sc pos) 0 (.ref it) (.ref a) (compEnvC sc cs t3.heap.objs.size X.env)) (compPost (model X.prog X.w) X.A X.xe use Qf (.ref a) t3.heap.objs.size)
    { t3 with heap := pushCells (t3.heap.push { cls := .type "dict", data := .dict #[] }) sc.names }
  have nb : ∀ b ∈ bs, (upd G2 a (dHO a [] 0)) b = none := fun b mb => (f3 b mb).1.1
  generalize ee : compEnvC sc cs t3.heap.objs.size X.env = en at I4 pg pt pk pv ⊢
  have el : en.locals = t3.heap.objs.size := by rw [← ee]; rfl
  generalize eG : upd G2 a (dHO a [] 0) = G3 at I3 I4 pg pt pk pv v0 nb f3
  generalize e4 : ({ t3 with heap := pushCells (t3.heap.push { cls := .type "dict", data := .dict #[] }) sc.names } : Shared) = t4 at I4 ⊢
  have k4 : tn 0 t4.heap := T.keep _ _ _ k3 fun _ _ _ e => by rw [← e4]; exact pushCells_keeps _ _ _ _ (Heap.get?_push_of_some _ e)
  let Y : Cx := X.blk t3 G3 sc en bs
  have held : ∀ {τ' : L2.St} {G' : Hp} {s' : Shared}, Inv Y [] τ' G' s' → (∀ b ∈ bs, G' b = none) → ∀ b ∈ bs, FpOk Y [] G' b := fun {τ' G' s'} J' hn b mb =>
    ⟨hn b mb, (J'.ok.exf b mb).1, J'.ok.exfs b mb, .inl mb, fun x c e => (J'.ok.exf b mb).2 x c e, fun p hp => absurd (show p ∈ ([] : List (Addr × Obj)) ++ [] from hp) (by simp)⟩
  have loop : codeAny (model X.prog X.w) X.A (.compLoop (.DictComp ke ve [⟨tg, itr, fs, 0⟩] sc pos) 0 (.ref it) (.ref a) en) (compPost (model X.prog X.w) X.A X.xe use Qf (.ref a) t3.heap.objs.size) t4 := by
    refine compLoop_anyD (fun n s' => ∃ i G', Inv Y [] (wipe τ (own.map (·.2))) G' s' ∧ tn i s'.heap ∧ (∀ b ∈ bs, G' b = none) ∧ V i n G') ?_ m0 ⟨0, G3, I4, k4, nb, v0⟩
    rintro n t5 ⟨i, G5, I5, k5, n5, v5⟩
    rcases turn i n G5 v5 with ⟨stop, qq⟩ | ⟨go, Nx, next, step⟩
    · refine thnF (T.done Y rfl rfl rfl hc i [] t5 _ G5 (fun _ _ => False) I5 (held I5 n5) k5 stop) fun r t6 ⟨er, I6⟩ => ?_
      subst er
      have out : Inv X ps τ G5 t6 := I3.call' (ch := bs) I6.os I6.base I6.hok I6.bare fun b mb => let z := (f3 b mb).1; ⟨z.2.2.2.1, z.2.1, z.2.2.2.2.1, z.2.2.2.2.2⟩
      obtain ⟨m, hn, _⟩ := I6.loc
      have hn : t6.heap.Ns en.locals m := hn
      have nl : G5 en.locals = none := I6.free
      rw [el] at hn nl
      exact fin a _ t6 m G5 out qq hn (I3.fpOk (Nat.le_refl _) nl)
    · refine thnF (T.item Y rfl rfl rfl hc i [] t5 _ G5 (fun _ _ => False) I5 (held I5 n5) k5 go) fun r t6 ⟨u, er, z6⟩ => ?_
      subst er
      refine thnF z6 fun _ t7 ⟨x, G7, I7, r7, y7, k7, n7⟩ => ?_
      have P7 := I7.pinned (held I7 n7) (T.obj _ _ k7)
      refine thnF (pg.run _ t7 _ G7 x u _ P7 r7 (step x G7 y7)) fun _ t8 ⟨τ8, G8, I8, w8, q8⟩ => ?_
      refine thnF (pt.run _ t8 τ8 G8 _ I8 q8) fun b t9 ⟨G9, I9, q9⟩ => ?_
      have close : ∀ {s' : Shared} {G' : Hp}, Inv Y ([] ++ pinsAt bs t7.heap) τ8 G' s' → Nx G' → ∃ m, m < n ∧ ∃ i G', Inv Y [] (wipe τ (own.map (·.2))) G' s' ∧ tn i s'.heap ∧ (∀ b ∈ bs, G' b = none) ∧ V i m G' := fun {s' G'} J' nx => by
        obtain ⟨m', lt, v'⟩ := next G' nx
        have pin : ∀ b ∈ bs, ∀ o, t7.heap.get? b = some o → s'.heap.get? b = some o ∧ G' b = none := fun b mb o e =>
          (fun z => ⟨z.1, z.2.1⟩) (J'.pin (b, o) (List.mem_append_right _ (List.mem_append_right _ (mem_pinsAt mb e))))
        refine ⟨m', lt, i + 1, G', (J'.unpinned (pins := [])).weak (by rw [← w8, wipe_length]) (fun j v e => ?_), T.keep _ _ _ k7 fun b mb o e => (pin b mb o e).1, fun b mb => ?_, v'⟩
        · rw [← w8] at e; exact (wipe_some e).1
        · obtain ⟨o, e, _⟩ := T.obj _ _ k7 b mb; exact (pin b mb o e).2
      cases b with
      | false => simp only [Bool.false_eq_true, if_false] at q9 ⊢; exact close I9 q9
      | true =>
        simp only [if_true] at q9 ⊢
        refine thnF (pk.run _ t9 τ8 G9 _ I9 q9) fun u1 t10 ⟨y, G10, I10, r10, q10⟩ => ?_
        refine thnF (pv.run _ t10 τ8 G10 _ I10 q10) fun u2 t11 ⟨z, G11, I11, r11, F, es, ep, kvs, k, d, c1, c2, c3, c4, c5, c6, c7, nx⟩ => ?_
        exact dd_set (X := Y) hu I11 c1 hsm c2 c3 c4 r10 c5 r11 c6 c7 fun es' ep' t12 I12 rp => close I12 (nx es' ep' rp)
  exact codeAny_compStart_dict loop (T.self X.A 0 _ _ _ k4 loop)
theorem pe_dh {ke ve tg itr : Expr} {fs : List Expr} {sc : Scope} {own : List (Str × Nat)} {pos : Pos} {wi : TI} {gt : TG} {ts : TT} {tk tv : TE} (hu : X.A.units + 200 < cLine) (hc : X.calm = true) (nd : X.N.Nodup) (hi : PI X tg itr wi) (ok : BlkOk X.N X.env.scope sc own)
    (hg : InBlk X sc fun Y => PG Y tg gt) (ht : InBlk X sc fun Y => PTs Y fs ts) (hk : InBlk X sc fun Y => PE Y ke tk) (he : InBlk X sc fun Y => PE Y ve tv) (hs : ∀ x, foldedSetIterable itr X.env x = pure x) :
    PE X (.DictComp ke ve [⟨tg, itr, fs, 0⟩] sc pos) (tDcH X.w X.K wi gt ts tk tv (own.map (·.2))) := ⟨fun ps s τ G Q I h => by
  rw [arm_eval_DictComp]
  exact dh_core hu hc nd I hi ok hg ht hk he hs h fun a c s' m G' I' q hn f => ⟨m, hn, fun h' sb => let ⟨z0, z1, z2, z3, z4, z5⟩ := f
    ⟨.ref a, G', I'.turned (t' := s'.toks) (fun b o hb e => (sb.2 b hb).trans e) z0 z1 z3 z4 z5, rfl, q⟩⟩⟩
end

/-! ### the rule -/
section
variable {g : Gc} {sc : Scope} {X : Cx} {M : Pm} {W : WX} {cl : Cl} {pos : Pos}
/-- one turn, in data -/
def dcF (cl : Cl) (ρ : List Sl) (t : T) (own : List Nat) (ifs : List E) (ke ve : E) (d : D) : R (Option (D × D)) := match bindT (wipeS (lend ρ) own) t d with
  | some ρ' => (evFs cl ρ' ifs).bind fun b => if b then (ev cl ρ' .v ke).bind fun x => (ev cl ρ' .v ve).bind fun y => .ok (some (x, y)) else .ok none
  | none => .bad
theorem ev_dc (cl : Cl) (ρ : List Sl) (m : Md) (ke ve : E) (t : T) (it : I) (ifs : List E) (own : List Nat) : ev cl ρ m (.dc ke ve t it ifs own) = (evI cl ρ .r it).bind fun ds => (filtD (dcF cl ρ t own ifs ke ve) ds).bind fun ps => (putsD ps []).bind m.fin := by
  simp only [ev]; rfl
theorem putsD_dict : ∀ (ps acc : List (D × D)) (d : D), putsD ps acc = .ok d → ∃ kvs, d = .dict kvs
  | [], acc, d, h => by simp only [putsD] at h; injection h with h; exact ⟨acc, h.symm⟩
  | (k, v) :: r, acc, d, h => by
    simp only [putsD] at h
    split at h
    · exact putsD_dict r _ d h
    · cases h
theorem putsD_no : ∀ (ps acc : List (D × D)), NoEx (putsD ps acc)
  | [], acc => .ok
  | (k, v) :: r, acc => by
    simp only [putsD]
    split
    · exact putsD_no r _
    · exact .bad
theorem dc_read {ke ve : E} {t : T} {it : I} {ifs : List E} {own : List Nat} (hsub : ∀ j ∈ slotsT t, j ∈ own) (htp : it.tp? = true → t.tp? = true) {σ : L2.St} {H : Hp} {Q : VK} (h : tO X M W cl (.dc ke ve t it ifs own) σ H Q) :
    tDcH X.w X.K (tI X M W cl .r it) (tG X.w X.K t) (tF X M cl ifs) (tZ X M cl ke) (tZ X M cl ve) own σ H Q := by
  obtain ⟨ρ, F, ok, h⟩ := h
  rw [ev_dc] at h
  refine ⟨ρ, F, ok, h.bind.imp fun ds F1 H1 x1 h1 J hJ D hD hsm => ?_⟩
  cases qf : filtD (dcF cl ρ t own ifs ke ve) ds with
  | ex c fs => exact absurd qf (filtD_no _ _ _ _)
  | bad => rw [qf] at h1; exact h1.elim
  | ok all =>
  rw [qf] at h1
  simp only [bind_ok] at h1
  cases qp : putsD all [] with
  | ex c fs => exact absurd qp (putsD_no _ _ _ _)
  | bad => rw [qp] at h1; exact h1.elim
  | ok dd =>
  rw [qp] at h1
  simp only [bind_ok, fin_v] at h1
  obtain ⟨kvs, rfl⟩ := putsD_dict _ _ _ qp
  have hFD : F1 D = none := by
    cases e : F1 D with
    | none => rfl
    | some o => rw [x1.inn _ _ e] at hD; cases hD
  have hH0 : H D = none := by
    cases e : H D with
    | none => rfl
    | some o => rw [x1.sub _ _ e] at hD; cases hD
  refine ⟨fun i k Hi => k = ds.length - i ∧ i ≤ ds.length ∧ ∃ Fi es ep acc rest, Ext F1 H1 Fi Hi ∧ Hi D = some (dHO D es ep) ∧ Fi D = none ∧ RepP X.w X.K Fi es acc ∧ acc.length ≤ sizeLine ∧ filtD (dcF cl ρ t own ifs ke ve) (ds.drop i) = .ok rest ∧ putsD rest acc = .ok (.dict kvs),
    ⟨ds.length, rfl, Nat.zero_le _, F1, [], 0, [], all, Ext.newO x1.inn hD, upd_same, hFD, by simp only [RepP], Nat.zero_le _, by simpa using qf, qp⟩, ?_⟩
  rintro i k Hi ⟨rfl, hi, Fi, es, ep, acc, rest, xi, hDi, hFi, ri, hyi, qi, ei⟩
  by_cases hlt : i < ds.length
  · right
    have hgo : J.go i Hi := hJ.go i Hi hlt xi.sub
    obtain ⟨d, r, hdr⟩ : ∃ d r, ds.drop i = d :: r := ⟨ds[i], ds.drop (i + 1), by rw [List.drop_eq_getElem_cons hlt]⟩
    have hd : ds[i]? = some d := by
      have := congrArg (fun l => l[0]?) hdr
      simpa using this
    have hr : ds.drop (i + 1) = r := by
      have := congrArg List.tail hdr
      simpa using this
    rw [hdr] at qi
    obtain ⟨o, zs, qo, qz, er⟩ := filtD_cons qi
    refine ⟨hgo, fun Hn => ∃ Fi es ep acc rest, Ext F1 H1 Fi Hn ∧ Hn D = some (dHO D es ep) ∧ Fi D = none ∧ RepP X.w X.K Fi es acc ∧ acc.length ≤ sizeLine ∧ filtD (dcF cl ρ t own ifs ke ve) (ds.drop (i + 1)) = .ok rest ∧ putsD rest acc = .ok (.dict kvs), fun Hn hn => ⟨ds.length - (i + 1), by omega, rfl, hlt, hn⟩, fun x H' hy => ?_⟩
    obtain ⟨F2, x2, rx⟩ := hJ.yld i Hi x H' Fi d hd xi.sub xi.subF xi.inn hy
    have ok2 := ((ok.ext x1).ext (xi.trans x2)).block own
    unfold dcF at qo
    cases qb : bindT (wipeS (lend ρ) own) t d with
    | none => rw [qb] at qo; cases qo
    | some ρ' =>
      rw [qb] at qo
      refine ⟨_, _, F2, d, ρ', ok2, rx.mono htp, qb, fun σ2 ok3 off => ⟨(wipe_eq off hsub).trans (wipe_idem σ own), ⟨F2, H'⟩, ρ', F2, ok3, ?_⟩⟩
      simp only at qo
      cases qe : evFs cl ρ' ifs with
      | ex c fs => rw [qe] at qo; cases qo
      | bad => rw [qe] at qo; cases qo
      | ok b =>
        rw [qe] at qo
        intro F3 H3 x3
        cases b with
        | false =>
          simp only [bind_ok, Bool.false_eq_true, if_false] at qo ⊢
          injection qo with qo; subst qo
          have y3 := x2.trans x3
          refine ⟨F3, es, ep, acc, zs, xi.trans y3, y3.sub _ _ hDi, y3.stays hFi (by rw [hDi]; intro z; cases z), RepP.sub y3.subF _ _ ri, hyi, by rw [hr]; exact qz, ?_⟩
          rw [← ei, er]
        | true =>
          simp only [bind_ok, if_true] at qo ⊢
          cases qv : ev cl ρ' .v ke with
          | ex c fs => rw [qv] at qo; cases qo
          | bad => rw [qv] at qo; cases qo
          | ok kd =>
            rw [qv] at qo
            simp only [bind_ok] at qo
            cases qw : ev cl ρ' .v ve with
            | ex c fs => rw [qw] at qo; cases qo
            | bad => rw [qw] at qo; cases qo
            | ok vd =>
            rw [qw] at qo
            simp only [bind_ok] at qo
            injection qo with qo; subst qo
            refine ⟨⟨F2, H'⟩, ρ', F3, ok3.ext x3, ?_⟩
            rw [qv]
            intro F4 H4 x4 v rv
            refine ⟨⟨F2, H'⟩, ρ', F4, (ok3.ext x3).ext x4, ?_⟩
            rw [qw]
            intro F5 H5 x5 v2 rv2
            have y5 := ((x2.trans x3).trans x4).trans x5
            have hF5 : F5 D = none := y5.stays hFi (by rw [hDi]; intro z; cases z)
            subst er
            simp only [putsD] at ei
            split at ei
            · rename_i c
              simp only [Bool.and_eq_true] at c
              have hl : acc.length + 1 ≤ sizeLine := by rw [← line_eq]; exact of_decide_eq_true c.2
              refine ⟨F5, es, ep, acc, kd, vd, x5.inn, y5.sub _ _ hDi, RepP.sub y5.subF _ _ ri, Rep.sub x5.subF _ _ rv, rv2, c.1, hl, fun es' ep' rp => ?_⟩
              exact ⟨F5, es', ep', putK kd vd acc, zs, ext_mut (xi.trans y5) hD hF5, upd_same, hF5, rp, Nat.le_trans (putK_length kd vd acc) hl, by rw [hr]; exact qz, ei⟩
            · cases ei
  · have e : i = ds.length := by omega
    subst e
    left
    refine ⟨hJ.stop Hi xi.sub, ?_⟩
    simp only [List.drop_length, filtD] at qi
    injection qi with qi; subst qi
    simp only [putsD] at ei
    injection ei with ei; injection ei with ei; subst ei
    exact (h1 Fi Hi xi).2 D hH0 hFi ⟨hsm, hyi, es, ep, hDi, ri⟩
theorem s_dc {ke ve : E} {t : T} {it : I} {ifs : List E} {own : List Nat} {ek el tg iter : Expr} {fs : List Expr} {scope : Scope} (hx : Hx g sc X M W cl) (hc : g.calm = true) (hb : blkC g.N sc scope (ownOf g.N own) = true) (hset : notSet iter = true)
    (hown : ∀ v ∈ own, v < g.N.length) (hsub : ∀ j ∈ slotsT t, j ∈ own) (ht : chkT g scope t tg = true) (htp : it.tp? = true → t.tp? = true) (hi : PI X tg iter (tI X M W cl .r it)) (hl : fs.length ≤ 1)
    (hf : ∀ X' M', Hx g (relS scope sc) X' M' Wf cl → SEs X' M' Wf cl ifs fs) (hk : ∀ X' M', Hx g (relS scope sc) X' M' Wf cl → SE X' M' Wf cl ke ek) (he : ∀ X' M', Hx g (relS scope sc) X' M' Wf cl → SE X' M' Wf cl ve el) :
    SE X M W cl (.dc ke ve t it ifs own) (.DictComp ek el [⟨tg, iter, fs, 0⟩] scope pos) := by
  have hq : X.calm = true := hx.calm.trans hc
  have ok : BlkOk X.N X.env.scope scope (ownOf g.N own) := by rw [hx.N, hx.sc]; exact blkOk_by hb
  have hN : X.N.Nodup := by rw [hx.N]; exact hx.nd
  have base := pe_dh (X := X) (pos := pos) (wi := tI X M W cl .r it) (gt := tG X.w X.K t) (ts := tF X M cl ifs) (tk := tZ X M cl ke) (tv := tZ X M cl ve) hx.un hq hN hi ok
    (fun s H C cs fp => s_tg (Hg.blk hx (own := ownOf g.N own) s H C cs fp) hq t tg ht)
    (fun s H C cs fp => s_ifs hl fun Z => hf _ _ (hx.blk hc ok Z s H C cs fp))
    (fun s H C cs fp => s_tz fun Z => hk _ _ (hx.blk hc ok Z s H C cs fp))
    (fun s H C cs fp => s_tz fun Z => he _ _ (hx.blk hc ok Z s H C cs fp))
    (by intro x; cases iter <;> first | rfl | cases hset)
  rw [ownOf_eq hown] at base
  have eq := fun ρ m => ev_dc cl ρ m ke ve t it ifs own
  refine SE.ofO hx (base.weak fun σ H Q h => dc_read hsub htp h) (fun ρ d q => ?_) (fun ρ => by rw [eq, eq]; rfl) (fun ρ => ?_) (fun _ => rfl)
  · rw [eq] at q
    cases z : evI cl ρ .r it with
    | ok ds =>
      rw [z] at q
      cases z2 : filtD (dcF cl ρ t own ifs ke ve) ds with
      | ok xs =>
        simp only [bind_ok, z2] at q
        cases z3 : putsD xs [] with
        | ok dd =>
          rw [z3] at q
          simp only [bind_ok, fin_v] at q
          injection q with q; subst q
          obtain ⟨kvs, rfl⟩ := putsD_dict _ _ _ z3
          rfl
        | ex c fs => rw [z3] at q; cases q
        | bad => rw [z3] at q; cases q
      | ex c fs => simp only [bind_ok, z2] at q; cases q
      | bad => simp only [bind_ok, z2] at q; cases q
    | ex c fs => rw [z] at q; cases q
    | bad => rw [z] at q; cases q
  · rw [eq, eq]
    simp only [bind_assoc, bind_fv]
end
end Ad
set_option Elab.async false
set_option linter.all false
set_option maxRecDepth 100000
set_option maxHeartbeats 400000
/-! Methods that read. -/
namespace Ad
open PySem PySem.Spec PyProof.Rows L2
section
variable {g : Gc} {sc : Scope} {X : Cx} {M : Pm} {W : WX} {cl : Cl} {pos ap cp : Pos} {x : E} {xs : List E} {ea e1 e2 : Expr}
def tyD (X : Cx) (x : V) (H : Hp) : Prop := ∃ F kvs, Sub F H ∧ RepR X.w X.K F H x (.dict kvs)
theorem ty_D : TyOk X "dict" (tyD X) := by
  intro pins σ H s x v I r ty
  obtain ⟨F, kvs, hF, hx⟩ := ty
  obtain ⟨a, es, ep, rfl, hd, hz, rp⟩ := hx.dict hF
  cases r
  have at' := Inv.dAt I hd
  exact ⟨(raw_of at').typeIs, fun b z => by cases z; exact ⟨_, at', rfl⟩⟩
def rGetD (X : Cx) : V → List V → Hp → VK → Prop := fun x vs H Q => ∃ F kvs k d, Sub F H ∧ RepR X.w X.K F H x (.dict kvs) ∧ okK k kvs = true ∧ RepL X.w X.K F vs [k, d] ∧ ∀ v, Rep X.w X.K F v ((findK k kvs).getD d) → Q v H
theorem mt_getD (hu : X.A.units + 200 < cLine) : MtR X "dict.get" (rGetD X) := by
  intro pins s σ H x vs v us Q I rx rv h
  obtain ⟨F, kvs, k, d, hF, hx, ok, hl, q⟩ := h
  obtain ⟨a, es, ep, rfl, hd, hz, rp⟩ := hx.dict hF
  cases rx
  match vs, hl, rv with
  | [kv, dv], hl, rv =>
    simp only [RepL] at hl
    obtain ⟨u1, u2, rfl, r1, r2⟩ := rv.two
    have at' := Inv.dAt I hd
    have srt := rp.sort ok
    have hk := okK_keyed ok
    cases c : keyF k with
    | true =>
      rw [c] at srt
      cases rep_flat c hl.1
      have dd := dict_flat (P := X.prog) at' rp srt
      obtain ⟨f1, f2⟩ := RepP.find c rp srt
      cases z : findK k kvs with
      | none =>
        rw [z] at q
        refine call_meetsIn PySem.F.slot_dict_get dd.typeIs PySem.F.entry_dict_get (PySem.F.args_dict_get_3 _ _ _) (meets_dict_get_default (mixKind X.prog X.w) a (kV_is r1) hd.1 u2) ⟨_, dd.mapOf, ?_⟩
        rw [f2 z]
        exact ⟨dv, H, I.tok _, r2, q dv hl.2.1⟩
      | some d' =>
        rw [z] at q
        obtain ⟨u', y', z1, z2, z3⟩ := f1 d' z
        refine call_meetsIn PySem.F.slot_dict_get dd.typeIs PySem.F.entry_dict_get (PySem.F.args_dict_get_3 _ _ _) (meets_dict_get_default (mixKind X.prog X.w) a (kV_is r1) hd.1 u2) ⟨_, dd.mapOf, ?_⟩
        rw [z1]
        exact ⟨y', H, I.tok _, z2, q y' z3⟩
    | false =>
      rw [c] at srt
      obtain ⟨b, rfl⟩ := rep_tup hk c hl.1
      cases r1
      have dd := dict_tup I hF at' rp srt
      obtain ⟨f1, f2⟩ := RepP.findT hk rp
      cases z : findK k kvs with
      | none =>
        rw [z] at q
        refine call_meetsIn PySem.F.slot_dict_get dd.typeIs PySem.F.entry_dict_get (PySem.F.args_dict_get_3 _ _ _) (meetsH_dict_get_default (nestedKind X.prog X.w) a b hd.1 u2) ⟨room8 hu, nkey k, _, Rep.isNk I hF hk hl.1, dd, ?_⟩
        rw [f2 z]
        exact ⟨dv, H, I.tok _, r2, q dv hl.2.1⟩
      | some d' =>
        rw [z] at q
        obtain ⟨b', u', y', z1, z2, z3⟩ := f1 d' z
        refine call_meetsIn PySem.F.slot_dict_get dd.typeIs PySem.F.entry_dict_get (PySem.F.args_dict_get_3 _ _ _) (meetsH_dict_get_default (nestedKind X.prog X.w) a b hd.1 u2) ⟨room8 hu, nkey k, _, Rep.isNk I hF hk hl.1, dd, ?_⟩
        rw [z1]
        exact ⟨y', H, I.tok _, z2, q y' z3⟩
  | [], hl, _ => simp only [RepL] at hl
  | [_], hl, _ => simp only [RepL] at hl; exact hl.2.elim
  | _ :: _ :: _ :: _, hl, _ => simp only [RepL] at hl; exact hl.2.2.elim
theorem base_plain {m : Str} {env : Env} (h : baseB ea = true) : attributeBase ea m env (eval ea env) = eval ea env := by
  unfold attributeBase
  split
  · cases h
  · rfl
theorem few2 {cpos : Pos} {env : Env} (h : plainB e1 = true) (h' : plainB e2 = true) : ((backTo cpos (starEach [e1, e2] env)).all (fun x => !x.1) && (backToKw cpos (keywordEach [] env)).all (fun x => x.1.isSome)
      && decide ([e1, e2].length + ([] : List Keyword).length + (if ([] : List Keyword).isEmpty then 0 else 1) < 30)) = true := by
  rw [star_plain h, star_plain h']; rfl
theorem s_get (hx : Hx g sc X M W cl) (hb : baseB ea = true) (hl : (ap.endLine == cp.line) = true) (ha : SE X M W cl x ea) (h1 : plainB e1 = true) (h2 : plainB e2 = true) (hs : SEs X M W cl xs [e1, e2]) : SE X M W cl (.mt .get x xs) (.Call (.Attribute ea "get" ap) [e1, e2] [] cp) := by
  have base := pe_mG (cpos := cp) (apos := ap) ty_D PySem.F.plainAttrs_dict PySem.F.slot_dict_get PySem.F.type_dict_get (mt_getD hx.un) ha.r (s_args hs) (base_plain hb) (few2 h1 h2) hl (star_plain h1) (by rw [star_plain h2]; rfl)
  refine SE.of hx (base.weak fun σ H Q ⟨ρ, F, ok, q⟩ => ?_) (fun ρ => by simp only [ev]; rfl) (fun ρ => ?_) (fun _ => rfl) (fun z => nomatch z)
  · simp only [ev, bind_fv] at q
    refine ⟨ρ, F, ok, q.bind.imp fun d F1 H1 x1 q1 v rv => ?_⟩
    cases d with
    | dict kvs =>
      simp only [mtTy, if_true, Mt.md] at q1
      refine ⟨⟨F1, kvs, x1.inn, rv⟩, ρ, F1, ok.ext x1, q1.bind.imp fun ds F2 H2 x2 q2 vs rs => ?_⟩
      match ds, rs, q2 with
      | [k, d], rs, q2 =>
        simp only [mtD] at q2
        by_cases c : okK k kvs = true
        · rw [if_pos c] at q2
          exact ⟨F2, kvs, k, d, x2.inn, rv.ext x2, c, rs, fun u ru => q2.ok x2.inn u ru⟩
        · rw [if_neg c] at q2; exact q2.elim
      | [], rs, q2 => exact q2.elim
      | [_], rs, q2 => exact q2.elim
      | _ :: _ :: _ :: _, rs, q2 => exact q2.elim
    | _ => exact q1.elim
  · simp only [ev, bind_fv]
    rw [bind_assoc]
    congr 1
    funext d
    split
    · rw [bind_assoc]
    · rfl
end
end Ad
set_option Elab.async false
set_option linter.all false
set_option maxRecDepth 100000
set_option maxHeartbeats 400000
/-! sorted. -/
namespace Ad
open PySem PySem.Spec PyProof.Rows L2
theorem leD_eq : leD = PySem.W.dataLe false (fun d : D => d) := by
  funext a b
  rw [PySem.W.dataLe_eq]
  rfl
theorem leD_total : PySem.W.TotalLe leD := by
  rw [leD_eq]
  exact PySem.W.sortLe_total _ _ _
theorem insL_split {x : D} : ∀ {l₁ l₂ : List D}, (∀ b ∈ l₁, leD x b = false) → (∀ b ∈ l₂, leD x b = true) → insL x (l₁ ++ l₂) = l₁ ++ x :: l₂
  | [], [], _, _ => rfl
  | [], y :: r, _, h => by
    simp only [List.nil_append, insL, h y List.mem_cons_self, if_true]
  | y :: l₁, l₂, h, h' => by
    simp only [List.cons_append, insL, h y List.mem_cons_self, Bool.false_eq_true, if_false]
    rw [insL_split (fun b hb => h b (List.mem_cons_of_mem _ hb)) h']
theorem isort_eq : ∀ (l : List D), isort l = l.mergeSort leD
  | [] => by simp [isort, List.mergeSort]
  | x :: r => by
    have ht := leD_total
    obtain ⟨l₁, l₂, h1, h2, h3⟩ := List.mergeSort_cons (le := leD) (fun a b c h1 h2 => ht.trans a b c h1 h2) (fun a b => Bool.or_eq_true_iff.mpr (ht.total a b)) x r
    have hp := List.pairwise_mergeSort (le := leD) (fun a b c h1 h2 => ht.trans a b c h1 h2) (fun a b => Bool.or_eq_true_iff.mpr (ht.total a b)) (x :: r)
    rw [h1] at hp
    simp only [isort]
    rw [isort_eq r, h2, h1]
    refine insL_split (fun b hb => by have := h3 b hb; simpa using this) fun b hb => ?_
    have := (List.pairwise_append.mp hp).2.1
    exact List.rel_of_pairwise_cons this hb
section
variable {X : Cx}
theorem each_rep {w : World} {K : Fr} {F H : Hp} {P : Value → D → Prop} : ∀ {vs : List V} {us : List Value} {ds : List D}, Vals vs us → RepL w K F vs ds → (∀ v u d, RelV v u → Rep w K F v d → d ∈ ds → P u d) → PySem.W.EachIs P us ds
  | [], [], [], _, _, _ => .nil
  | [], _ :: _, _, h, _, _ => nomatch h
  | _ :: _, [], _, h, _, _ => nomatch h
  | [], [], _ :: _, _, h, _ => by simp only [RepL] at h
  | _ :: _, _ :: _, [], _, h, _ => by simp only [RepL] at h
  | v :: vs, u :: us, d :: ds, .cons r t, h, q => by
    simp only [RepL] at h
    exact .cons (q v u d r h.1 List.mem_cons_self) (each_rep (H := H) t h.2 fun v u d a b c => q v u d a b (List.mem_cons_of_mem _ c))
theorem rep_each {w : World} {K : Fr} {F : Hp} : ∀ {us : List Value} {ds : List D}, PySem.W.EachIs (fun u d => ∃ v, RelV v u ∧ Rep w K F v d) us ds → ∃ vs, Vals vs us ∧ RepL w K F vs ds
  | _, _, .nil => ⟨[], .nil, by simp only [RepL]⟩
  | _, _, .cons ⟨v, r, h⟩ t => by
    obtain ⟨vs, a, b⟩ := rep_each t
    exact ⟨v :: vs, .cons r a, by simp only [RepL]; exact ⟨h, b⟩⟩
theorem isort_length : ∀ (l : List D), (isort l).length = l.length := fun l => by rw [isort_eq, List.length_mergeSort]
theorem cr_sortedL (hu : X.A.units + 200 < cLine) : CallR X (.builtin "sorted") (fun vs H Q => ∃ F ds v, Sub F H ∧ vs = [v] ∧ RepR X.w X.K F H v (.list ds) ∧ sortOk ds = true ∧ ∀ p ys, H p = none → RepL X.w X.K F ys (isort ds) → Q (.ref p) (upd H p (.lst ys))) := by
  intro pins s σ H vs us Q I r h
  obtain ⟨F, ds, v, hF, rfl, hv, ok, q⟩ := h
  obtain ⟨a, xs, rfl, hs, rl⟩ := hv.list hF
  obtain ⟨its, rv, hl, hz⟩ := I.list hs
  rw [Vals.ref1 r]
  simp only [sortOk, Bool.and_eq_true, Bool.or_eq_true, List.all_eq_true, decide_eq_true_eq] at ok
  obtain ⟨⟨⟨o1, o2⟩, o3⟩, o4⟩ := ok
  have er := each_rep (H := H) (P := fun u d => ∃ as, Reads s.heap u d as) rv rl fun v u d a b c => (Rep.dp d v (o3 d c).1 (Rep.sub hF _ _ b)).reads I d v u a
  have e := each_rep (H := H) (P := fun u d => ∃ v, RelV v u ∧ Rep X.w X.K F v d) rv rl fun v u d a b c => ⟨v, a, b⟩
  refine PySem.W.sorted_data (enc := fun d : D => d) (bs := ds) hl.isList e er (by rw [List.map_id']; exact fun d hd d' hd' => o1 d hd d' hd') ?_ (by rw [← line_eq]; exact o4) (fun d hd => by have := (o3 d hd).2; show X.A.units + 2 + d.depth < cLine; omega) fun out hlo ho => ?_
  · rw [List.map_id']
    rcases o2 with o | o
    · exact .inl fun d hd => by
        have := o d hd
        cases d <;> first | (cases this; done) | skip
        rename_i l
        cases l with
        | nil => cases this
        | cons x r => exact ⟨x, r, rfl⟩
    · exact .inr fun d hd => by
        have := o d hd
        cases d <;> first | (cases this; done) | exact ⟨(fun z => nomatch z), fun xs z => nomatch z⟩
  · rw [← leD_eq, ← isort_eq] at ho
    obtain ⟨ys, y1, y2⟩ := rep_each ho
    obtain ⟨ep, he⟩ := PyProof.Rows.sortedAll_at s.heap its out.toArray
    have hlen : ys.length ≤ sizeLine := by rw [y2.length, isort_length, ← line_eq]; exact o4
    exact ⟨.ref _, upd H (s.heap.objs.size + 1) (.lst ys), I.laid (t' := s.toks) (fun _ _ => PyProof.Rows.sortedAll_old) (Nat.le_succ _) ⟨hlen, out, ep, y1, he⟩, rfl, q _ ys (I.hok.fresh (Nat.le_succ _)) y2⟩
theorem each_of {P : Value → D → Prop} : ∀ {us : List Value} {ds : List D}, us.length = ds.length → (∀ (j : Nat) (u : Value) (d : D), us[j]? = some u → ds[j]? = some d → P u d) → PySem.W.EachIs P us ds
  | [], [], _, _ => .nil
  | [], _ :: _, h, _ => by cases h
  | _ :: _, [], h, _ => by cases h
  | u :: us, d :: ds, h, q => .cons (q 0 u d rfl rfl) (each_of (by simpa using h) fun j u d a b => q (j + 1) u d (by simpa using a) (by simpa using b))
theorem vks_at : ∀ {es : List DictEntry} {kvs : List (D × D)} {j : Nat} {k : Key} {x : Value} {d : D}, (vks es kvs)[j]? = some (k, x) → (kvs.map (·.1))[j]? = some d → k = keyK d
  | [], _, _, _, _, _, h, _ => by simp [vks] at h
  | _ :: _, [], _, _, _, _, h, _ => by simp [vks] at h
  | e :: es, (k', d') :: r, 0, k, x, d, h, h' => by
    simp only [vks, List.getElem?_cons_zero, Option.some.injEq, Prod.mk.injEq] at h
    simp only [List.map_cons, List.getElem?_cons_zero, Option.some.injEq] at h'
    rw [← h.1, ← h']
  | e :: es, (k', d') :: r, j + 1, k, x, d, h, h' => by
    simp only [vks, List.getElem?_cons_succ] at h
    simp only [List.map_cons, List.getElem?_cons_succ] at h'
    exact vks_at h h'
theorem rep_key {w : World} {K : Fr} {F : Hp} {d : D} {u : Value} (hf : keyF d = true) (h : keyIs (keyK d) u = true) : ∃ v, RelV v u ∧ Rep w K F v d := by
  rcases keyIs_shape h with ⟨i, t, e1, e2⟩ | ⟨x, t, e1, e2⟩
  · cases d <;> first | (cases hf; done) | skip
    · rw [keyK] at e1; cases e1
      exact ⟨.int i, ⟨t, e2⟩, by simp only [Rep]⟩
    · rw [keyK] at e1; cases e1
  · cases d <;> first | (cases hf; done) | skip
    · rw [keyK] at e1; cases e1
    · rw [keyK] at e1; cases e1
      exact ⟨.str x, ⟨t, e2⟩, by simp only [Rep]⟩
theorem sortable_of {ds : List D} (o2 : (∀ d ∈ ds, tup1 d = true) ∨ ∀ d ∈ ds, noTup d = true) : PySem.W.Sortable ds := by
  rcases o2 with o | o
  · exact .inl fun d hd => by
      have := o d hd
      cases d <;> first | (cases this; done) | skip
      rename_i l
      cases l with
      | nil => cases this
      | cons x r => exact ⟨x, r, rfl⟩
  · exact .inr fun d hd => by
      have := o d hd
      cases d <;> first | (cases this; done) | exact ⟨(fun z => nomatch z), fun xs z => nomatch z⟩
theorem cr_sortedK (hu : X.A.units + 200 < cLine) (hc : X.calm = true) : CallR X (.builtin "sorted") (fun vs H Q => ∃ F kvs v, Sub F H ∧ vs = [v] ∧ RepR X.w X.K F H v (.dict kvs) ∧ (∀ p ∈ kvs, keyF p.1 = true) ∧ sortOk (kvs.map (·.1)) = true ∧ ∀ p ys, H p = none → RepL X.w X.K F ys (isort (kvs.map (·.1))) → Q (.ref p) (upd H p (.lst ys))) := by
  intro pins s σ H vs us Q I r h
  obtain ⟨F, kvs, v, hF, rfl, hv, hf, ok, q⟩ := h
  obtain ⟨a, es, ep, rfl, hd, hz, rp⟩ := hv.dict hF
  rw [Vals.ref1 r]
  simp only [sortOk, Bool.and_eq_true, Bool.or_eq_true, List.all_eq_true, decide_eq_true_eq] at ok
  obtain ⟨⟨⟨o1, o2⟩, o3⟩, o4⟩ := ok
  have at' := Inv.dAt I hd
  have dd := dict_flat (P := X.prog) at' rp hf
  obtain ⟨ep', hat⟩ := dd.dictAt
  have hl := RepP.length rp
  have hvl := vks_len hl
  refine Calls.call_function_entry PyProof.Rows.kind_sorted PyProof.Rows.plain_sorted PyProof.Rows.entry_sorted (PyProof.Rows.args_sorted1 _) ?_
  unfold Builtin.«sorted»
  refine wpAny_bind (m := checkCount "sorted" 1 1 _) (wpAny_pure ?_)
  refine wpAny_bind (PySem.W.kdu_collect (A := X.A.in1) (PySem.W.kdl_dict (knd := mixKind X.prog X.w) (kvs := vks es kvs) (ep := ep') hd.1) (I.ok.hd hc) hat (by rw [hvl]; exact hz) fun h' tk acc hk hacc => ?_)
  have hal : acc.toList.length = (kvs.map (·.1)).length := by rw [Array.length_toList, hacc.1, hvl, List.length_map]
  have item : ∀ (j : Nat) (u : Value) (d : D), acc.toList[j]? = some u → (kvs.map (·.1))[j]? = some d → keyF d = true ∧ keyIs (keyK d) u = true := fun j u d e1 e2 => by
    obtain ⟨k, x, e3, e4⟩ := hacc.2 j u (by rw [← Array.getElem?_toList]; exact e1)
    have := vks_at e3 e2
    subst this
    obtain ⟨p, hp, rfl⟩ := List.mem_map.mp (List.mem_of_getElem? e2)
    exact ⟨hf p hp, e4⟩
  have I1 : Inv X pins σ H { s with heap := h', toks := tk } := I.kept hk
  have hlz : acc.toList.length ≤ sizeLine := by rw [hal, ← line_eq]; exact o4
  refine wpAny_bind (wpAny_newList ?_ hlz)
  have hoL : (h'.push (seqObj "list" acc.toList.toArray 0)).get? h'.objs.size = some (seqObj "list" acc.toList.toArray 0) := Heap.get?_push_size _ rfl
  show wpAny _ _ _ _ _ { s with heap := h'.push (seqObj "list" acc.toList.toArray 0), toks := tk }
  have e := each_of (P := fun u d => ∃ v, RelV v u ∧ Rep X.w X.K F v d) hal fun j u d a b => rep_key (item j u d a b).1 (item j u d a b).2
  have er := each_of (P := fun u d => ∃ as, Reads (h'.push (seqObj "list" acc.toList.toArray 0)) u d as ∧ h'.objs.size ∉ as) hal fun j u d a b => by
    obtain ⟨f1, f2⟩ := item j u d a b
    rcases keyIs_shape f2 with ⟨i, t, e1, e2⟩ | ⟨x, t, e1, e2⟩
    · cases d <;> first | (cases f1; done) | skip
      · rw [keyK] at e1; cases e1; subst e2
        exact ⟨[], .int .., by simp⟩
      · rw [keyK] at e1; cases e1
    · cases d <;> first | (cases f1; done) | skip
      · rw [keyK] at e1; cases e1
      · rw [keyK] at e1; cases e1; subst e2
        exact ⟨[], .str .., by simp⟩
  refine wpAny_bind (wpAny_holding (PySem.W.list_sort_data (s := { s with heap := h'.push (seqObj "list" acc.toList.toArray 0), toks := tk }) (enc := fun d : D => d) (bs := kvs.map (·.1)) hoL e er (by rw [List.map_id']; exact fun d hd d' hd' => o1 d hd d' hd') (by rw [List.map_id']; exact sortable_of o2) (by rw [← line_eq]; exact o4) (fun d hd => by have := (o3 d hd).2; show X.A.in1.units + 1 + d.depth < cLine; rw [Around.in1_units]; omega) fun out hlo ho => ?_))
  rw [← leD_eq, ← isort_eq] at ho
  obtain ⟨ys, y1, y2⟩ := rep_each ho
  obtain ⟨e', he'⟩ := PyProof.Rows.sortedHeap_at (vs := acc.toList) (out := out.toArray) hoL
  have hlen : ys.length ≤ sizeLine := by rw [y2.length, isort_length, ← line_eq]; exact o4
  refine wpAny_pure ⟨_, rfl, .ref h'.objs.size, upd H h'.objs.size (.lst ys), I1.laid (t' := tk) (fun b u e => ?_) (Nat.le_refl _)
    (show ObjOk X.prog X.w _ _ _ (.lst ys) from ⟨hlen, out, e', y1, he'⟩), rfl, q _ ys (I1.hok.fresh (Nat.le_refl _)) y2⟩
  have hb : b < h'.objs.size := Heap.lt_size e
  rw [PyProof.Rows.sortedHeap_old (Nat.ne_of_lt hb) (by rw [size_push']; exact Nat.lt_succ_of_lt hb)]
  exact Heap.get?_push_of_some _ e
/-- sorted of a tuple -/
theorem cr_sortedT (hu : X.A.units + 200 < cLine) : CallR X (.builtin "sorted") (fun vs H Q => ∃ F ds v, Sub F H ∧ vs = [v] ∧ RepR X.w X.K F H v (.tuple ds) ∧ sortOk ds = true ∧ ∀ p ys, H p = none → RepL X.w X.K F ys (isort ds) → Q (.ref p) (upd H p (.lst ys))) := by
  intro pins s σ H vs us Q I r h
  obtain ⟨F, ds, v, hF, rfl, hv, ok, q⟩ := h
  obtain ⟨a, xs, rfl, hs, rl⟩ := hv.tuple hF
  obtain ⟨its, rv, ⟨o, ho, hc, n, hd⟩, hz⟩ := I.tuple hs
  rw [Vals.ref1 r]
  simp only [sortOk, Bool.and_eq_true, Bool.or_eq_true, List.all_eq_true, decide_eq_true_eq] at ok
  obtain ⟨⟨⟨o1, o2⟩, o3⟩, o4⟩ := ok
  have hlz : its.length ≤ sizeLine := by rw [← rv.length]; exact hz
  refine Calls.call_function_entry PyProof.Rows.kind_sorted PyProof.Rows.plain_sorted PyProof.Rows.entry_sorted (PyProof.Rows.args_sorted1 _) ?_
  unfold Builtin.«sorted»
  refine wpAny_bind (m := checkCount "sorted" 1 1 _) (wpAny_pure ?_)
  refine wpAny_bind (wpAny_collect_seq (A := X.A.in1) a (T := "tuple") (.inr rfl) ho hc hd (fun h' hk => ?_) (by rw [List.size_toArray]; exact hlz))
  have I1 : Inv X pins σ H { s with heap := h', toks := s.toks } := I.kept hk
  refine wpAny_bind (wpAny_newList ?_ hlz)
  have hoL : (h'.push (seqObj "list" its.toArray 0)).get? h'.objs.size = some (seqObj "list" its.toArray 0) := Heap.get?_push_size _ rfl
  show wpAny _ _ _ _ _ { s with heap := h'.push (seqObj "list" its.toArray 0) }
  have e := each_rep (H := H) (P := fun u d => ∃ v, RelV v u ∧ Rep X.w X.K F v d) rv rl fun v u d a b c => ⟨v, a, b⟩
  have er := each_rep (H := H) (P := fun u d => ∃ as, Reads (h'.push (seqObj "list" its.toArray 0)) u d as ∧ h'.objs.size ∉ as) rv rl fun v u d a b c => by
    obtain ⟨as, ra⟩ := (Rep.dp d v (o3 d c).1 (Rep.sub hF _ _ b)).reads I1 d v u a
    refine ⟨as, PyProof.Rows.Reads.keeps (fun _ _ => Heap.get?_push_of_some _) ra, fun hm => ?_⟩
    obtain ⟨ob, hob⟩ := PyProof.On.reads_mem_get ra _ hm
    exact absurd (Heap.lt_size hob) (Nat.lt_irrefl _)
  refine wpAny_bind (wpAny_holding (PySem.W.list_sort_data (s := { s with heap := h'.push (seqObj "list" its.toArray 0) }) (enc := fun d : D => d) (bs := ds) hoL e er (by rw [List.map_id']; exact fun d hd d' hd' => o1 d hd d' hd') (by rw [List.map_id']; exact sortable_of o2) (by rw [← line_eq]; exact o4) (fun d hd => by have := (o3 d hd).2; show X.A.in1.units + 1 + d.depth < cLine; rw [Around.in1_units]; omega) fun out hol ho => ?_))
  rw [← leD_eq, ← isort_eq] at ho
  obtain ⟨ys, y1, y2⟩ := rep_each ho
  obtain ⟨e', he'⟩ := PyProof.Rows.sortedHeap_at (vs := its) (out := out.toArray) hoL
  have hlen : ys.length ≤ sizeLine := by rw [y2.length, isort_length, ← line_eq]; exact o4
  refine wpAny_pure ⟨_, rfl, .ref h'.objs.size, upd H h'.objs.size (.lst ys), I1.laid (t' := s.toks) (fun b u e => ?_) (Nat.le_refl _)
    (show ObjOk X.prog X.w _ _ _ (.lst ys) from ⟨hlen, out, e', y1, he'⟩), rfl, q _ ys (I1.hok.fresh (Nat.le_refl _)) y2⟩
  have hb : b < h'.objs.size := Heap.lt_size e
  rw [PyProof.Rows.sortedHeap_old (Nat.ne_of_lt hb) (by rw [size_push']; exact Nat.lt_succ_of_lt hb)]
  exact Heap.get?_push_of_some _ e
theorem cr_sorted (hu : X.A.units + 200 < cLine) (hc : X.calm = true) : CallR X (.builtin "sorted") (rP X .sorted) := by
  intro pins s σ H xs us Q I r h
  obtain ⟨F, ds, hF, hx, h⟩ := h
  simp only [prD] at h
  unfold sortedD at h
  split at h
  · obtain ⟨v, rfl, hv⟩ := hx.one
    unfold sortD at h
    split at h
    · rename_i c
      exact cr_sortedL hu pins s σ H _ us Q I r ⟨F, _, v, hF, rfl, hv, c, fun p ys hp ry => ResO.lst hF h ry hp⟩
    · exact h.elim
  · obtain ⟨v, rfl, hv⟩ := hx.one
    split at h
    · rename_i cf
      unfold sortD at h
      split at h
      · rename_i c
        exact cr_sortedK hu hc pins s σ H _ us Q I r ⟨F, _, v, hF, rfl, hv, fun p hp => List.all_eq_true.mp cf p hp, c, fun p ys hp ry => ResO.lst hF h ry hp⟩
      · exact h.elim
    · exact h.elim
  · obtain ⟨v, rfl, hv⟩ := hx.one
    unfold sortD at h
    split at h
    · rename_i c
      exact cr_sortedT hu pins s σ H _ us Q I r ⟨F, _, v, hF, rfl, hv, c, fun p ys hp ry => ResO.lst hF h ry hp⟩
    · exact h.elim
  · exact h.elim
end
section
variable {g : Gc} {sc : Scope} {X : Cx} {M : Pm} {W : WX} {cl : Cl} {pos p0 : Pos} {xs : List E} {e : Expr} {es : List Expr}
theorem s_sorted (hx : Hx g sc X M W cl) (hg : gloB sc "sorted" = true) (hc : g.calm = true) (h : SEs X M W cl xs (e :: es)) : SE X M W cl (.pr .sorted xs) (.Call (.Name "sorted" p0) (e :: es) [] pos) := by
  have ha := s_argsR h
  obtain ⟨he, hpl⟩ : starEach (e :: es) X.env = (false, eval e X.env) :: starEach es X.env ∧ (backTo pos (starEach es X.env)).any (·.1) = false := by
    cases h with
    | cons p _ r => exact ⟨star_plain p, r.plain _⟩
  obtain ⟨g1, g2⟩ := glo_i hg hx
  exact s_pr0 hx (pe_callB (cr_sorted hx.un (hx.calm.trans hc)) g1 (hx.blt _ (by decide +kernel)) boot_sorted ha (by decide) g2 he hpl)
end
end Ad
set_option Elab.async false
set_option linter.all false
set_option maxRecDepth 100000
set_option maxHeartbeats 400000
/-! count, index. -/
namespace Ad
open PySem PySem.Spec PyProof.Rows L2
theorem cntL_eq (x : D) : ∀ xs : List D, cntL x xs = xs.countP fun z => PyData.eqv z x
  | [] => rfl
  | y :: r => by
    rw [cntL, cntL_eq x r, List.countP_cons]
    cases PyData.eqv y x <;> simp <;> omega
theorem idxL_ok (x : D) : ∀ (xs : List D) (j : Nat), idxL x xs = some j → ∃ z, xs[j]? = some z ∧ PyData.eqv z x = true ∧ ∀ (m : Nat) (z' : D), m < j → xs[m]? = some z' → PyData.eqv z' x = false
  | [], j, h => by simp only [idxL] at h; cases h
  | y :: r, j, h => by
    rw [idxL] at h
    cases q : PyData.eqv y x with
    | true =>
      rw [q, if_pos rfl] at h
      cases h
      exact ⟨y, rfl, q, fun m z' hm => absurd hm (Nat.not_lt_zero m)⟩
    | false =>
      rw [q, if_neg Bool.false_ne_true] at h
      cases q2 : idxL x r with
      | none => rw [q2] at h; cases h
      | some i =>
        rw [q2] at h
        simp only [Option.map_some, Option.some.injEq] at h
        subst h
        obtain ⟨z, h1, h2, h3⟩ := idxL_ok x r i q2
        refine ⟨z, by simpa using h1, h2, fun m z' hm e => ?_⟩
        cases m with
        | zero => simp at e; subst e; exact q
        | succ m => exact h3 m z' (by omega) (by simpa using e)
section
variable {g : Gc} {sc : Scope} {X : Cx} {M : Pm} {W : WX} {cl : Cl} {pos p0 p1 p2 ap cp : Pos} {x a : E} {xs : List E} {ea e1 e2 : Expr}
def tyLs (X : Cx) (x : V) (H : Hp) : Prop := ∃ a xs, x = .ref a ∧ SqL X.K H a xs
theorem ty_Ls : TyOk X "list" (tyLs X) := by
  intro pins σ H s x v I r ty
  obtain ⟨a, xs, rfl, q⟩ := ty
  cases r
  obtain ⟨its, rv, ⟨o, n, ho, hc, hdn, hdt⟩, hlen⟩ := I.list q
  exact ⟨⟨o, ho, hc⟩, fun b z => by cases z; exact ⟨_, ho, hdn⟩⟩
def tyTs (X : Cx) (x : V) (H : Hp) : Prop := ∃ a xs F, Sub F H ∧ x = .ref a ∧ SqP X.K F a xs
theorem ty_Ts : TyOk X "tuple" (tyTs X) := by
  intro pins σ H s x v I r ty
  obtain ⟨a, xs, F, hF, rfl, q⟩ := ty
  cases r
  have q := SqP.sub hF q
  obtain ⟨its, rv, ⟨o, ho, hc, n, hdt⟩, hlen⟩ := I.tuple q.t
  refine ⟨⟨o, ho, hc⟩, fun b z => ?_⟩
  cases z
  rcases q with ⟨o', hd, h⟩ | ⟨o', its, n, hd, hk, _⟩
  · exact ⟨o', (show ObjOk X.prog X.w H s.heap a (.frz o' (.tup xs)) from I.hok a _ h).1, hd⟩
  · exact ⟨o', I.kIn _ _ hk, hd⟩
def rCnt (X : Cx) : V → List V → Hp → VK → Prop := fun x vs H Q => ∃ F a ys ds y d, Sub F H ∧ x = .ref a ∧ vs = [y] ∧ SqL X.K H a ys ∧ RepL X.w X.K F ys ds ∧ Rep X.w X.K F y d ∧ eqOk d = true ∧ eqOk (.list ds) = true ∧ Q (.int (cntL d ds)) H
def rCntT (X : Cx) : V → List V → Hp → VK → Prop := fun x vs H Q => ∃ F a ys ds y d, Sub F H ∧ x = .ref a ∧ vs = [y] ∧ SqT X.K H a ys ∧ RepL X.w X.K F ys ds ∧ Rep X.w X.K F y d ∧ eqOk d = true ∧ eqOk (.list ds) = true ∧ Q (.int (cntL d ds)) H
theorem cnt_core {pins : List (Addr × Obj)} {σ : L2.St} {F H : Hp} {s : Shared} {ys : List V} {ds : List D} {y : V} {d : D} {its : List Value} {uy : Value} (hu : X.A.units + 65 < cLine) (I : Inv X pins σ H s) (hF : Sub F H) (hl : RepL X.w X.K F ys ds) (hy : Rep X.w X.K F y d) (ed : eqOk d = true) (el : eqOk (.list ds) = true)
    (rv : Vals ys its) (ry : RelV y uy) : (∀ z, z ∈ its.toArray → SeqAt.EqAt X.A.in1 s z uy (PyData.eqv (SeqAt.readOf s.heap z) d)) ∧ its.toArray.toList.countP (fun u => PyData.eqv (SeqAt.readOf s.heap u) d) = cntL d ds := by
  have ca : PyData.canLayAll0 ds = true := by have := eqOk_lay el; simpa only [PyData.canLay0] using this
  obtain ⟨bs, r1⟩ := Dp.reads I d y uy (Rep.dp d y (eqOk_lay ed) (Rep.sub hF _ _ hy)) ry
  obtain ⟨as, r2⟩ := Dp.readsAll I ds ys its (RepL.dp ds ys ca (RepL.sub hF _ _ hl)) rv
  have hmap : its.map (SeqAt.readOf s.heap) = ds := SeqAt.readsAll_map ds its as ca r2
  refine ⟨SeqAt.items_eqAt (vs := its.toArray) (show ReadsAll s.heap its.toArray.toList ds as from r2) r1 ca (eqOk_lay ed) (room_in_shaped (eqOk_shaped ed) hu), ?_⟩
  rw [cntL_eq, ← hmap, List.countP_map]
  rfl
theorem mt_cnt (hu : X.A.units + 65 < cLine) : MtR X "list.count" (rCnt X) := by
  intro pins s σ H x vs v us Q I rx rv ⟨F, a, ys, ds, y, d, hF, ex, ev', ha, hl, hy, ed, el, q⟩
  subst ex ev'
  cases rx
  obtain ⟨uy, rfl, ry⟩ := vals1 rv
  obtain ⟨its, rv', ⟨⟨cls, dd, data, sls⟩, n, ho, hc, hdn, hdt⟩, hlen⟩ := I.list ha
  simp only at hc hdt
  subst hc hdt
  obtain ⟨k1, k2⟩ := cnt_core hu I hF hl hy ed el rv' ry
  rw [← k2] at q
  exact call_meets PySem.F.slot_list_count ⟨_, ho, rfl⟩ PySem.F.entry_list_count (PySem.F.args_list_count_2 _ _) (SeqAt.list_countAt a its.toArray n dd sls uy (fun u => PyData.eqv (SeqAt.readOf s.heap u) d)) ⟨ho, k1, ⟨.int _, H, I.tok _, ⟨_, rfl⟩, q⟩⟩
theorem mt_cntT (hu : X.A.units + 65 < cLine) : MtR X "tuple.count" (rCntT X) := by
  intro pins s σ H x vs v us Q I rx rv ⟨F, a, ys, ds, y, d, hF, ex, ev', ha, hl, hy, ed, el, q⟩
  subst ex ev'
  cases rx
  obtain ⟨uy, rfl, ry⟩ := vals1 rv
  obtain ⟨its, rv', ⟨⟨cls, dd, data, sls⟩, ho, hc, n, hdt⟩, hlen⟩ := I.tuple ha
  simp only at hc hdt
  subst hc hdt
  obtain ⟨k1, k2⟩ := cnt_core hu I hF hl hy ed el rv' ry
  rw [← k2] at q
  exact call_meets PySem.F.slot_tuple_count ⟨_, ho, rfl⟩ PySem.F.entry_tuple_count (PySem.F.args_tuple_count_2 _ _) (SeqAt.tuple_countAt a its.toArray n dd sls uy (fun u => PyData.eqv (SeqAt.readOf s.heap u) d)) ⟨ho, k1, ⟨.int _, H, I.tok _, ⟨_, rfl⟩, q⟩⟩
theorem few1D {cpos : Pos} {env : Env} (h : plainB e1 = true) : ((backTo cpos (starEach [e1] env)).all (fun x => !x.1) && (backToKw cpos (keywordEach [] env)).all (fun x => x.1.isSome)
      && decide ([e1].length + ([] : List Keyword).length + (if ([] : List Keyword).isEmpty then 0 else 1) < 30)) = true := by
  rw [star_plain h]; rfl
theorem _root_.L2.PE.or {e : Expr} {t u : TE} (h : PE X e t) (h' : PE X e u) : PE X e (fun σ H Q => t σ H Q ∨ u σ H Q) := ⟨fun pins s σ H Q I q => q.elim (h.run pins s σ H Q I) (h'.run pins s σ H Q I)⟩
theorem mt_fin (q : Mt) (hm : q.md = .v) (ρ : List Sl) : ev cl ρ .r (.mt q x xs) = ev cl ρ .v (.mt q x xs) ∧ ev cl ρ .t (.mt q x xs) = (ev cl ρ .v (.mt q x xs)).bind (Md.t).fin := by
  refine ⟨by simp only [ev]; rfl, ?_⟩
  simp only [ev, bind_fv]
  rw [bind_assoc]
  congr 1
  funext d
  split
  · rw [bind_assoc]
  · rfl
theorem s_count (hx : Hx g sc X M W cl) (hb : baseB ea = true) (hl : (ap.endLine == cp.line) = true) (ha : SE X M W cl x ea) (h1 : plainB e1 = true) (hs : SEs X M W cl xs [e1]) : SE X M W cl (.mt .count x xs) (.Call (.Attribute ea "count" ap) [e1] [] cp) := by
  have hu : X.A.units + 65 < cLine := by have := hx.un; omega
  have bL := pe_mG (cpos := cp) (apos := ap) ty_Ls PySem.F.plainAttrs_list PySem.F.slot_list_count PySem.F.type_list_count (mt_cnt hu) ha.r (s_args hs) (base_plain hb) (few1D h1) hl (star_plain h1) rfl
  have bT := pe_mG (cpos := cp) (apos := ap) ty_Ts PySem.F.plainAttrs_tuple PySem.F.slot_tuple_count PySem.F.type_tuple_count (mt_cntT hu) ha.r (s_args hs) (base_plain hb) (few1D h1) hl (star_plain h1) rfl
  refine SE.of hx ((bL.or bT).weak fun σ H Q ⟨ρ, F, ok, q⟩ => ?_) (fun ρ => (mt_fin .count rfl ρ).1) (fun ρ => (mt_fin .count rfl ρ).2) (fun _ => rfl) (fun z => nomatch z)
  simp only [ev, bind_fv] at q
  cases z : ev cl ρ .r x with
  | bad => rw [z] at q; exact q.elim
  | ex c fs => rw [z] at q; exact .inl ⟨ρ, F, ok, by rw [z]; exact q⟩
  | ok d =>
    rw [z] at q
    cases d with
    | list ds =>
      refine .inl ⟨ρ, F, ok, ?_⟩
      rw [z]
      intro F1 H1 x1 v rv
      simp only [bind_ok, mtTy, if_true, Mt.md] at q
      have q := After.ext (r := (evs cl ρ .v xs).bind fun ds' => mtD .count (.list ds) ds') q x1
      obtain ⟨p, ys, ev', sq, rl⟩ := rv.list x1.inn
      refine ⟨⟨p, ys, ev', sq⟩, ρ, F1, ok.ext x1, q.bind.imp fun ds' F2 H2 x2 q2 vs rs => ?_⟩
      match ds', rs, q2 with
      | [d], rs, q2 =>
        simp only [mtD] at q2
        split at q2
        · rename_i c
          obtain ⟨c1, c2⟩ := Bool.and_eq_true_iff.mp c
          match vs, rs with
          | [y], rs =>
            simp only [RepL] at rs
            exact ⟨F2, p, ys, ds, y, d, x2.inn, ev', rfl, SqL.sub x2.sub sq, RepL.sub x2.subF _ _ rl, rs.1, c1, c2, q2.ok x2.inn _ (by simp only [Rep])⟩
          | [], rs => simp only [RepL] at rs
          | _ :: _ :: _, rs => simp only [RepL] at rs; exact rs.2.elim
        · exact q2.elim
      | [], rs, q2 => exact q2.elim
      | _ :: _ :: _, rs, q2 => exact q2.elim
    | tuple ds =>
      refine .inr ⟨ρ, F, ok, ?_⟩
      rw [z]
      intro F1 H1 x1 v rv
      simp only [bind_ok, mtTy, if_true, Mt.md] at q
      have q := After.ext (r := (evs cl ρ .v xs).bind fun ds' => mtD .count (.tuple ds) ds') q x1
      obtain ⟨p, ys, ev', sq, rl⟩ := rv.tupleF
      refine ⟨⟨p, ys, F1, x1.inn, ev', sq⟩, ρ, F1, ok.ext x1, q.bind.imp fun ds' F2 H2 x2 q2 vs rs => ?_⟩
      match ds', rs, q2 with
      | [d], rs, q2 =>
        simp only [mtD] at q2
        split at q2
        · rename_i c
          obtain ⟨c1, c2⟩ := Bool.and_eq_true_iff.mp c
          match vs, rs with
          | [y], rs =>
            simp only [RepL] at rs
            exact ⟨F2, p, ys, ds, y, d, x2.inn, ev', rfl, SqT.sub (x2.subF.trans x2.inn) sq.t, RepL.sub x2.subF _ _ rl, rs.1, c1, c2, q2.ok x2.inn _ (by simp only [Rep])⟩
          | [], rs => simp only [RepL] at rs
          | _ :: _ :: _, rs => simp only [RepL] at rs; exact rs.2.elim
        · exact q2.elim
      | [], rs, q2 => exact q2.elim
      | _ :: _ :: _, rs, q2 => exact q2.elim
    | _ => exact q.elim
theorem s_index (hx : Hx g sc X M W cl) (hb : baseB ea = true) (hl : (ap.endLine == cp.line) = true) (ha : SE X M W cl x ea) (h1 : plainB e1 = true) (hs : SEs X M W cl xs [e1]) : SE X M W cl (.mt .index x xs) (.Call (.Attribute ea "index" ap) [e1] [] cp) := by
  have hu : X.A.units + 65 < cLine := by have := hx.un; omega
  have bL := pe_mG (cpos := cp) (apos := ap) ty_Ls PySem.F.plainAttrs_list PySem.F.slot_list_index PySem.F.type_list_index (mt_indexD hu) ha.r (s_args hs) (base_plain hb) (few1D h1) hl (star_plain h1) rfl
  refine SE.of hx (bL.weak fun σ H Q ⟨ρ, F, ok, q⟩ => ?_) (fun ρ => (mt_fin .index rfl ρ).1) (fun ρ => (mt_fin .index rfl ρ).2) (fun _ => rfl) (fun z => nomatch z)
  simp only [ev, bind_fv] at q
  refine ⟨ρ, F, ok, q.bind.imp fun d F1 H1 x1 q v rv => ?_⟩
  cases d with
  | list ds =>
    simp only [mtTy, if_true, Mt.md] at q
    obtain ⟨p, ys, ev', sq, rl⟩ := rv.list x1.inn
    refine ⟨⟨p, ys, ev', sq⟩, ρ, F1, ok.ext x1, q.bind.imp fun ds' F2 H2 x2 q2 vs rs => ?_⟩
    match ds', rs, q2 with
    | [d], rs, q2 =>
      simp only [mtD] at q2
      split at q2
      · rename_i c
        obtain ⟨c1, c2⟩ := Bool.and_eq_true_iff.mp c
        cases z : idxL d ds with
        | none => rw [z] at q2; exact q2.elim
        | some j =>
          rw [z] at q2
          obtain ⟨zz, k1, k2, k3⟩ := idxL_ok d ds j z
          match vs, rs with
          | [y], rs =>
            simp only [RepL] at rs
            have ca : PyData.canLayAll0 ds = true := by have := eqOk_lay c2; simpa only [PyData.canLay0] using this
            exact ⟨p, y, d, ds, j, zz, ev', rfl, .lst (SqL.sub x2.sub sq) (RepL.dp ds ys ca (RepL.sub (x2.subF.trans x2.inn) _ _ rl)), Rep.dp d y (eqOk_lay c1) (Rep.sub x2.inn _ _ rs.1), eqOk_shaped c2, eqOk_shaped c1, k1, k2, k3, q2.ok x2.inn _ (by simp only [Rep])⟩
          | [], rs => simp only [RepL] at rs
          | _ :: _ :: _, rs => simp only [RepL] at rs; exact rs.2.elim
      · exact q2.elim
    | [], rs, q2 => exact q2.elim
    | _ :: _ :: _, rs, q2 => exact q2.elim
  | _ => exact q.elim
/-! ### list(range(n)) -/
theorem rep_rg {w : World} {K : Fr} {F : Hp} (n : Nat) : ∀ (m : Nat) (a : Int), RepL w K F ((List.range' m n).map fun i : Nat => V.int (a + (i : Nat))) (rngL (a + m) 1 n) := by
  induction n with
  | zero => intro m a; simp only [List.range', List.map_nil, rngL, RepL]
  | succ n ih =>
    intro m a
    simp only [List.range', List.map_cons, rngL, RepL]
    refine ⟨by simp only [Rep], ?_⟩
    have := ih (m + 1) a
    rw [show a + ((m + 1 : Nat) : Int) = a + m + 1 by omega] at this
    exact this
theorem s_rngL (hx : Hx g sc X M W cl) (hg : gloB sc "list" = true) (hg2 : gloB sc "range" = true) (hc : g.calm = true) (h1 : plainB ea = true) (h : SE X M W cl a ea) : SE X M W cl (.pr .rng [a]) (.Call (.Name "list" p0) [.Call (.Name "range" p1) [ea] [] p2] [] pos) := by
  obtain ⟨g1, _⟩ := glo_i hg hx
  obtain ⟨g2, _⟩ := glo_i hg2 hx
  have base := pe_listRg (p := p0) (pos := pos) (hx.calm.trans hc) g1 (hx.blt _ (by decide +kernel)) (prg_1 (p := p1) (pos := p2) g2 (hx.blt _ (by decide +kernel)) h.r (star_plain h1))
  have eq : ∀ ρ m, ev cl ρ m (.pr .rng [a]) = (ev cl ρ .r a).bind fun d => (rangeL [d]).bind fun l => m.fin (.list l) := fun ρ m => by
    simp only [ev, evs, prD]
    cases ev cl ρ .r a with
    | ok d => simp only [bind_ok]; rw [bind_assoc]; rfl
    | ex c fs => rfl
    | bad => rfl
  refine SE.ofO hx (base.weak fun σ H Q ⟨ρ, F, ok, q⟩ => ?_) (fun ρ d q => ?_) (fun ρ => by rw [eq, eq]; rfl) (fun ρ => ?_) (fun _ => rfl)
  · rw [eq] at q
    refine ⟨ρ, F, ok, q.bind.imp fun d F1 H1 x1 q v rv => ?_⟩
    cases d with
    | int n =>
      simp only [rangeL] at q
      split at q
      · rename_i hn
        have hn : n.natAbs ≤ 16777216 := hn
        refine ⟨n, rv.int, ⟨by omega, by omega, by omega, by omega, by omega⟩, fun p hp => ?_⟩
        simp only [bind_ok, fin_v] at q
        refine ResO.lst (ds := rngL 0 1 n.toNat) x1.inn (show ResO X.w X.K F1 H1 (.ok (.list _)) Q from fun p F' H' x z z2 o => (q F' H' x).2 p (by
          cases q : H p with
          | none => rfl
          | some o => rw [x1.sub _ _ q] at z; cases z) z2 o) ?_ hp
        have := rep_rg (w := X.w) (K := X.K) (F := F1) n.toNat 0 0
        unfold rgV
        rw [List.range_eq_range']
        simpa using this
      · exact q.elim
    | _ => exact q.elim
  · rw [eq] at q
    cases z : ev cl ρ .r a with
    | ok d =>
      rw [z] at q
      simp only [bind_ok] at q
      cases z2 : rangeL [d] with
      | ok l => rw [z2] at q; injection q with q; subst q; rfl
      | ex c fs => rw [z2] at q; cases q
      | bad => rw [z2] at q; cases q
    | ex c fs => rw [z] at q; cases q
    | bad => rw [z] at q; cases q
  · rw [eq, eq, bind_assoc]
    congr
    funext d
    rw [bind_assoc]
    rfl
end
end Ad
set_option Elab.async false
set_option linter.all false
set_option maxRecDepth 100000
set_option maxHeartbeats 4000000
/-! Texts joined and split. -/
namespace Ad
open PySem PySem.Spec PyProof.Rows L2
section
variable {g : Gc} {sc : Scope} {X : Cx} {M : Pm} {W : WX} {cl : Cl} {x y : E} {ea e1 : Expr} {ap cp : Pos} {xs : List E}
theorem ev_mt1 (q : Mt) (ρ : List Sl) (m : Md) : ev cl ρ m (.mt q x [y]) = (ev cl ρ .r x).bind fun d => if mtTy q d then (ev cl ρ q.md y).bind fun c => (mtD q d [c]).bind m.fin else .bad := by
  simp only [ev, evs]
  cases ev cl ρ .r x with
  | ok d =>
    simp only [bind_ok]
    split
    · cases ev cl ρ q.md y <;> rfl
    · rfl
  | ex c fs => rfl
  | bad => rfl
theorem rep_strs {w : World} {K : Fr} {F : Hp} : ∀ ys : List Str, RepL w K F (ys.map V.str) (ys.map PyData.str)
  | [] => by simp only [List.map_nil, RepL]
  | y :: r => by simp only [List.map_cons, RepL, Rep]; exact ⟨trivial, rep_strs r⟩
theorem s_split (hx : Hx g sc X M W cl) (hb : baseB ea = true) (hl : (ap.endLine == cp.line) = true) (ha : SE X M W cl x ea) (h1 : plainB e1 = true) (hs : SEs X M W cl xs [e1]) : SE X M W cl (.mt .split x xs) (.Call (.Attribute ea "split" ap) [e1] [] cp) := by
  cases hs with
  | cons _ hy hn =>
  cases hn
  rename_i y pl
  have base := pe_split (apos := ap) (pos := cp) ha.r hy.v (star_plain h1) (base_plain hb) hl
  refine SE.ofO hx (base.weak fun σ H Q ⟨ρ, F, ok, q⟩ => ?_) (fun ρ d q => ?_) (fun ρ => by rw [ev_mt1, ev_mt1]; rfl) (fun ρ => ?_) (fun _ => rfl)
  · rw [ev_mt1] at q
    refine ⟨ρ, F, ok, q.bind.imp fun d F1 H1 x1 q v rv => ?_⟩
    cases d with
    | str a =>
      simp only [mtTy, if_true, Mt.md] at q
      have ev' := rv.str
      subst ev'
      refine ⟨⟨a, rfl⟩, ρ, F1, ok.ext x1, q.bind.imp fun c F2 H2 x2 q2 v2 rv2 => ?_⟩
      cases c with
      | str b =>
        simp only [mtD] at q2
        split at q2
        · rename_i hc
          have ev2 : v2 = .str b := by simpa only [Rep] using rv2
          subst ev2
          refine ⟨a, b, rfl, rfl, hc.1, hc.2, fun p hp => ?_⟩
          simp only [bind_ok, fin_v] at q2
          refine ResO.lst (ds := (Txt.split a b).map .str) x2.inn (show ResO X.w X.K F2 H2 (.ok (.list _)) Q from fun p F' H' x z z2 o => (q2 F' H' x).2 p (by
            cases q : H p with
            | none => rfl
            | some o => rw [x2.sub _ _ (x1.sub _ _ q)] at z; cases z) z2 o) (rep_strs _) hp
        · exact q2.elim
      | _ => exact q2.elim
    | _ => exact q.elim
  · rw [ev_mt1] at q
    cases z : ev cl ρ .r x with
    | ok d =>
      rw [z] at q
      simp only [bind_ok] at q
      split at q
      · cases z2 : ev cl ρ Mt.split.md y with
        | ok c =>
          rw [z2] at q
          simp only [bind_ok, mtD] at q
          cases d <;> first | (cases q; done) | skip
          cases c <;> first | (cases q; done) | skip
          simp only at q
          split at q
          · injection q with q; subst q; rfl
          · cases q
        | ex c fs => rw [z2] at q; cases q
        | bad => rw [z2] at q; cases q
      · cases q
    | ex c fs => rw [z] at q; cases q
    | bad => rw [z] at q; cases q
  · exact (mt_fin .split rfl ρ).2
theorem strs_ok : ∀ {ds : List D} {ys : List Str}, strs? ds = some ys → ds = ys.map .str
  | [], ys, h => by simp only [strs?] at h; cases h; rfl
  | d :: r, ys, h => by
    cases d <;> simp only [strs?] at h <;> first | (cases h; done) | skip
    rename_i x
    cases e : strs? r with
    | none => rw [e] at h; cases h
    | some zs => rw [e] at h; cases h; rw [strs_ok e]; rfl
theorem strs_rep {w : World} {K : Fr} {F : Hp} : ∀ {ys : List Str} {vs : List V}, RepL w K F vs (ys.map PyData.str) → vs = ys.map V.str
  | [], [], _ => rfl
  | [], _ :: _, h => by simp only [List.map_nil, RepL] at h
  | _ :: _, [], h => by simp only [List.map_cons, RepL] at h
  | y :: r, v :: vs, h => by
    simp only [List.map_cons, RepL, Rep] at h
    rw [h.1, strs_rep h.2]; rfl
theorem s_join (hx : Hx g sc X M W cl) (hb : baseB ea = true) (hl : (ap.endLine == cp.line) = true) (ha : SE X M W cl x ea) (h1 : plainB e1 = true) (hs : SEs X M W cl xs [e1]) : SE X M W cl (.mt .join x xs) (.Call (.Attribute ea "join" ap) [e1] [] cp) := by
  cases hs with
  | cons _ hy hn =>
  cases hn
  rename_i y pl
  have base := pe_join (apos := ap) (pos := cp) ha.r hy.r (star_plain h1) (base_plain hb) hl
  refine SE.of hx (base.weak fun σ H Q ⟨ρ, F, ok, q⟩ => ?_) (fun ρ => by rw [ev_mt1, ev_mt1]; rfl) (fun ρ => ?_) (fun _ => rfl) (fun z => nomatch z)
  · rw [ev_mt1] at q
    refine ⟨ρ, F, ok, q.bind.imp fun d F1 H1 x1 q v rv => ?_⟩
    cases d with
    | str a =>
      simp only [mtTy, if_true, Mt.md] at q
      have ev' := rv.str
      subst ev'
      refine ⟨⟨a, rfl⟩, ρ, F1, ok.ext x1, q.bind.imp fun c F2 H2 x2 q2 v2 rv2 => ?_⟩
      cases c with
      | list ds =>
        simp only [mtD] at q2
        cases e : strs? ds with
        | none => rw [e] at q2; exact q2.elim
        | some ys =>
          rw [e] at q2
          simp only at q2
          split at q2
          · rename_i hc
            obtain ⟨p, zs, ep, sq, rl⟩ := rv2.list x2.inn
            rw [strs_ok e] at rl
            rw [strs_rep rl] at sq
            simp only [bind_ok, fin_v] at q2
            exact ⟨a, p, ys, rfl, by rw [ep], .inl sq, hc, q2.ok x2.inn _ (by simp only [Rep])⟩
          · exact q2.elim
      | _ => exact q2.elim
    | _ => exact q.elim
  · rw [ev_mt1, ev_mt1, bind_assoc]
    congr
    funext d
    split
    · rw [bind_assoc]
      congr
      funext c
      rw [bind_fv]
    · rfl
end
end Ad
set_option Elab.async false
set_option linter.all false
set_option maxRecDepth 100000
set_option maxHeartbeats 4000000
/-! A text from behind. -/
namespace Ad
open PySem PySem.Spec PyProof.Rows L2
section
variable {X : Cx}
theorem pe_revS {e : Expr} {te : TE} {k : Nat} {p1 p2 p3 pos : Pos} (he : PE X e te) : PE X (.Subscript e (.Slice none none (some (.UnaryOp .USub (.Constant (.int 1) k p1) p2)) p3) pos) (fun σ H Q => te σ H fun x H1 => ∃ z, x = .str z ∧ z.length ≤ sizeLine ∧ Q (.str (revS z)) H1) := by
  refine ⟨fun pins s σ H Q I h => ?_⟩
  refine Subscript_ (thn (he.run pins s σ H _ I h) fun v s1 ⟨x, H1, I1, r1, q1⟩ => ?_)
  obtain ⟨z, ex, hz, q⟩ := q1
  subst ex
  obtain ⟨t, rfl⟩ := r1
  have hst : PO X (some (.UnaryOp .USub (.Constant (.int 1) k p1) p2)) (tPart (tUn (rU fun i => .int (-i)) (tC (.int 1)))) := po_some (pe_un un_neg pe_int)
  refine wpAny_Slice (thn (po_none.run pins s1 σ H1 (fun o H2 => o = none ∧ H2 = H1) I1 ⟨rfl, rfl⟩) fun vl s2 ⟨l, H2, I2, pl, el, e2⟩ => ?_)
  subst el e2
  refine thn (po_none.run pins s2 σ H2 (fun o H3 => o = none ∧ H3 = H2) I2 ⟨rfl, rfl⟩) fun vu s3 ⟨u, H3, I3, pu, eu, e3⟩ => ?_
  subst eu e3
  refine thn (hst.run pins s3 σ H3 (fun o H4 => o = some (-1) ∧ H4 = H3) I3 ⟨1, rfl, -1, rfl, rfl, rfl⟩) fun vs s4 ⟨o, H4, I4, ps, eo, e4⟩ => ?_
  subst eo e4
  have I5 : Inv X pins σ H4 { s4 with heap := s4.heap.push { cls := .type "slice", data := .fields #[vl, vu, vs] } } := I4.kept (t' := s4.toks) fun b ob q => Heap.get?_push_of_some _ q
  show wpAny (model X.prog X.w) X.A (subscriptTail e (.Slice none none (some (.UnaryOp .USub (.Constant (.int 1) k p1) p2)) p3) (.str z t) (.ref s4.heap.objs.size)) (EP X pins σ Q) X.xe { s4 with heap := s4.heap.push { cls := .type "slice", data := .fields #[vl, vu, vs] } }
  cases pl
  cases pu
  cases ps
  rename_i uk _
  refine tail_any (ops := [.ref s4.heap.objs.size, .str z t]) (typeIs_str _ _ _) (PySem.F.slot_str_getitem.lookup) ?_ (by with_unfolding_all rfl)
  refine wpAny_getItem_str_slice (l := none) (u := none) (st := some (-1, uk)) ⟨_, Heap.get?_push_size _ rfl, rfl, rfl⟩ rfl (post_val_or_str ⟨Nat.le_trans (Txt.sliceBy_le z none none (-1, uk) (show (-1 : Int) ≠ 0 by decide)) hz, fun t' c => ?_⟩)
  exact ⟨.str (revS z), H4, I5.tok c, ⟨t', rfl⟩, q⟩
end
section
variable {g : Gc} {sc : Scope} {X : Cx} {M : Pm} {W : WX} {cl : Cl} {xs : List E} {y : Expr} {k : Nat} {p1 p2 p3 pos : Pos}
theorem s_rev (hx : Hx g sc X M W cl) (hs : SEs X M W cl xs [y]) : SE X M W cl (.pr .rev xs) (.Subscript y (.Slice none none (some (.UnaryOp .USub (.Constant (.int 1) k p1) p2)) p3) pos) := by
  cases hs with
  | cons _ hy hn =>
  cases hn
  refine SE.of hx ((pe_revS (k := k) (p1 := p1) (p2 := p2) (p3 := p3) (pos := pos) hy.r).weak fun σ H Q ⟨ρ, F, ok, h⟩ => ?_) (fun ρ => by simp only [ev, bind_fv, bind_fr]) (fun ρ => by simp only [ev, bind_fv, bind_assoc]) (fun _ => rfl) (fun z => nomatch z)
  simp only [ev, evs, bind_fv, bind_assoc, bind_ok, prD] at h
  refine ⟨ρ, F, ok, h.bind.imp fun d F1 H1 x1 q v rv => ?_⟩
  cases d with
  | str z =>
    simp only [revD] at q
    split at q
    · rename_i hc
      have e := rv.str
      subst e
      exact ⟨z, rfl, hc, q.ok x1.inn _ (by simp only [Rep])⟩
    · exact q.elim
  | _ => exact q.elim
end
end Ad
set_option Elab.async false
set_option linter.all false
set_option maxRecDepth 100000
set_option maxHeartbeats 4000000
/-! set(list of whole numbers), sorted. -/
namespace Ad
open PySem PySem.Spec PyProof.Rows L2
section
variable {P : Program} {w : World} {A : Around} {E : Value → Shared → Prop} {s : Shared}
/-- a new set -/
abbrev newS (w : World) : Obj := { cls := .type "set", dict := none, data := .set #[] 0 (.fresh 0 0 (!w.params.followText "set-order")) }
theorem setOf_list {l : Addr} {items : Array Value} (ns : List Int) {Q : Value → Shared → Prop} (hh : A.handled = none) (hl : s.heap.IsList l items) (hit : IntsAre items.toList ns) (hb : ns.length + 1 < scanBound)
    (h : ∀ (h' : Heap) (tk c : Nat), SetR w h' s.heap.objs.size (fun j => decide (j ∈ ns)) c → c ≤ ns.length → (∀ b o, s.heap.get? b = some o → h'.get? b = some o) → Q (.ref s.heap.objs.size) { s with heap := h', toks := tk }) :
    wpAny (model P w) A (call (.type "set") [.ref l]) Q E s := by
  have hisz : items.size = ns.length := Array.length_toList.symm.trans (IntsAre.length hit)
  obtain ⟨c, tl, hmro⟩ := F.called_set.mro
  have hmade := F.called_set.made
  have hsub := F.called_set.sub
  refine wpAny_call (codeAny_of_tree ?_)
  show wpAny _ _ (callAny (.type "set") _) _ _ _
  refine wpAny_pure ⟨Code.quiet_builtin _ (by decide +kernel), codeAny_builtin F.entry_type_call ?_⟩
  rw [Around.under_plain (weight_type_call_type "set" [.ref l] []) rfl]
  have h1 := F.called_set.notType
  have h2 := F.called_set.canCreate
  have hct := F.typeCall_set_1 (.ref l)
  repeat (any_goals (first | assumption | wp_step))
  refine codeAny_mono (code_set_led1 (.ref l) (E := E) (Q₁ := fun obj s₁ => obj = .ref s.heap.objs.size ∧ s₁ = { s with heap := s.heap.push (newS w) }) ⟨rfl, rfl⟩) fun r s₁ hr => ?_
  rcases r with e | fl
  · exact hr
  rcases fl with obj | _ | _ | _ <;> try exact hr.elim
  obtain ⟨rfl, rfl⟩ := hr
  have hS : (s.heap.push (newS w)).get? s.heap.objs.size = some (newS w) := Heap.get?_push_size _ rfl
  have hT : Shared.TypeIs { s with heap := s.heap.push (newS w) } (.ref s.heap.objs.size) "set" := ⟨_, hS, rfl⟩
  have hli := F.called_set.init.lookup
  have hbi := F.called_set.init.bind (.ref s.heap.objs.size)
  repeat (any_goals (first | assumption | wp_step))
  refine codeAny_mono (codeAny_call_builtin (R := wants (fun r s₂ => r = .none ∧ ∃ h' tk c, s₂ = { s with heap := h', toks := tk } ∧ SetR w h' s.heap.objs.size (fun j => decide (j ∈ ns)) c ∧ c ≤ ns.length ∧
      (∀ b o, s.heap.get? b = some o → h'.get? b = some o)) E) F.called_set.init.plain F.entry_set_init (check_set_init_1 hT ?_)) fun r₂ s₂ hr₂ => ?_
  · obtain ⟨⟨ocls, odict, odata, oslots⟩, hol, hcl, nl, hdl⟩ := hl
    simp only at hcl hdl
    subst hcl; subst hdl
    have hol' : (s.heap.push (newS w)).get? l = some { cls := .type "list", dict := odict, data := .seq items nl, slots := oslots } := Heap.get?_push_of_some _ hol
    have hsls := F.sub_list_set
    have hslf := F.sub_list_frozenset
    have hne : (Value.type "list" == Value.type "dict") = false := by decide
    have hl1 : (s.heap.push (newS w)).IsList l items := ⟨_, hol', rfl, nl, rfl⟩
    unfold Builtin.«set.__init__» noKeywords Builtin.Frozenset.updateFrom
    generalize hPI : pyIter = PI
    wp_walk
    subst hPI
    refine wpAny_pyIter_list hl1 ?_
    refine wpAny_bind (wpAny_runValue ?_)
    have hlS : l < s.heap.objs.size := Heap.lt_size hol
    have hh3 : A.in1.in1.in1.handled = none := by simp [hh]
    have hneI : l ≠ (s.heap.push (newS w)).objs.size := by rw [Heap.size_push]; exact Nat.ne_of_lt (Nat.lt_succ_of_lt hlS)
    have hSf : s.heap.objs.size ∉ [(s.heap.push (newS w)).objs.size, l] := by
      rw [Heap.size_push]; simp only [List.mem_cons, List.mem_singleton, List.not_mem_nil, or_false, not_or]
      exact ⟨Nat.ne_of_lt (Nat.lt_succ_self _), Nat.ne_of_gt hlS⟩
    have hval : ∀ (i : Nat) (v : Value), items[i]? = some v → ∃ k t, ns[i]? = some k ∧ v = .int k t := fun i v hv => by
      have hi : i < ns.length := by rw [← hisz]; exact (Array.getElem?_eq_some_iff.mp hv).1
      obtain ⟨t, e⟩ := PyProof.Rows.IntsAre.int_at hit i v (by rw [Array.getElem?_toList]; exact hv)
      refine ⟨ns[i], t, List.getElem?_eq_getElem hi, ?_⟩
      rw [e, List.getD_eq_getElem?_getD, List.getElem?_eq_getElem hi] <;> rfl
    refine set_update_ints ((Walks.list hh3 _ l hneI items).toS) s.heap.objs.size hSf ns hisz hb hval (items.size - 0) 0 _ (by omega) (Nat.zero_le _)
      ⟨⟨_, Heap.get?_push_size _ rfl, rfl, rfl⟩, (hl1.push _)⟩ ⟨0, Nat.le_refl 0, setR_new_at (Heap.get?_push_of_some _ hS)⟩ fun s' c' hm hc' hS' => ?_
    obtain ⟨h', g2, d', tk', os'⟩ := s'
    obtain rfl : g2 = s.gens := hm.gens
    obtain rfl : d' = s.drawn := hm.drawn
    obtain rfl : os' = s.os := hm.os
    show wpAny _ _ _ _ _ _
    refine wpAny_pure ?_
    show wpAny _ _ (ret Value.none) _ _ _
    rw [hisz] at hc'
    refine wpAny_pure ⟨rfl, h', tk', c', rfl, hS', hc', fun b o e => ?_⟩
    have hb0 : b < s.heap.objs.size := Heap.lt_size e
    exact hm.heap b o (by
      rw [Heap.size_push]; simp only [List.mem_cons, List.mem_singleton, List.not_mem_nil, or_false, not_or]
      exact ⟨Nat.ne_of_lt hb0, Nat.ne_of_lt (Nat.lt_succ_of_lt hb0)⟩) (Heap.get?_push_of_some _ (Heap.get?_push_of_some _ e))
  · rcases r₂ with e | fl₂
    · exact hr₂
    rcases fl₂ with r | _ | _ | _ <;> try exact hr₂.elim
    obtain ⟨rfl, h', tk, c', rfl, hS', hc', hk'⟩ := hr₂
    repeat (any_goals (first | assumption | wp_step))
    exact h _ _ _ hS' hc' hk'
end
section
variable {X : Cx}
/-- set(list), as a call -/
def rSetOfL (K : Fr) (w : World) : List V → Hp → VK → Prop := fun xs H Q => ∃ (l : Addr) (ns : List Int), xs = [V.ref l] ∧ SqL K H l (ns.map V.int) ∧ ns.length ≤ 1000 ∧
  ∀ a c, H a = none → c ≤ ns.length → Q (.ref a) (upd H a (SetO w a (fun j => decide (j ∈ ns)) c))
theorem cr_setOfL (hc : X.calm = true) : CallR X (.type "set") (rSetOfL X.K X.w) := by
  intro pins s σ H vs us Q I r h
  obtain ⟨l, ns, rfl, hq, hl, q⟩ := h
  rw [Vals.ref1 r]
  obtain ⟨its, rv, pl, hz⟩ := I.list hq
  have hi : IntsAre its.toArray.toList ns := by simpa using ints_of_vals rv
  refine setOf_list ns (I.ok.hd hc) pl.isList hi (by unfold scanBound; omega) fun h' tk c R hcn k => ?_
  exact ⟨.ref s.heap.objs.size, _, I.laid (t' := tk) k (Nat.le_refl _) (setO_new R), rfl, q _ c (I.hok.fresh (Nat.le_refl _)) hcn⟩
end
end Ad
set_option Elab.async false
set_option linter.all false
set_option maxRecDepth 100000
set_option maxHeartbeats 4000000
/-! sorted(set(..)). -/
namespace Ad
open PySem PySem.Spec PyProof.Rows L2
/-! ### rising lists -/
theorem uins_mem (k j : Int) : ∀ l : List Int, j ∈ uins k l ↔ j = k ∨ j ∈ l
  | [] => by simp [uins]
  | a :: r => by
    unfold uins
    split
    · simp
    · split
      · rename_i e; subst e; simp
      · simp [uins_mem k j r]; constructor <;> (rintro (h | h | h) <;> simp [h])
theorem uins_up (k : Int) : ∀ l : List Int, l.Pairwise (· < ·) → (uins k l).Pairwise (· < ·)
  | [], _ => by simp [uins]
  | a :: r, h => by
    rw [List.pairwise_cons] at h
    unfold uins
    split
    · rename_i c
      rw [List.pairwise_cons, List.pairwise_cons]
      refine ⟨fun x hx => ?_, h⟩
      rcases List.mem_cons.mp hx with e | e
      · rw [e]; exact c
      · exact Int.lt_trans c (h.1 x e)
    · split
      · rw [List.pairwise_cons]; exact h
      · rename_i c1 c2
        rw [List.pairwise_cons]
        refine ⟨fun x hx => ?_, uins_up k r h.2⟩
        rcases (uins_mem k x r).mp hx with e | e
        · rw [e]; omega
        · exact h.1 x e
theorem usort_mem (j : Int) : ∀ l : List Int, j ∈ usort l ↔ j ∈ l
  | [] => by simp [usort]
  | k :: r => by simp only [usort, uins_mem, usort_mem j r, List.mem_cons]
theorem usort_up : ∀ l : List Int, (usort l).Pairwise (· < ·)
  | [] => by simp [usort]
  | k :: r => uins_up k _ (usort_up r)
theorem up_eq : ∀ (l m : List Int), l.Pairwise (· < ·) → m.Pairwise (· < ·) → (∀ k, k ∈ l ↔ k ∈ m) → l = m
  | [], [], _, _, _ => rfl
  | [], b :: m, _, _, h => absurd ((h b).mpr List.mem_cons_self) (by simp)
  | a :: l, [], _, _, h => absurd ((h a).mp List.mem_cons_self) (by simp)
  | a :: l, b :: m, h1, h2, h => by
    rw [List.pairwise_cons] at h1 h2
    have e : a = b := by
      rcases List.mem_cons.mp ((h a).mp List.mem_cons_self) with e | e
      · exact e
      · rcases List.mem_cons.mp ((h b).mpr List.mem_cons_self) with e2 | e2
        · exact e2.symm
        · have x1 := h2.1 a e; have x2 := h1.1 b e2; omega
    subst e
    rw [up_eq l m h1.2 h2.2 fun k => ?_]
    have hk := h k
    simp only [List.mem_cons] at hk
    constructor
    · intro z
      rcases hk.mp (.inr z) with e | e
      · subst e; exact absurd (h1.1 k z) (by omega)
      · exact e
    · intro z
      rcases hk.mpr (.inr z) with e | e
      · subst e; exact absurd (h2.1 k z) (by omega)
      · exact e
theorem rep_ints {w : World} {K : Fr} {F : Hp} : ∀ ns : List Int, RepL w K F (ns.map V.int) (ns.map PyData.int)
  | [] => by simp only [List.map_nil, RepL]
  | k :: r => by simp only [List.map_cons, RepL]; exact ⟨by simp only [Rep], rep_ints r⟩
section
variable {g : Gc} {sc : Scope} {X : Cx} {M : Pm} {W : WX} {cl : Cl} {pos p0 p1 p2 : Pos} {a : E} {ea : Expr}
theorem s_sset (hx : Hx g sc X M W cl) (hg : gloB sc "sorted" = true) (hg2 : gloB sc "set" = true) (hc : g.calm = true) (h1 : plainB ea = true) (h : SE X M W cl a ea) : SE X M W cl (.pr .sset [a]) (.Call (.Name "sorted" p0) [.Call (.Name "set" p1) [ea] [] p2] [] pos) := by
  obtain ⟨g1, g1'⟩ := glo_i hg hx
  obtain ⟨g2, g2'⟩ := glo_i hg2 hx
  have hcm := hx.calm.trans hc
  have inner := pe_callTy (p := p1) (pos := p2) (cr_setOfL hcm) g2 (hx.blt _ (by decide +kernel)) boot_set (pa_cons h.r pa_nil (star_plain h1)) (by decide) g2' (star_plain h1) rfl
  have base := pe_callB (p := p0) (pos := pos) (cr_sortedSet hcm) g1 (hx.blt _ (by decide +kernel)) boot_sorted (pa_cons inner pa_nil rfl) (by decide) g1' rfl rfl
  have eq : ∀ ρ m, ev cl ρ m (.pr .sset [a]) = (ev cl ρ .r a).bind fun d => (ssetD [d]).bind m.fin := fun ρ m => by
    simp only [ev, evs, prD]
    cases ev cl ρ .r a with
    | ok d => rfl
    | ex c fs => rfl
    | bad => rfl
  refine SE.ofO hx (base.weak fun σ H Q ⟨ρ, F, ok, q⟩ => ?_) (fun ρ d q => ?_) (fun ρ => by rw [eq, eq]; rfl) (fun ρ => ?_) (fun _ => rfl)
  · rw [eq] at q
    refine ⟨ρ, F, ok, q.bind.imp fun d F1 H1 x1 q v rv => ?_⟩
    cases d with
    | list xs =>
      cases e : ints? xs with
      | none => simp only [ssetD, e] at q; exact q.elim
      | some ns =>
        by_cases hl : ns.length < 64
        · simp only [ssetD, e, Option.bind_some, if_pos hl] at q
          obtain ⟨l, vs, rfl, hs, rl⟩ := rv.list x1.inn
          obtain ⟨rfl, rfl⟩ := ints_of rl e
          refine ⟨l, ns, rfl, hs, by omega, fun s c hs0 hcn => ⟨s, _, c, rfl, upd_same, by omega, fun ns' p hp hm _ hpn => ?_⟩⟩
          have en : ns' = usort ns := up_eq _ _ hp (usort_up ns) fun k => by rw [hm k, usort_mem, decide_eq_true_eq]
          subst en
          have x2 := Ext.newO (F := F1) (H := H1) (p := s) (o := SetO X.w s (fun j => decide (j ∈ ns)) c) x1.inn hs0
          refine ResO.lst (ds := (usort ns).map .int) x2.inn (show ResO X.w X.K F1 _ (.ok (.list _)) Q from fun p F' H' x z z2 o => (q F' H' (x2.trans x)).2 p (by
            cases q : H p with
            | none => rfl
            | some o => rw [x2.sub _ _ (x1.sub _ _ q)] at z; cases z) z2 o) (rep_ints _) hpn
        · simp only [ssetD, e, Option.bind_some, if_neg hl] at q; exact q.elim
    | _ => exact q.elim
  · rw [eq] at q
    cases z : ev cl ρ .r a with
    | ok d0 =>
      rw [z] at q
      simp only [bind_ok] at q
      cases d0 with
      | list xs =>
        cases e : ints? xs with
        | none => simp only [ssetD, e] at q; cases q
        | some ns =>
          by_cases hl : ns.length < 64
          · simp only [ssetD, e, Option.bind_some, if_pos hl] at q; injection q with q; subst q; rfl
          · simp only [ssetD, e, Option.bind_some, if_neg hl] at q; cases q
      | _ => cases q
    | ex c fs => rw [z] at q; cases q
    | bad => rw [z] at q; cases q
  · rw [eq, eq, bind_assoc]
    congr
    funext d
    rw [bind_assoc]
    rfl
end
end Ad
set_option Elab.async false
set_option linter.all false
set_option maxRecDepth 100000
set_option maxHeartbeats 4000000
namespace Ad
open PySem PySem.Spec PyProof.Rows L2
mutual
theorem subB_ok : ∀ (t : T) (own : List Nat), subB t own = true → ∀ j ∈ slotsT t, j ∈ own
  | .nm i, own, h, j, hj => by
    simp only [slotsT, List.mem_singleton] at hj
    subst hj
    simp only [subB] at h
    exact List.contains_iff_mem.mp h
  | .tp ts, own, h, j, hj => by
    simp only [subB] at h
    simp only [slotsT] at hj
    exact subBs_ok ts own h j hj
  | .st i k, own, h, j, hj => by simp only [subB] at h; cases h
theorem subBs_ok : ∀ (ts : List T) (own : List Nat), subBs ts own = true → ∀ j ∈ slotsT.slotsTs ts, j ∈ own
  | [], own, _, j, hj => by simp only [slotsT.slotsTs] at hj; cases hj
  | t :: ts, own, h, j, hj => by
    simp only [subBs, Bool.and_eq_true] at h
    simp only [slotsT.slotsTs, List.mem_append] at hj
    rcases hj with hj | hj
    · exact subB_ok t own h.1 j hj
    · exact subBs_ok ts own h.2 j hj
end
theorem SEs.ne {X : Cx} {M : Pm} {W : WX} {cl : Cl} {xs : List E} {es : List Expr} (h : SEs X M W cl xs es) : True := trivial
mutual
theorem sE {g : Gc} {cl : Cl} : ∀ (ir : E) (sc : Scope) (e : Expr) (X : Cx) (M : Pm) (W : WX), Hx g sc X M W cl → chkE g sc ir e = true → SE X M W cl ir e
  | .var i, sc, e, X, M, W, hx, h => by
    simp only [chkE] at h
    cases e <;> first | exact s_var hx h | cases h
  | .lit d, sc, e, X, M, W, hx, h => by
    simp only [chkE] at h
    cases e <;> first | exact s_lit hx h | cases h
  | .gl x d, sc, e, X, M, W, hx, h => by
    simp only [chkE] at h
    cases e <;> first | cases h | skip
    simp only [Bool.and_eq_true, decide_eq_true_eq] at h
    obtain ⟨⟨rfl, h1⟩, h2⟩ := h
    cases q : g.G.lookup x with
    | none => rw [q] at h2; cases h2
    | some d' =>
      rw [q] at h2
      have := eqS_eq _ _ h2
      subst this
      exact s_gl hx h1 q
  | .bin op a b, sc, e, X, M, W, hx, h => by
    simp only [chkE] at h
    cases e <;> first | cases h | skip
    simp only [Bool.and_eq_true, decide_eq_true_eq] at h
    obtain ⟨⟨rfl, h1⟩, h2⟩ := h
    exact s_bin hx (sE a sc _ X M W hx h1) (sE b sc _ X M W hx h2)
  | .neg a, sc, e, X, M, W, hx, h => by
    simp only [chkE] at h
    cases e <;> first | cases h | skip
    rename_i op x p
    cases op <;> first | cases h | skip
    exact s_neg hx (sE a sc _ X M W hx h)
  | .not a, sc, e, X, M, W, hx, h => by
    simp only [chkE] at h
    cases e <;> first | cases h | skip
    rename_i op x p
    cases op <;> first | cases h | skip
    exact s_not hx (sE a sc _ X M W hx h)
  | .bop op es, sc, e, X, M, W, hx, h => by
    simp only [chkE] at h
    cases e <;> first | cases h | skip
    simp only [Bool.and_eq_true, decide_eq_true_eq] at h
    obtain ⟨⟨rfl, h1⟩, h2⟩ := h
    exact s_bop hx (sEs es sc _ X M W hx h2) (by rintro rfl; simp at h1)
  | .ite c a b, sc, e, X, M, W, hx, h => by
    simp only [chkE] at h
    cases e <;> first | cases h | skip
    simp only [Bool.and_eq_true] at h
    exact s_ite hx (sE c sc _ X M W hx h.1.1) (sE a sc _ X M W hx h.1.2) (sE b sc _ X M W hx h.2)
  | .cmp op a b, sc, e, X, M, W, hx, h => by
    simp only [chkE] at h
    cases e <;> first | cases h | skip
    rename_i l ops rs p
    match ops, rs, h with
    | [o], [r], h =>
      simp only [Bool.and_eq_true, decide_eq_true_eq] at h
      obtain ⟨⟨⟨rfl, h0⟩, h1⟩, h2⟩ := h
      exact s_cmp hx h0 (sE a sc _ X M W hx h1) (sE b sc _ X M W hx h2)
  | .chn o1 o2 a b c, sc, e, X, M, W, hx, h => by
    simp only [chkE] at h
    cases e <;> first | cases h | skip
    rename_i l ops rs p
    match ops, rs, h with
    | [p1, p2], [m, r], h =>
      simp only [Bool.and_eq_true, decide_eq_true_eq] at h
      obtain ⟨⟨⟨⟨⟨⟨rfl, rfl⟩, h0⟩, h1⟩, h2⟩, h3⟩, h4⟩ := h
      exact s_chn hx h0 h1 (sE a sc _ X M W hx h2) (sE b sc _ X M W hx h3) (sE c sc _ X M W hx h4)
  | .tup es, sc, e, X, M, W, hx, h => by
    simp only [chkE] at h
    cases e <;> first | cases h | skip
    simp only [Bool.and_eq_true] at h
    exact s_tup hx (sEs es sc _ X M W hx h.1) h.2
  | .lst es, sc, e, X, M, W, hx, h => by
    simp only [chkE] at h
    cases e <;> first | cases h | skip
    simp only [Bool.and_eq_true] at h
    exact s_lst hx (sEs es sc _ X M W hx h.1) h.2
  | .dct kvs, sc, e, X, M, W, hx, h => by
    simp only [chkE] at h
    cases e <;> first | cases h | skip
    simp only [Bool.and_eq_true, decide_eq_true_eq] at h
    exact s_dct hx (sPs kvs sc _ _ X M W hx h.2) h.1
  | .idx a i, sc, e, X, M, W, hx, h => by
    simp only [chkE] at h
    cases e <;> first | cases h | skip
    simp only [Bool.and_eq_true] at h
    exact s_idx hx h.1.1 (sE a sc _ X M W hx h.1.2) (sE i sc _ X M W hx h.2)
  | .slc a lo hi, sc, e, X, M, W, hx, h => by
    simp only [chkE] at h
    cases e <;> first | cases h | skip
    rename_i v s p
    cases s <;> first | cases h | skip
    rename_i l u st p2
    cases st <;> first | cases h | skip
    simp only [Bool.and_eq_true] at h
    exact s_slc hx (sE a sc _ X M W hx h.1.1) (sO lo sc _ X M W hx h.1.2) (sO hi sc _ X M W hx h.2)
  | .call f es ks, sc, e, X, M, W, hx, h => by
    simp only [chkE] at h
    split at h
    · rename_i x p0 as kws pos
      simp only [Bool.and_eq_true, decide_eq_true_eq] at h
      obtain ⟨⟨⟨⟨h1, h4⟩, h5⟩, h7⟩, h8⟩ := h
      have hs := sEs es sc _ X M W hx h7
      exact sKs ks sc x f es as kws X M W hx h1 h4 h5 hs h8
    · cases h
  | .callV i es, sc, e, X, M, W, hx, h => by
    simp only [chkE] at h
    split at h
    · rename_i x p0 y p1 p2 e1 pos
      simp only [Bool.and_eq_true, decide_eq_true_eq] at h
      obtain ⟨⟨⟨⟨⟨⟨⟨⟨h1, h2⟩, hi⟩, rfl⟩, h3⟩, rfl⟩, h4⟩, h5⟩, h6⟩ := h
      have hs := sEs es sc _ X M W hx h5
      match es, h6, hs with
      | [x1], _, .cons hp hse .nil => exact s_bk hx h1 h2 hi h3 h4 hp hse
    · cases h
  | .fnv f, sc, e, X, M, W, hx, h => by
    have no : ∀ {σ : L2.St} {F H : Hp} {ρ : List Sl} {P : D → Hp → Hp → Prop} {m : Md}, After X.w X.K M W σ F H (ev cl ρ m (.fnv f)) P → False := fun {σ F H ρ P m} h => by
      simp only [ev] at h; exact h
    exact ⟨⟨fun pins s σ H Q I ⟨ρ, F, ok, h⟩ => (no h).elim⟩, ⟨fun pins s σ H Q I ⟨ρ, F, ok, h⟩ => (no h).elim⟩, ⟨fun pins s σ H Q I ⟨ρ, F, ok, h⟩ => (no h).elim⟩, fun z => nomatch z⟩
  | .pr p es, sc, e, X, M, W, hx, h => by
    simp only [chkE] at h
    split at h
    · split at h
      · rename_i x _ y _ as kws _ _
        simp only [Bool.and_eq_true, decide_eq_true_eq] at h
        obtain ⟨⟨⟨⟨⟨⟨⟨rfl, h1⟩, rfl⟩, h2⟩, h3⟩, h4⟩, h5⟩, h6⟩ := h
        have hk2 : kws = [] := List.isEmpty_iff.mp h4
        subst hk2
        have hs := sEs es sc _ X M W hx h5
        cases hs with
        | nil => cases h6
        | cons p1 s1 r1 =>
          cases r1 with
          | nil => exact s_rngL hx h1 h2 h3 p1 s1
          | cons _ _ _ => simp at h6
      · cases h
    · split at h
      · rename_i x _ y _ as kws _ _
        simp only [Bool.and_eq_true, decide_eq_true_eq] at h
        obtain ⟨⟨⟨⟨⟨⟨⟨rfl, h1⟩, rfl⟩, h2⟩, h3⟩, h4⟩, h5⟩, h6⟩ := h
        have hk2 : kws = [] := List.isEmpty_iff.mp h4
        subst hk2
        have hs := sEs es sc _ X M W hx h5
        cases hs with
        | nil => cases h6
        | cons p1 s1 r1 =>
          cases r1 with
          | nil => exact s_sset hx h1 h2 h3 p1 s1
          | cons _ _ _ => simp at h6
      · cases h
    · split at h
      · exact s_rev hx (sEs es sc _ X M W hx h)
      · cases h
    rename_i hrng hss hrev
    cases e <;> first | cases h | skip
    rename_i fn as kws pp
    cases fn <;> first | cases h | skip
    simp only [Bool.and_eq_true, decide_eq_true_eq] at h
    obtain ⟨⟨⟨⟨⟨⟨⟨rfl, h0⟩, h1⟩, h2⟩, h3⟩, h4⟩, h5⟩, h6⟩ := h
    have hk2 : kws = [] := List.isEmpty_iff.mp h3
    subst hk2
    have hs := sEs es sc _ X M W hx h5
    cases as with
    | nil => cases h4
    | cons a r =>
      cases z : prB p with
      | true => exact s_pr hx z h1 h2 hs
      | false =>
        rw [z, Bool.false_or] at h6
        cases p <;> first | (exact Bool.noConfusion h6) | skip
        exact s_sorted hx h1 h2 hs
  | .isi a t, sc, e, X, M, W, hx, h => by
    simp only [chkE] at h
    cases e <;> first | cases h | skip
    rename_i fn as kws pp
    cases fn <;> first | cases h | skip
    match as, kws, h with
    | [y, .Name z p1], [], h =>
      simp only [Bool.and_eq_true, decide_eq_true_eq] at h
      obtain ⟨⟨⟨⟨⟨rfl, h1⟩, rfl⟩, h2⟩, h3⟩, h4⟩ := h
      cases t with
      | cls zz cs =>
        rw [Bool.and_eq_true, Bool.and_eq_true] at h4
        obtain ⟨⟨k1, k2⟩, k3⟩ := h4
        split at k3
        · rw [Bool.or_eq_true] at k2
          rcases k2 with k2 | k2
          · exact s_isiC hx (by simpa using k1) h1 h2 (of_decide_eq_true k2) k3
          · rw [Bool.and_eq_true, decide_eq_true_eq, decide_eq_true_eq] at k2
            obtain ⟨e1, e2⟩ := k2
            subst e2
            have e1 : zz = "ValueError" := e1
            subst e1
            exact s_isiV hx (by simpa using k1) h1 h2 k3
        · cases k3
      | _ => exact s_isi hx (by intro x cs z; cases z) h1 h2 h3 (sE a sc _ X M W hx h4)
  | .mt m a es, sc, e, X, M, W, hx, h => by
    simp only [chkE] at h
    split at h
    · cases m <;> first | (exact Bool.noConfusion h) | skip
      simp only [Bool.and_eq_true, decide_eq_true_eq] at h
      obtain ⟨⟨⟨⟨⟨⟨rfl, h1⟩, h2⟩, h3⟩, h4⟩, h5⟩, h6⟩ := h
      exact s_get hx h1 h2 (sE a sc _ X M W hx h3) h4 h5 (sEs es sc _ X M W hx h6)
    · simp only [Bool.and_eq_true, decide_eq_true_eq] at h
      obtain ⟨⟨⟨⟨⟨⟨rfl, h0⟩, h1⟩, h2⟩, h3⟩, h4⟩, h5⟩ := h
      cases m <;> first | (exact Bool.noConfusion h0) | skip
      · exact s_count hx h1 h2 (sE a sc _ X M W hx h3) h4 (sEs es sc _ X M W hx h5)
      · exact s_index hx h1 h2 (sE a sc _ X M W hx h3) h4 (sEs es sc _ X M W hx h5)
      · exact s_join hx h1 h2 (sE a sc _ X M W hx h3) h4 (sEs es sc _ X M W hx h5)
      · exact s_split hx h1 h2 (sE a sc _ X M W hx h3) h4 (sEs es sc _ X M W hx h5)
    · cases h
  | .lc elt t it ifs own, sc, e, X, M, W, hx, h => by
    simp only [chkE] at h
    cases e <;> first | cases h | skip
    rename_i el gs scope p
    match gs, h with
    | [⟨tg, iter, fs, as⟩], h =>
      simp only [Bool.and_eq_true, decide_eq_true_eq] at h
      obtain ⟨⟨⟨⟨⟨⟨⟨⟨⟨⟨h1, rfl⟩, h2⟩, h3⟩, h4⟩, h5⟩, h6⟩, h7⟩, h8⟩, h9⟩, h10⟩ := h
      exact s_lc hx h1 h2 h3 (fun v hv => of_decide_eq_true (List.all_eq_true.mp h10 v hv)) (subB_ok t own h9) h4 (tp_ok h4 h5) (sI it sc iter tg X M W hx .r (.inr rfl) (by simp only [h1]) h5) h7 (fun X' M' hx' => sEs ifs _ fs X' M' Wf hx' h6) (fun X' M' hx' => sE elt _ el X' M' Wf hx' h8)
  | .dc ke ve t it ifs own, sc, e, X, M, W, hx, h => by
    simp only [chkE] at h
    cases e <;> first | cases h | skip
    rename_i ek el gs scope p
    match gs, h with
    | [⟨tg, iter, fs, as⟩], h =>
      simp only [Bool.and_eq_true, decide_eq_true_eq] at h
      obtain ⟨⟨⟨⟨⟨⟨⟨⟨⟨⟨⟨h1, rfl⟩, h2⟩, h3⟩, h4⟩, h5⟩, h6⟩, h7⟩, h8⟩, h8b⟩, h9⟩, h10⟩ := h
      exact s_dc hx h1 h2 h3 (fun v hv => of_decide_eq_true (List.all_eq_true.mp h10 v hv)) (subB_ok t own h9) h4 (tp_ok h4 h5) (sI it sc iter tg X M W hx .r (.inr rfl) (by simp only [h1]) h5) h7 (fun X' M' hx' => sEs ifs _ fs X' M' Wf hx' h6) (fun X' M' hx' => sE ke _ ek X' M' Wf hx' h8) (fun X' M' hx' => sE ve _ el X' M' Wf hx' h8b)
  | .fld i f, sc, e, X, M, W, hx, h => by
    simp only [chkE] at h
    split at h
    · rename_i v p1 n p2
      rw [Bool.or_eq_true] at h
      rcases h with h | h
      case inr =>
        simp only [Bool.and_eq_true, decide_eq_true_eq] at h
        obtain ⟨⟨⟨_, rfl⟩, rfl⟩, h4⟩ := h
        exact s_sfld hx h4
      simp only [Bool.and_eq_true, decide_eq_true_eq, Bool.not_eq_true'] at h
      obtain ⟨⟨⟨⟨rfl, h1⟩, h2⟩, h3⟩, h4⟩ := h
      match hq : g.hd, h3 with
      | (z, cs) :: r, _ => exact s_fld (z := z) (cs := cs) hx h2 (by rw [hq, List.lookup_cons, beq_self_eq_true]) h1 h4
    · cases h
theorem sEs {g : Gc} {cl : Cl} : ∀ (xs : List E) (sc : Scope) (es : List Expr) (X : Cx) (M : Pm) (W : WX), Hx g sc X M W cl → chkEs g sc xs es = true → SEs X M W cl xs es
  | [], sc, es, X, M, W, hx, h => by
    simp only [chkEs] at h
    have := List.isEmpty_iff.mp h
    subst this
    exact .nil
  | x :: xs, sc, es, X, M, W, hx, h => by
    simp only [chkEs] at h
    cases es with
    | nil => cases h
    | cons e r =>
      simp only [Bool.and_eq_true] at h
      exact .cons h.1.1 (sE x sc e X M W hx h.1.2) (sEs xs sc r X M W hx h.2)
theorem sPs {g : Gc} {cl : Cl} : ∀ (kvs : List (E × E)) (sc : Scope) (ks : List (Option Expr)) (es : List Expr) (X : Cx) (M : Pm) (W : WX), Hx g sc X M W cl → chkPs g sc kvs ks es = true → SPs X M W cl kvs ks es
  | [], sc, ks, es, X, M, W, hx, h => by
    simp only [chkPs, Bool.and_eq_true] at h
    have e1 := List.isEmpty_iff.mp h.1
    have e2 := List.isEmpty_iff.mp h.2
    subst e1 e2
    exact .nil
  | (k, x) :: r, sc, ks, es, X, M, W, hx, h => by
    simp only [chkPs] at h
    cases ks with
    | nil => cases h
    | cons k1 ks' =>
      cases k1 with
      | none => cases h
      | some ek =>
        cases es with
        | nil => cases h
        | cons e es' =>
          simp only [Bool.and_eq_true] at h
          exact .cons (sE k sc ek X M W hx h.1.1) (sE x sc e X M W hx h.1.2) (sPs r sc ks' es' X M W hx h.2)
theorem sKs {g : Gc} {cl : Cl} : ∀ (ks : List (Str × E)) (sc : Scope) (x : Str) (f : Nat) (es : List E) (as : List Expr) (kws : List Keyword) (X : Cx) (M : Pm) (W : WX), Hx g sc X M W cl → g.calm = true → g.fn[f]? = some x → gloB sc x = true → SEs X M W cl es as → chkKs g sc x (!as.isEmpty) ks kws = true → ∀ {p0 pos : Pos}, SE X M W cl (.call f es ks) (.Call (.Name x p0) as kws pos)
  | [], sc, x, f, es, as, kws, X, M, W, hx, h1, h4, h5, hs, h8, p0, pos => by
    simp only [chkKs] at h8
    have hk2 := List.isEmpty_iff.mp h8
    subst hk2
    exact s_call hx h1 h4 h5 hs
  | (kn, ke) :: r, sc, x, f, es, as, kws, X, M, W, hx, h1, h4, h5, hs, h8, p0, pos => by
    simp only [chkKs] at h8
    split at h8
    · simp only [Bool.and_eq_true, decide_eq_true_eq] at h8
      obtain ⟨⟨⟨⟨h9, h10⟩, rfl⟩, h11⟩, h12⟩ := h8
      have hr := List.isEmpty_iff.mp h9
      subst hr
      have hk := sE ke sc _ X M W hx h12
      cases hs with
      | nil => simp at h10
      | cons p1 s1 r1 => exact s_callK hx h1 h4 h11 h5 (.cons p1 s1 r1) hk
    · cases h8
theorem sO {g : Gc} {cl : Cl} : ∀ (o : Option E) (sc : Scope) (e : Option Expr) (X : Cx) (M : Pm) (W : WX), Hx g sc X M W cl → chkO g sc o e = true → PO X e (tOp' X M W cl o)
  | none, sc, e, X, M, W, hx, h => by
    simp only [chkO] at h
    cases e with
    | none => exact s_none
    | some y => cases h
  | some x, sc, e, X, M, W, hx, h => by
    simp only [chkO] at h
    cases e with
    | none => cases h
    | some y => exact s_some (sE x sc y X M W hx h)
theorem sI {g : Gc} {cl : Cl} : ∀ (it : I) (sc : Scope) (e tg : Expr) (X : Cx) (M : Pm) (W : WX), Hx g sc X M W cl → ∀ (m : Md), (m = .v ∨ m = .r) → g.calm = true → chkI g sc it e tg = true → PI X tg e (tI X M W cl m it)
  | .seq x, sc, e, tg, X, M, W, hx, m, hm, hc, h => by
    simp only [chkI] at h
    exact s_seq hx hm (sE x sc e X M W hx h)
  | .rng es, sc, e, tg, X, M, W, hx, m, hm, hc, h => by
    simp only [chkI] at h
    cases e <;> first | cases h | skip
    rename_i fn as kws pp
    cases fn <;> first | cases h | skip
    simp only [Bool.and_eq_true, decide_eq_true_eq] at h
    obtain ⟨⟨⟨⟨rfl, h1⟩, h2⟩, h3⟩, h4⟩ := h
    have hk2 : kws = [] := List.isEmpty_iff.mp h2
    subst hk2
    exact s_rng hx h1 (sEs es sc _ X M W hx h3) h4
  | .enum x, sc, e, tg, X, M, W, hx, m, hm, hc, h => by
    simp only [chkI] at h
    cases e <;> first | cases h | skip
    rename_i fn as kws pp
    cases fn <;> first | cases h | skip
    match as, h with
    | [a], h =>
      cases tg <;> first | cases h | skip
      simp only [Bool.and_eq_true, decide_eq_true_eq] at h
      obtain ⟨⟨⟨⟨rfl, h1⟩, h2⟩, h3⟩, h4⟩ := h
      have hk2 : kws = [] := List.isEmpty_iff.mp h2
      subst hk2
      exact s_enum hx hm h1 h3 (sE x sc a X M W hx h4)
  | .zip x y, sc, e, tg, X, M, W, hx, m, hm, hc, h => by
    simp only [chkI] at h
    cases e <;> first | cases h | skip
    rename_i fn as kws pp
    cases fn <;> first | cases h | skip
    match as, h with
    | [a, b], h =>
      cases tg <;> first | cases h | skip
      simp only [Bool.and_eq_true, decide_eq_true_eq] at h
      obtain ⟨⟨⟨⟨⟨⟨rfl, h1⟩, h2⟩, h3⟩, h4⟩, h5⟩, h6⟩ := h
      have hk2 : kws = [] := List.isEmpty_iff.mp h2
      subst hk2
      exact s_zip hx hm h1 h3 h4 (sE x sc a X M W hx h5) (sE y sc b X M W hx h6)
  | .items x, sc, e, tg, X, M, W, hx, m, hm, hc, h => by
    simp only [chkI] at h
    cases e <;> first | cases h | skip
    rename_i fn as kws pp
    cases fn <;> first | cases h | skip
    match as, kws, h with
    | [], [], h =>
      cases tg <;> first | cases h | skip
      simp only [Bool.and_eq_true, decide_eq_true_eq] at h
      obtain ⟨⟨⟨rfl, h1⟩, h2⟩, h3⟩ := h
      exact s_items hx hm h1 h2 (sE x sc _ X M W hx h3)
end
end Ad
set_option Elab.async false
set_option linter.all false
set_option maxRecDepth 100000
set_option maxHeartbeats 4000000
/-! Own exceptions whose __init__ keeps what was handed in. -/
namespace Ad
open PySem PySem.Spec PyProof.Rows L2
/-- what such an __init__ does -/
def spI (K : Fr) (f : Str) : Sp := fun vs H Q _ => ∃ a C x, vs = [.ref a, x] ∧ H a = some (exo a C none) ∧ OexC K C ∧ PySem.W.findIn K (.ref C) f = some none ∧
  ∀ dx, H dx = none → dx ≠ a → Q .non (upd (upd H dx (exd dx [(f, x)])) a (exo a C (some dx)))
section
variable {prog : Program} {w : World} {A : Around} {E : Value → Shared → Prop} {s : Shared} {env : Env}
theorem call_late {o : Expr} {name : Str} {apos pos : Pos} {args : List Expr} {Q : Value → Shared → Prop} (hbase : attributeBase o name env (eval o env) = eval o env)
    (hfew : ((backTo pos (starEach args env)).all (fun x => !x.1) && (backToKw pos (keywordEach [] env)).all (fun x => x.1.isSome)
      && decide (args.length + ([] : List Keyword).length + (if ([] : List Keyword).isEmpty then 0 else 1) < 30)) = true)
    (hline : (apos.endLine == pos.line) = true)
    (h : wpAny (model prog w) A (eval o env) (fun ov s₁ => ∀ pl : Sem Bool, wpAny (model prog w) A (getMethod ov name pl) (fun fx s₂ => wpAny (model prog w) A (callWith pos fx.1 fx.2 (backTo pos (starEach args env)) []) Q E s₂) E s₁) E s) :
    wpAny (model prog w) A (eval (.Call (.Attribute o name apos) args [] pos) env) Q E s := by
  rw [arm_eval_Call, hbase]
  refine wpAny_bind (wpAny_mono h (fun ov s₁ h₁ => ?_) fun _ _ e => e)
  refine wpAny_bind (wpAny_standAt ?_)
  have hform : methodCallForm (args.length + ([] : List Keyword).length) (backTo pos (starEach args env)) (backToKw pos (keywordEach [] env)) = true := hfew
  have hpos : methodCallPos true o env apos pos = pure pos := by unfold methodCallPos; simp [hline]
  unfold methodCall
  rw [hform]
  refine wpAny_bind (wpAny_holding (wpAny_mono (h₁ _) (fun fx s₂ h₂ => ?_) fun _ _ e => e))
  exact wpAny_bind (wpAny_of_eq hpos h₂)
end
section
variable {X : Cx} {e : Expr} {es : List Expr} {ta : TA} {p1 p2 pos : Pos}
/-- P.__init__(self, ..), P an own class that has ValueError's -/
theorem pe_cinit {x : Str} {D : Addr} {mc : Value} (hg : Gl X x) (hm : X.mg x = some (.ref D)) (hr : ClX.CRead X.K D mc) (vV : PySem.W.findCls X.K (.ref D) mc "__init__" = some (.val (.builtin "ValueError.__init__"))) (ha : PA X (e :: es) ta)
    (hdb : (x == ("__debug__" : Str)) = false) (hline : (p2.endLine == pos.line) = true)
    (hfew : ((backTo pos (starEach (e :: es) X.env)).all (fun x => !x.1) && (backToKw pos (keywordEach [] X.env)).all (fun x => x.1.isSome)
      && decide ((e :: es).length + ([] : List Keyword).length + (if ([] : List Keyword).isEmpty then 0 else 1) < 30)) = true)
    (he : starEach (e :: es) X.env = (false, eval e X.env) :: starEach es X.env := by rfl) (hpl : (backTo pos (starEach es X.env)).any (·.1) = false := by rfl) :
    PE X (.Call (.Attribute (.Name x p1) "__init__" p2) (e :: es) [] pos) (tVeI X.K ta) := by
  refine ⟨fun pins s σ H Q I h => ?_⟩
  refine call_late rfl hfew hline (ld_glob I hg hm (fun pl => ?_) hdb)
  refine PySem.W.method_cls I.kIn hr.ga (PySem.W.cls_value I.kIn hr.rd vV (by decide +kernel) ?_)
  show wpAny _ _ (callWith pos (Value.builtin "ValueError.__init__") [] (backTo pos (starEach (e :: es) X.env)) []) _ _ _
  refine PyProof.Rows.callWith_method1 (thn (ha.run pos pins _ σ H _ (I.tok _) h) fun us s1 ⟨vs, H1, I1, r1, a, C, ws, ev, hl, T, ea, q⟩ => ?_) he hpl
  subst ev
  cases r1 with
  | @cons _ u0 _ ur ra rw' =>
    obtain rfl : u0 = Value.ref a := ra
    exact oinit_ok T I1 ea (by rw [← Paired.length rw', sizeLine_eq]; omega) fun s' J => ⟨.non, H1, J, rfl, q⟩
end
/-- the text of such an __init__ -/
def initB (px f : Str) (body : List Stmt) : Bool := match body with
  | [.Expr (.Call (.Attribute (.Name q _) m ap) [.Name s1 _, .Constant (.str _) _ _] [] cp) _, .Assign [.Attribute (.Name s2 _) g _] (.Name h _) _] =>
    decide (q = px) && decide (m = "__init__") && decide (s1 = "self") && decide (s2 = "self") && decide (g = f) && decide (h = f) && !(f == ("__debug__" : Str)) && !(f == ("__classdict__" : Str)) && !(px == ("__debug__" : Str)) && (ap.endLine == cp.line)
  | _ => false
theorem init_ok {P : Program} {w : World} {K : Fr} {mg : Str → Option Value} {base : Heap} {nm qual : Str} {params : Arguments} {body : List Stmt} {scope : Scope} {kws : List (Str × V)} {fI D : Addr} {fd : FuncData} {mc : Value} {px f : Str}
    (F : FunD K nm qual params body scope [] kws fI fd) (S : FnScope ["self", f] ["self", f] scope) (hb : initB px f body = true) (hgl : gloB scope px = true) (hm : mg px = some (.ref D)) (hr : ClX.CRead K D mc)
    (vV : PySem.W.findCls K (.ref D) mc "__init__" = some (.val (.builtin "ValueError.__init__"))) : FnOk P w K mg base (CX P w) 1 fI fd ["self", f] (spI K f) := by
  unfold initB at hb
  split at hb
  · rename_i q p1 m p2 s1 p3 st k p4 p5 p6 s2 p7 g p8 h p9 p10
    simp only [Bool.and_eq_true, decide_eq_true_eq, Bool.not_eq_true'] at hb
    obtain ⟨⟨⟨⟨⟨⟨⟨⟨⟨rfl, rfl⟩, rfl⟩, rfl⟩, rfl⟩, rfl⟩, hf1⟩, hf2⟩, hdb⟩, hln⟩ := hb
    have hvs : ∀ x ∈ ([("self" : Str), h] : List Str), Vis scope x := fun x hx => (S.par x hx).elim .inl fun z => .inr (.inl z)
    simp only [gloB, okN, Bool.and_eq_true, decide_eq_true_eq, Bool.not_eq_true'] at hgl
    have main : ∀ X : Cx, X.N = ([("self" : Str), h] : List Str) → X.env.scope = scope → X.K = K → X.mg = mg → PSs X [.Expr (.Call (.Attribute (.Name q p1) "__init__" p2) [.Name "self" p3, .Constant (.str st) k p4] [] p5) p6, .Assign [.Attribute (.Name "self" p7) h p8] (.Name h p9) p10]
        (tSeq (tDrop (tVeI K (tCons (tVar 0) (tCons (tC (.str st)) tNil)))) (tOst K h (tVar 0) (tVar 1))) := fun X e1 e2 e3 e4 => by
      subst e3 e4
      have v0 : ∀ p, PE X (.Name "self" p) (tVar 0) := fun p => pe_var (by rw [e1]; rfl) (by rw [e2]; exact hvs _ List.mem_cons_self)
      have v1 : ∀ p, PE X (.Name h p) (tVar 1) := fun p => pe_var (by rw [e1]; rfl) (by rw [e2]; exact hvs _ (List.mem_cons_of_mem _ List.mem_cons_self)) hf1 hf2
      refine pss_cons (ps_expr ?_) (pss_one (ps_ost (v0 _) (v1 _)))
      exact pe_cinit (X := X) (p1 := p1) (p2 := p2) (pos := p5) (show X.env.scope.names.lookup q = _ by rw [e2]; exact hgl.1) hm hr vV (pa_cons (v0 p3) (pa_cons (pe_str (pos := p4)) pa_nil rfl) rfl) hdb hln rfl
    refine F.ok S (fun vs H Q E z => by obtain ⟨a, C, x, rfl, _⟩ := z; rfl) (fun cdv A outer s H vs Q E hr' z => ?_)
    obtain ⟨a, C, x, rfl, ea, T, hno, q⟩ := z
    refine ⟨_, main _ rfl rfl rfl rfl, ?_⟩
    exact ⟨.ref a, rfl, a, C, [V.str st], rfl, by simp, T, ea, x, rfl, .ref a, rfl, a, C, rfl, T, hno, .inl ⟨ea, fun dx h1 h2 => q dx h1 h2⟩⟩
  · cases hb
end Ad
set_option Elab.async false
set_option linter.all false
set_option maxRecDepth 100000
set_option maxHeartbeats 4000000
namespace Ad
open PySem PySem.Spec PyProof.Rows L2

/-- the end of a function -/
structure Fin (M : Pm) (F H : Hp) : Prop where
  sub : Sub F H
  base : Sub M.Z.H H
  baseF : Sub M.Z.F F
  grow : ∀ a, F a ≠ none → M.Z.F a ≠ none ∨ M.Z.H a = none
theorem Ok.fin {w : World} {K : Fr} {M : Pm} {F H : Hp} {σ : L2.St} {ρ : List Sl} (ok : Ok w K M F H σ ρ) : Fin M F H := ⟨ok.sub, ok.base, ok.baseF, ok.grow⟩

def AfterS (X : Cx) (M : Pm) (W : WX) (F0 : Hp) (Ds : Ends) (o : Option Out) : Prop := match o with
  | none => False
  | some (.nx ρ) => ∀ σ F H, Ok X.w X.K M F H σ ρ → Sub F0 F → Ds.nx σ H
  | some (.ct ρ) => ∀ σ F H, Ok X.w X.K M F H σ ρ → Sub F0 F → Ds.ct σ H
  | some (.rt d) => ∀ v F H, Fin M F H → Sub F0 F → Rep X.w X.K F v d → Ds.rt v H
  | some (.ex c fs ρ) => ∀ σ F H C dA, Ok X.w X.K M F H σ ρ → Sub F0 F → M.cls c = some C → XD X.w X.K F dA fs → W (.ref C) dA σ H
theorem AfterS.mono {X : Cx} {M : Pm} {W : WX} {F0 F1 : Hp} {Ds : Ends} {o : Option Out} (h : AfterS X M W F0 Ds o) (s : Sub F0 F1) : AfterS X M W F1 Ds o := by
  cases o with
  | none => exact h
  | some o => cases o with
    | nx ρ => exact fun σ F H ok q => h σ F H ok (s.trans q)
    | ct ρ => exact fun σ F H ok q => h σ F H ok (s.trans q)
    | rt d => exact fun v F H fin q r => h v F H fin (s.trans q) r
    | ex c fs ρ => exact fun σ F H C dA ok q hC hD => h σ F H C dA ok (s.trans q) hC hD
def tS (X : Cx) (M : Pm) (W : WX) (cl : Cl) (s : S) : TS := fun Ds σ H => ∃ ρ F, Ok X.w X.K M F H σ ρ ∧ AfterS X M W F Ds (evS cl ρ s)
def tSs (X : Cx) (M : Pm) (W : WX) (cl : Cl) (s : List S) : TS := fun Ds σ H => ∃ ρ F, Ok X.w X.K M F H σ ρ ∧ AfterS X M W F Ds (evSs cl ρ s)

/-- an exception class without own __init__ -/
def XPl (K : Fr) (mg : Str → Option Value) (x : Str) (C : Addr) : Prop := ∃ B newId initId bmB, ExcBaseFacts B newId initId bmB ∧ PySem.W.excIn K C bmB newId = true ∧ mg x = some (.ref C) ∧ PySem.W.keepIn K (.ref C) = true ∧
  PySem.W.subIn K (.ref C) (.type "BaseException") = some true ∧ PySem.W.typeIn K (.ref C) = some (.type "type")
/-- the context of statements -/
structure Hs (g : Gc) (sc : Scope) (X : Cx) (M : Pm) (W : WX) (cl : Cl) : Prop where
  x : Hx g sc X M W cl
  po : PassesOwn (model X.prog X.w) X.A X.env X.xe
  fn : ∀ x, X.fn x = true
  exc : g.calm = true → M.exc = none
  stk : X.stack = X.env :: X.outer
  frm : X.env.frame = some X.env.locals
  xs : ∀ x ∈ g.xs, ∃ C, M.cls x = some C ∧ XPl X.K X.mg x C
  xi : g.calm = true → ∀ x f, g.xi.lookup x = some f → ∃ C fI fd, M.cls x = some C ∧ X.mg x = some (.ref C) ∧ OexC X.K C ∧ PySem.W.findIn X.K (.ref C) "__init__" = some (some (.ref fI)) ∧ PySem.W.typeIn X.K (.ref fI) = some (.type "function") ∧
    Binds X.K fd ["self", f] [] ∧ Room 2 X.A ∧ FnOk X.prog X.w X.K X.mg X.base (CX X.prog X.w) 1 fI fd ["self", f] (spI X.K f) ∧ PySem.W.findIn X.K (.ref C) f = some none

section
variable {g : Gc} {sc : Scope} {X : Cx} {M : Pm} {W : WX} {cl : Cl} {pos p0 : Pos} {Ds : Ends}
theorem Hs.hg (hs : Hs g sc X M W cl) : Hg g sc X where
  N := hs.x.N
  nd := hs.x.nd
  loc := fun x h => by
    refine ⟨?_, .inl (hs.fn x)⟩
    rw [hs.x.sc]
    unfold locB at h
    split at h
    · exact .inl (by assumption)
    · exact .inr (by assumption)
    · cases h
theorem PS.weak {st : Stmt} {t t' : TS} (h : PS X st t) (i : ∀ Ds σ H, t' Ds σ H → t Ds σ H) : PS X st t' := ⟨fun pins s σ H Ds I q => h.run pins s σ H Ds I (i Ds σ H q)⟩
theorem PSs.weak {st : List Stmt} {t t' : TS} (h : PSs X st t) (i : ∀ Ds σ H, t' Ds σ H → t Ds σ H) : PSs X st t' := ⟨fun pins s σ H Ds I q => h.run pins s σ H Ds I (i Ds σ H q)⟩
theorem AfterS.lift {α : Type} {r : R α} {f : α → Option Out} {ρ : List Sl} {F H : Hp} {σ : L2.St} (ok : Ok X.w X.K M F H σ ρ) (h : AfterS X M W F Ds (lift ρ r f)) : After X.w X.K M W σ F H r fun a F' H' => AfterS X M W F' Ds (f a) := by
  cases r with
  | ok a => exact fun F' H' x => AfterS.mono (o := f a) h x.subF
  | ex c fs => exact fun F' H' C dA x hC hD => h σ F' H' C dA (ok.ext x) x.subF hC hD
  | bad => exact h
/-! ### names stored -/
theorem sw_comp {elt : Expr} {gs : List Comprehension} {scope : Scope} {p py : Pos} {y : Str} {l : Nat} {env : Env} (hk : env.scope.kind = .function) :
    swapsWith (.ListComp elt gs scope p) (some (.Name y py)) l env = pure (decide (env.scope.names.lookup y = some .local) && (py.line == p.line) && !(scope.names.any fun (n, k) => n == y && (k == .local || k == .cell))) := by
  have hb : env.blockKind = .function := by unfold Env.blockKind; rw [hk]; rfl
  have hy : (env.kindOf y == some .local) = decide (env.scope.names.lookup y = some .local) := by
    show (env.scope.names.lookup y == some .local) = _
    cases q : env.scope.names.lookup y with
    | none => rfl
    | some k => cases k <;> rfl
  unfold swapsWith
  simp only [hb, hy, Expr.pos]
  rfl
/-- a name is stored, what is at hand is -/
structure SA (X : Cx) (M : Pm) (W : WX) (cl : Cl) (i : Nat) (ir : E) (st : Stmt) : Prop where
  v : PS X st (tAsg (tV X M W cl ir) (gName i))
  o : freshE ir = true → PS X st (tAsg (tO X M W cl ir) (gName i))
def compB : Expr → Bool
  | .ListComp .. => true
  | .SetComp .. => true
  | .DictComp .. => true
  | _ => false
theorem sa_plain {i : Nat} {x : Str} {px : Pos} {ir : E} {e : Expr} (hs : Hs g sc X M W cl) (hi : g.N[i]? = some x) (hl : locB sc x = true) (hsw : swapsWith e (some (.Name x px)) pos.line X.env = pure false) (h : SE X M W cl ir e) : SA X M W cl i ir (.Assign [.Name x px] e pos) := by
  obtain ⟨l1, l2⟩ := hs.hg.loc x hl
  have hN : X.N.Nodup := by rw [hs.x.N]; exact hs.x.nd
  have hi' : X.N[i]? = some x := by rw [hs.x.N]; exact hi
  exact ⟨ps_set hN hi' l1 h.v hsw l2, fun hf => ps_set hN hi' l1 (h.o hf) hsw l2⟩
theorem sw_plain {e : Expr} {t : Option Expr} {l : Nat} {env : Env} (h : compB e = false) : swapsWith e t l env = pure false := by
  cases e <;> first | rfl | cases h
theorem tO_tV {elt : E} {t : T} {it : I} {ifs : List E} {own : List Nat} {σ : L2.St} {H : Hp} {Q : VK} (h : tV X M W cl (.lc elt t it ifs own) σ H Q) : tO X M W cl (.lc elt t it ifs own) σ H Q := by
  obtain ⟨ρ, F, ok, h⟩ := h
  refine ⟨ρ, F, ok, ?_⟩
  cases q : ev cl ρ .v (.lc elt t it ifs own) with
  | ok d =>
    rw [q] at h
    have hm : ∃ ds, d = .list ds := by
      rw [ev_lc] at q
      cases z : evI cl ρ .r it with
      | ok ds =>
        rw [z] at q
        cases z2 : filtD (lcF cl ρ t own ifs elt) ds with
        | ok xs =>
          simp only [bind_ok, z2] at q
          split at q
          · rw [fin_v] at q; injection q with q; exact ⟨xs, q.symm⟩
          · cases q
        | ex c fs => simp only [bind_ok, z2] at q; cases q
        | bad => simp only [bind_ok, z2] at q; cases q
      | ex c fs => rw [z] at q; cases q
      | bad => rw [z] at q; cases q
    obtain ⟨ds, rfl⟩ := hm
    intro F' H' x
    refine ⟨rfl, fun p h0 hf o => ?_⟩
    obtain ⟨xs, h1, h2⟩ := o
    refine h _ H' (ext_freeze x h0 h1) (.ref p) ?_
    simp only [Rep]
    exact ⟨p, xs, rfl, SqL.of upd_same, RepL.sub (Sub.upd hf) _ _ h2⟩
  | ex c fs => rw [q] at h; exact h
  | bad => rw [q] at h; exact h
theorem sa_lc {i : Nat} {x : Str} {px p : Pos} {elt : E} {t : T} {it : I} {ifs : List E} {own : List Nat} {el : Expr} {gs : List Comprehension} {scope : Scope} (hs : Hs g sc X M W cl) (hi : g.N[i]? = some x) (hl : locB sc x = true)
    (h : chkE g sc (.lc elt t it ifs own) (.ListComp el gs scope p) = true) : SA X M W cl i (.lc elt t it ifs own) (.Assign [.Name x px] (.ListComp el gs scope p) pos) := by
  have hx := hs.x
  cases hsw : (decide (X.env.scope.names.lookup x = some .local) && (px.line == p.line) && !(scope.names.any fun (n, k) => n == x && (k == .local || k == .cell))) with
  | false => exact sa_plain hs hi hl (by rw [sw_comp hx.kind, hsw]) (sE _ sc _ X M W hx h)
  | true =>
    simp only [chkE] at h
    match gs, h with
    | [⟨tg, iter, fs, as⟩], h =>
      simp only [Bool.and_eq_true, decide_eq_true_eq] at h
      obtain ⟨⟨⟨⟨⟨⟨⟨⟨⟨⟨h1, rfl⟩, h2⟩, h3⟩, h4⟩, h5⟩, h6⟩, h7⟩, h8⟩, h9⟩, h10⟩ := h
      have hq : X.calm = true := hx.calm.trans h1
      have ok : BlkOk X.N X.env.scope scope (ownOf g.N own) := by rw [hx.N, hx.sc]; exact blkOk_by h2
      have hN : X.N.Nodup := by rw [hx.N]; exact hx.nd
      have hi' : X.N[i]? = some x := by rw [hx.N]; exact hi
      have hown : ∀ v ∈ own, v < g.N.length := fun v hv => of_decide_eq_true (List.all_eq_true.mp h10 v hv)
      have hloc : X.env.scope.names.lookup x = some .local := by
        simp only [Bool.and_eq_true, decide_eq_true_eq] at hsw
        exact hsw.1.1
      have base := ps_setLc (X := X) (pos := p) (spos := pos) (py := px) (i := i) (y := x) (wi := tI X M W cl .r it) (g := tG X.w X.K t) (tt := tF X M cl ifs) (te := tZ X M cl elt) hq hN hi' hloc (by rw [sw_comp hx.kind, hsw])
        (sI it sc iter tg X M W hx .r (.inr rfl) h1 h5) ok
        (fun s H C cs fp => s_tg (Hg.blk hx (own := ownOf g.N own) s H C cs fp) hq t tg h4)
        (fun s H C cs fp => s_ifs h7 fun Z => sEs ifs _ fs _ _ Wf (hx.blk h1 ok Z s H C cs fp) h6)
        (fun s H C cs fp => s_tz fun Z => sE elt _ el _ _ Wf (hx.blk h1 ok Z s H C cs fp) h8)
        (by intro x; cases iter <;> first | rfl | cases h3)
      rw [ownOf_eq hown] at base
      have hsub := subB_ok t own h9
      exact ⟨PS.weak base fun Ds σ H q => lc_read hsub (tp_ok h4 h5) (tO_tV q), fun _ => PS.weak base fun Ds σ H q => lc_read hsub (tp_ok h4 h5) q⟩
/-! ### slots -/
theorem Ok.lenS {w : World} {K : Fr} {F H : Hp} {σ : L2.St} {ρ : List Sl} {i : Nat} (ok : Ok w K M F H σ ρ) (h : i < ρ.length) : i < σ.length := by rw [← ok.len]; exact h
/-- an owned object comes into a slot -/
theorem Ok.setO {w : World} {K : Fr} {F H : Hp} {σ : L2.St} {ρ : List Sl} {i : Nat} {p : Addr} {d : D} (ok : Ok w K M F H σ ρ) (hZ : M.Z.H p = none) (hF : F p = none) (o : Own w K F H p d)
    (hn : ∀ (j : Nat) (s : Sl) (q : Addr), ρ[j]? = some s → s.held = true → σ[j]? = some (some (.ref q)) → q ≠ p) : Ok w K M F H (σ.set i (some (.ref p))) (ρ.set i (.ow d)) where
  sub := ok.sub
  base := ok.base
  baseF := ok.baseF
  grow := ok.grow
  len := by simp [ok.len]
  slot := fun j s e => by
    by_cases h : i = j
    · subst h
      have hl : i < ρ.length := by
        have := (List.getElem?_eq_some_iff.mp e).1
        simpa using this
      rw [List.getElem?_set_self hl] at e
      cases e
      refine ⟨p, ?_, hF, hZ, o⟩
      rw [List.getElem?_set_self (ok.lenS hl)]
    · rw [List.getElem?_set_ne h] at e ⊢
      exact ok.slot j s e
  sep := fun j k s t pj pk hjk e1 e2 h1 h2 e3 e4 => by
    by_cases hj : i = j
    · subst hj
      rw [List.getElem?_set_ne hjk] at e2 e4
      have hl : i < σ.length := by
        have := (List.getElem?_eq_some_iff.mp e3).1
        simpa using this
      rw [List.getElem?_set_self hl] at e3
      cases e3
      exact Ne.symm (hn k t pk e2 h2 e4)
    · by_cases hk : i = k
      · subst hk
        rw [List.getElem?_set_ne hj] at e1 e3
        have hl : i < σ.length := by
          have := (List.getElem?_eq_some_iff.mp e4).1
          simpa using this
        rw [List.getElem?_set_self hl] at e4
        cases e4
        exact hn j s pj e1 h1 e3
      · rw [List.getElem?_set_ne hj] at e1 e3
        rw [List.getElem?_set_ne hk] at e2 e4
        exact ok.sep j k s t pj pk hjk e1 e2 h1 h2 e3 e4
theorem Ok.heldH {w : World} {K : Fr} {F H : Hp} {σ : L2.St} {ρ : List Sl} {j : Nat} {s : Sl} {q : Addr} (ok : Ok w K M F H σ ρ) (e : ρ[j]? = some s) (h : s.held = true) (eq : σ[j]? = some (some (.ref q))) : H q ≠ none := by
  have := ok.slot j s e
  cases s with
  | ow d => obtain ⟨p, e1, _, _, o⟩ := this; rw [eq] at e1; cases e1; exact o.there
  | ln d => obtain ⟨p, e1, _, o⟩ := this; rw [eq] at e1; cases e1; exact o.there
  | _ => cases h
/-- an owned object is changed -/
theorem Ok.mut {w : World} {K : Fr} {F H : Hp} {σ : L2.St} {ρ : List Sl} {i : Nat} {p : Addr} {d d' : D} {o : HO} (ok : Ok w K M F H σ ρ) (e : ρ[i]? = some (.ow d)) (ep : σ[i]? = some (some (.ref p))) (ho : Own w K F (upd H p o) p d') : Ok w K M F (upd H p o) σ (ρ.set i (.ow d')) := by
  obtain ⟨p', e1, hF, hZ, own⟩ := ok.slot i _ e
  rw [ep] at e1; cases e1
  have sF : Sub F (upd H p o) := fun a u q => by
    have : a ≠ p := fun z => by subst z; rw [q] at hF; cases hF
    rw [upd_ne this]; exact ok.sub _ _ q
  have keepOwn : ∀ {q : Addr} {dd : D}, q ≠ p → Own w K F H q dd → Own w K F (upd H p o) q dd := fun {q dd} n h => by
    cases dd with
    | list ds => obtain ⟨xs, h1, h2⟩ := h; exact ⟨xs, by rw [upd_ne n]; exact h1, h2⟩
    | dict kvs => obtain ⟨z, z2, es, ep, h1, h2⟩ := h; exact ⟨z, z2, es, ep, by rw [upd_ne n]; exact h1, h2⟩
    | _ => exact h.elim
  have hl : i < ρ.length := (List.getElem?_eq_some_iff.mp e).1
  refine ⟨sF, fun a u q => ?_, ok.baseF, ok.grow, by simp [ok.len], fun j s ej => ?_, fun j k s t pj pk hjk e1 e2 h1 h2 e3 e4 => ?_⟩
  · have : a ≠ p := fun z => by subst z; rw [q] at hZ; cases hZ
    rw [upd_ne this]; exact ok.base _ _ q
  · by_cases h : i = j
    · subst h
      rw [List.getElem?_set_self hl] at ej
      cases ej
      exact ⟨p, ep, hF, hZ, ho⟩
    · rw [List.getElem?_set_ne h] at ej
      have q := ok.slot j s ej
      cases s with
      | un => trivial
      | fz d => exact q
      | ow dd =>
        obtain ⟨q', z1, z2, z3, z4⟩ := q
        exact ⟨q', z1, z2, z3, keepOwn (Ne.symm (ok.sep i j _ _ p q' h e ej rfl rfl ep z1)) z4⟩
      | ln dd =>
        obtain ⟨q', z1, z2, z4⟩ := q
        exact ⟨q', z1, z2, keepOwn (Ne.symm (ok.sep i j _ _ p q' h e ej rfl rfl ep z1)) z4⟩
      | fn f =>
        obtain ⟨q', z1, z2, z4⟩ := q
        refine ⟨q', z1, z2, z4.sub (.refl) fun u hu => ?_⟩
        obtain ⟨C, dx, fs, r, w1, _⟩ := z4
        have : q' ≠ p := fun z => by
          subst z
          cases d with
          | list ds => obtain ⟨xs, h1, h2⟩ := own; rw [w1] at h1; cases h1
          | dict kvs => obtain ⟨z, z2, es, ep, h1, h2⟩ := own; rw [w1] at h1; cases h1
          | _ => exact own.elim
        rw [upd_ne this]; exact hu
      | ex c fs => exact q
  · have back : ∀ {j : Nat} {s : Sl}, (ρ.set i (.ow d'))[j]? = some s → s.held = true → ∃ s', ρ[j]? = some s' ∧ s'.held = true := fun {j s} ej hs => by
      by_cases h : i = j
      · subst h; exact ⟨_, e, rfl⟩
      · rw [List.getElem?_set_ne h] at ej; exact ⟨s, ej, hs⟩
    obtain ⟨s', q1, k1⟩ := back e1 h1
    obtain ⟨t', q2, k2⟩ := back e2 h2
    exact ok.sep j k s' t' pj pk hjk q1 q2 k1 k2 e3 e4
/-- an owned object is frozen -/
theorem Ok.freeze {w : World} {K : Fr} {F H : Hp} {σ : L2.St} {ρ : List Sl} {i : Nat} {d : D} (ok : Ok w K M F H σ ρ) (e : ρ[i]? = some (.ow d)) : ∃ F', Ok w K M F' H σ (ρ.set i (.fz d)) ∧ Sub F F' := by
  obtain ⟨p, ep, hF, hZ, own⟩ := ok.slot i _ e
  have hl : i < ρ.length := (List.getElem?_eq_some_iff.mp e).1
  obtain ⟨o, ho, rp⟩ : ∃ o, H p = some o ∧ Rep w K (upd F p o) (.ref p) d := by
    cases d with
    | list ds =>
      obtain ⟨xs, h1, h2⟩ := own
      exact ⟨_, h1, by simp only [Rep]; exact ⟨p, xs, rfl, SqL.of upd_same, RepL.sub (Sub.upd hF) _ _ h2⟩⟩
    | dict kvs =>
      obtain ⟨z, z2, es, ep, h1, h2⟩ := own
      exact ⟨_, h1, by simp only [Rep]; exact ⟨p, es, ep, rfl, ⟨z, .inl upd_same⟩, z2, RepP.sub (Sub.upd hF) _ _ h2⟩⟩
    | _ => exact own.elim
  have sF : Sub F (upd F p o) := Sub.upd hF
  refine ⟨upd F p o, ⟨fun a u q => ?_, ok.base, ok.baseF.trans sF, fun a q => ?_, by simp [ok.len], fun j s ej => ?_, fun j k s t pj pk hjk e1 e2 h1 h2 e3 e4 => ?_⟩, sF⟩
  · by_cases z : a = p
    · subst z; rw [upd_same] at q; cases q; exact ho
    · rw [upd_ne z] at q; exact ok.sub _ _ q
  · by_cases z : a = p
    · subst z; exact .inr hZ
    · rw [upd_ne z] at q; exact ok.grow _ q
  · by_cases h : i = j
    · subst h
      rw [List.getElem?_set_self hl] at ej
      cases ej
      exact ⟨.ref p, ep, rp⟩
    · rw [List.getElem?_set_ne h] at ej
      have q := ok.slot j s ej
      have ext : Ext F H (upd F p o) H → True := fun _ => trivial
      have ownS : ∀ {q : Addr} {dd : D}, Own w K F H q dd → Own w K (upd F p o) H q dd := fun {q dd} h => by
        cases dd with
        | list ds => obtain ⟨xs, h1, h2⟩ := h; exact ⟨xs, h1, RepL.sub sF _ _ h2⟩
        | dict kvs => obtain ⟨z, z2, es, ep, h1, h2⟩ := h; exact ⟨z, z2, es, ep, h1, RepP.sub sF _ _ h2⟩
        | _ => exact h.elim
      cases s with
      | un => trivial
      | fz d => obtain ⟨v, z1, z2⟩ := q; exact ⟨v, z1, Rep.sub sF _ _ z2⟩
      | ow dd =>
        obtain ⟨q', z1, z2, z3, z4⟩ := q
        have n := Ne.symm (ok.sep i j _ _ p q' h e ej rfl rfl ep z1)
        exact ⟨q', z1, by rw [upd_ne n]; exact z2, z3, ownS z4⟩
      | ln dd =>
        obtain ⟨q', z1, z2, z4⟩ := q
        have n := Ne.symm (ok.sep i j _ _ p q' h e ej rfl rfl ep z1)
        exact ⟨q', z1, by rw [upd_ne n]; exact z2, ownS z4⟩
      | fn f => obtain ⟨q', z1, z2, z4⟩ := q; exact ⟨q', z1, z2, z4.sub sF fun _ e => e⟩
      | ex c fs => obtain ⟨a, C, dA, z1, z2, z3, z4⟩ := q; exact ⟨a, C, dA, z1, z2, z3, z4.sub sF⟩
  · have back : ∀ {j : Nat} {s : Sl}, (ρ.set i (.fz d))[j]? = some s → s.held = true → ρ[j]? = some s := fun {j s} ej hs => by
      by_cases h : i = j
      · subst h
        rw [List.getElem?_set_self hl] at ej
        cases ej; cases hs
      · rw [List.getElem?_set_ne h] at ej; exact ej
    exact ok.sep j k s t pj pk hjk (back e1 h1) (back e2 h2) h1 h2 e3 e4
end
end Ad
set_option Elab.async false
set_option linter.all false
set_option maxRecDepth 100000
set_option maxHeartbeats 4000000
namespace Ad
open PySem PySem.Spec PyProof.Rows L2
section
variable {g : Gc} {sc : Scope} {X : Cx} {M : Pm} {W : WX} {cl : Cl} {pos p0 : Pos} {Ds : Ends} {st : Stmt} {e : Expr} {x : E} {i : Nat}
theorem set_over {α : Type} {l : List α} {i : Nat} {a : α} (h : ¬ i < l.length) : l.set i a = l := List.set_eq_of_length_le (by omega)
theorem ss_asg (h : SA X M W cl i x st) : PS X st (tS X M W cl (.asg (.nm i) x)) := PS.weak h.v fun Ds σ H ⟨ρ, F, ok, q⟩ => by
  refine ⟨ρ, F, ok, ?_⟩
  simp only [evS] at q
  refine (AfterS.lift ok q).imp fun d F' H' xx q' v rv => ?_
  simp only [bindT] at q'
  by_cases c : i < ρ.length
  · rw [if_pos c] at q'
    exact q' _ F' H' ((ok.ext xx).setF rv) .refl
  · rw [if_neg c] at q'
    exact q'.elim
theorem ss_own (h : SA X M W cl i x st) (hf : freshE x = true) : PS X st (tS X M W cl (.own i x)) := PS.weak (h.o hf) fun Ds σ H ⟨ρ, F, ok, q⟩ => by
  refine ⟨ρ, F, ok, ?_⟩
  simp only [evS] at q
  refine (AfterS.lift ok q).imp fun d F' H' xx q' => ?_
  by_cases c : (isMut d && decide (i < ρ.length)) = true
  · rw [if_pos c] at q'
    simp only [Bool.and_eq_true, decide_eq_true_eq] at c
    refine ⟨c.1, fun p h0 hF o => q' _ F' H' ((ok.ext xx).setO ?_ hF o fun j s r e1 e2 e3 z => ?_) .refl⟩
    · cases e : M.Z.H p with
      | none => rfl
      | some o => rw [ok.base _ _ e] at h0; cases h0
    · subst z
      exact ok.heldH e1 e2 e3 h0
  · rw [if_neg c] at q'
    exact q'.elim
theorem ss_expr (he : SE X M W cl x e) (hc : compB e = false) : PS X (.Expr e pos) (tS X M W cl (.expr x)) := PS.weak (ps_expr he.v (sw_plain hc)) fun Ds σ H ⟨ρ, F, ok, q⟩ => by
  refine ⟨ρ, F, ok, ?_⟩
  simp only [evS] at q
  exact (AfterS.lift ok q).imp fun d F' H' xx q' v rv => q' _ F' H' (ok.ext xx) .refl
theorem ss_ret (he : SE X M W cl x e) : PS X (.Return (some e) pos) (tS X M W cl (.ret x)) := PS.weak (ps_ret he.v) fun Ds σ H ⟨ρ, F, ok, q⟩ => by
  refine ⟨ρ, F, ok, ?_⟩
  simp only [evS] at q
  exact (AfterS.lift ok q).imp fun d F' H' xx q' v rv => q' v F' H' (ok.ext xx).fin .refl rv
theorem ss_retN : PS X (.Return none pos) (tS X M W cl .retN) := PS.weak ps_retN fun Ds σ H ⟨ρ, F, ok, q⟩ => by
  simp only [evS] at q
  exact q .non F H ok.fin .refl (by simp only [Rep])
theorem ss_pass : PS X (.Pass pos) (tS X M W cl .pass) := PS.weak ps_pass fun Ds σ H ⟨ρ, F, ok, q⟩ => by
  simp only [evS] at q
  exact q σ F H ok .refl
theorem ss_cont : PS X (.Continue pos) (tS X M W cl .cont) := PS.weak ps_continue fun Ds σ H ⟨ρ, F, ok, q⟩ => by
  simp only [evS] at q
  exact q σ F H ok .refl
theorem ss_never : PS X st (tS X M W cl .never) := PS.weak ps_never fun Ds σ H ⟨ρ, F, ok, q⟩ => by
  simp only [evS] at q
  exact q
theorem ss_if {a b : List S} {ea eb : List Stmt} (hc : SE X M W cl x e) (ha : PSs X ea (tSs X M W cl a)) (hb : PSs X eb (tSs X M W cl b)) : PS X (.If e ea eb pos) (tS X M W cl (.ifs x a b)) := PS.weak (ps_if hc.t ha hb) fun Ds σ H ⟨ρ, F, ok, q⟩ => by
  refine ⟨ρ, F, ok, ?_⟩
  simp only [evS] at q
  refine (AfterS.lift ok q).imp fun d F' H' xx q' => ?_
  by_cases c : truth d = true
  · rw [if_pos c] at q'
    rw [if_pos c]
    exact ⟨ρ, F', ok.ext xx, q'⟩
  · rw [if_neg c] at q'
    rw [if_neg c]
    exact ⟨ρ, F', ok.ext xx, q'⟩
/-! ### sequences -/
theorem evSs_cons (cl : Cl) (ρ : List Sl) (s : S) (r : List S) (h : ∀ i, s ≠ .frz i) : evSs cl ρ (s :: r) = match evS cl ρ s with
    | some (.nx ρ') => evSs cl ρ' r
    | o => o := by
  cases s <;> first | exact absurd rfl (h _) | rfl
theorem evSs_frz (cl : Cl) (ρ : List Sl) (i : Nat) (r : List S) : evSs cl ρ (.frz i :: r) = (match ρ[i]? with
      | some (.ow d) => evSs cl (ρ.set i (.fz d)) r
      | some (.fz d) => evSs cl ρ r
      | _ => none) := rfl
theorem ss_nil : PSs X [] (tSs X M W cl []) := PSs.weak pss_nil fun Ds σ H ⟨ρ, F, ok, q⟩ => q σ F H ok .refl
theorem ss_cons {s : S} {r : List S} {rest : List Stmt} (hn : ∀ i, s ≠ .frz i) (h1 : PS X st (tS X M W cl s)) (h2 : PSs X rest (tSs X M W cl r)) : PSs X (st :: rest) (tSs X M W cl (s :: r)) := PSs.weak (pss_cons h1 h2) fun Ds σ H ⟨ρ, F, ok, q⟩ => by
  refine ⟨ρ, F, ok, ?_⟩
  rw [evSs_cons cl ρ s r hn] at q
  cases z : evS cl ρ s with
  | none => rw [z] at q; exact q
  | some o =>
    rw [z] at q
    cases o with
    | nx ρ' => exact fun σ' F' H' ok' s' => ⟨ρ', F', ok', AfterS.mono q s'⟩
    | ct ρ' => exact q
    | rt d => exact q
    | ex c fs ρ' => exact q
theorem ss_frz {r : List S} {rest : List Stmt} (h2 : PSs X rest (tSs X M W cl r)) : PSs X rest (tSs X M W cl (.frz i :: r)) := PSs.weak h2 fun Ds σ H ⟨ρ, F, ok, q⟩ => by
  rw [evSs_frz] at q
  cases z : ρ[i]? with
  | none => rw [z] at q; exact q.elim
  | some s =>
    rw [z] at q
    cases s with
    | ow d =>
      obtain ⟨F', ok', s'⟩ := ok.freeze z
      exact ⟨_, F', ok', AfterS.mono q s'⟩
    | fz d => exact ⟨ρ, F, ok, q⟩
    | _ => exact q.elim
/-! ### loops -/
def forB (cl : Cl) (t : T) (b : List S) (ρ : List Sl) (d : D) : Option Out := match bindT ρ t d with
  | some ρ' => evSs cl ρ' b
  | none => none
theorem evS_for (cl : Cl) (ρ : List Sl) (t : T) (it : I) (b : List S) : evS cl ρ (.forS t it b) = lift ρ (evI cl ρ .v it) fun ds => forL (forB cl t b) ds ρ := rfl
theorem ss_for {t : T} {it : I} {b : List S} {tg iter : Expr} {eb : List Stmt} (hs : Hs g sc X M W cl) (hc : X.calm = true) (hset : notSet iter = true) (htp : it.tp? = true → t.tp? = true) (hi : PI X tg iter (tI X M W cl .v it)) (hg : PG X tg (tG X.w X.K t)) (hb : PSs X eb (tSs X M W cl b)) :
    PS X (.For tg iter eb [] pos) (tS X M W cl (.forS t it b)) := by
  refine PS.weak (ps_for hs.po hc hi hg hb (by intro x; cases iter <;> first | rfl | cases hset)) fun Ds σ H ⟨ρ, F, ok, q⟩ => ?_
  refine ⟨ρ, F, ok, ?_⟩
  rw [evS_for] at q
  refine (AfterS.lift ok q).imp fun ds F1 H1 x1 q1 J hJ => ?_
  refine ⟨fun k m σ' H' => m = ds.length - k ∧ k ≤ ds.length ∧ ∃ ρ' F', Ok X.w X.K M F' H' σ' ρ' ∧ Sub F1 F' ∧ AfterS X M W F' Ds (forL (forB cl t b) (ds.drop k) ρ'), ⟨ds.length, rfl, Nat.zero_le _, ρ, F1, ok.ext x1, .refl, by simpa using q1⟩, ?_⟩
  rintro k m σ' H' ⟨rfl, hk, ρ', F', ok', s', q'⟩
  by_cases hlt : k < ds.length
  · right
    obtain ⟨d, r, hdr⟩ : ∃ d r, ds.drop k = d :: r := ⟨ds[k], ds.drop (k + 1), by rw [List.drop_eq_getElem_cons hlt]⟩
    have hd : ds[k]? = some d := by
      have := congrArg (fun l => l[0]?) hdr
      simpa using this
    have hr : ds.drop (k + 1) = r := by
      have := congrArg List.tail hdr
      simpa using this
    rw [hdr] at q'
    refine ⟨hJ.go k H' hlt (s'.trans ok'.sub), fun σ2 H2 => ∃ ρ' F', Ok X.w X.K M F' H2 σ2 ρ' ∧ Sub F1 F' ∧ AfterS X M W F' Ds (forL (forB cl t b) (ds.drop (k + 1)) ρ'), fun σ2 H2 n => ⟨ds.length - (k + 1), by omega, rfl, hlt, n⟩, fun v H2 hy => ?_⟩
    obtain ⟨F2, x2, rv⟩ := hJ.yld k H' v H2 F' d hd (s'.trans ok'.sub) s' ok'.sub hy
    simp only [forL, forB] at q'
    cases qb : bindT ρ' t d with
    | none => rw [qb] at q'; exact q'.elim
    | some ρ2 =>
      rw [qb] at q'
      refine ⟨M, ρ', F2, d, ρ2, ok'.ext x2, rv.mono htp, qb, fun σ3 ok3 _ => ⟨ρ2, F2, ok3, ?_⟩⟩
      have s2 : Sub F1 F2 := s'.trans x2.subF
      cases z : evSs cl ρ2 b with
      | none => simp only [z] at q'; exact q'
      | some o =>
        simp only [z] at q'
        rw [hr]
        cases o with
        | nx ρ3 => exact fun σ4 F4 H4 ok4 s4 => ⟨ρ3, F4, ok4, s2.trans s4, AfterS.mono q' (x2.subF.trans s4)⟩
        | ct ρ3 => exact fun σ4 F4 H4 ok4 s4 => ⟨ρ3, F4, ok4, s2.trans s4, AfterS.mono q' (x2.subF.trans s4)⟩
        | rt d => exact AfterS.mono (o := some (.rt d)) (Ds := Ds) q' x2.subF
        | ex c fs ρ3 => exact AfterS.mono (o := some (.ex c fs ρ3)) (Ds := Ds) q' x2.subF
  · left
    have e : k = ds.length := by omega
    subst e
    rw [List.drop_length] at q'
    exact ⟨hJ.stop H' (s'.trans ok'.sub), q' σ' F' H' ok' .refl⟩
theorem ss_whil {b : List S} {eb : List Stmt} (hs : Hs g sc X M W cl) (hc : SE X M W cl x e) (hb : PSs X eb (tSs X M W cl b)) : PS X (.While e eb [] pos) (tS X M W cl (.whil x b)) := by
  refine PS.weak (ps_while hs.po hc.t hb) fun Ds σ H ⟨ρ, F, ok, q⟩ => ?_
  simp only [evS] at q
  refine ⟨fun m σ' H' => ∃ ρ' F', Ok X.w X.K M F' H' σ' ρ' ∧ AfterS X M W F' Ds (whileL (fun ρ => (ev cl ρ .t x).bind fun b => .ok (truth b)) (fun ρ => evSs cl ρ b) m ρ'), ⟨most, ρ, F, ok, q⟩, ?_⟩
  rintro m σ' H' ⟨ρ', F', ok', q'⟩
  refine ⟨ρ', F', ok', ?_⟩
  cases m with
  | zero => exact q'.elim
  | succ m =>
    simp only [whileL] at q'
    refine (AfterS.lift ok' q').bind.imp fun d F2 H2 x2 q2 => ?_
    have q2 := After.ok q2 x2.inn
    show (if truth d = true then _ else _)
    by_cases c : truth d = true
    · rw [if_pos c] at q2 ⊢
      refine ⟨fun σ3 H3 => ∃ ρ' F', Ok X.w X.K M F' H3 σ3 ρ' ∧ AfterS X M W F' Ds (whileL (fun ρ => (ev cl ρ .t x).bind fun b => .ok (truth b)) (fun ρ => evSs cl ρ b) m ρ'), fun σ3 H3 n => ⟨m, Nat.lt_succ_self m, n⟩, ρ', F2, ok'.ext x2, ?_⟩
      cases z : evSs cl ρ' b with
      | none => rw [z] at q2; exact q2
      | some o =>
        rw [z] at q2
        cases o with
        | nx ρ3 => exact fun σ4 F4 H4 ok4 s4 => ⟨ρ3, F4, ok4, AfterS.mono q2 s4⟩
        | ct ρ3 => exact fun σ4 F4 H4 ok4 s4 => ⟨ρ3, F4, ok4, AfterS.mono q2 s4⟩
        | rt d => exact q2
        | ex c fs ρ3 => exact q2
    · rw [if_neg c] at q2 ⊢
      exact q2 σ' F2 H2 (ok'.ext x2) .refl
end
end Ad
set_option Elab.async false
set_option linter.all false
set_option maxRecDepth 100000
set_option maxHeartbeats 4000000
namespace Ad
open PySem PySem.Spec PyProof.Rows L2
section
variable {g : Gc} {sc : Scope} {X : Cx} {M : Pm} {W : WX} {cl : Cl} {pos p0 p1 p2 : Pos} {Ds : Ends} {st : Stmt} {e : Expr} {x : E} {i : Nat}
def tupB : Expr → Bool
  | .Tuple .. => true
  | _ => false
theorem sws_plain {e tg : Expr} {l : Nat} {env : Env} (h : compB e = false) : swapsWithSole [tg] e l env = pure false := by
  unfold swapsWithSole
  cases e <;> first | rfl | (cases tg <;> rfl) | cases h
theorem sst_plain {e tg : Expr} {env : Env} (h : tupB e = false) : swappedStores [tg] e env = pure none := by
  cases e <;> first | (cases h; done) | (cases tg <;> rfl) | skip
theorem ss_asgT {t : T} {tg : Expr} (hg : PG X tg (tG X.w X.K t)) (he : SE X M W cl x e) (hc : compB e = false) (ht : swappedStores [tg] e X.env = pure none) (hp : plainB tg = true) : PS X (.Assign [tg] e pos) (tS X M W cl (.asg t x)) :=
  PS.weak (ps_asg he.v hg (sws_plain hc) ht (by rw [assign_plain hp]; rfl)) fun Ds σ H ⟨ρ, F, ok, q⟩ => by
    refine ⟨ρ, F, ok, ?_⟩
    simp only [evS] at q
    refine (AfterS.lift ok q).imp fun d F' H' xx q' v rv => ?_
    cases qb : bindT ρ t d with
    | none => rw [qb] at q'; exact q'.elim
    | some ρ' =>
      rw [qb] at q'
      exact ⟨M, ρ, F', d, ρ', ok.ext xx, .inl rv, qb, fun σ' ok' _ => q' σ' F' H' ok' .refl⟩
/-! ### pairs -/
def swB (sc : Scope) (ts vs : List Expr) : Option (Option (List Str)) :=
  if !(ts.length == 2 || ts.length == 3) || vs.length != ts.length then some none
  else if vs.any (fun | .Starred .. => true | _ => false) then some none
  else
    let line := (ts.head?.map (·.pos.line)).getD 0
    let names := ts.filterMap fun
      | .Name id pos => if sc.names.lookup id == some .local && pos.line == line then some id else none
      | _ => none
    if names.length != ts.length || names.eraseDups.length != names.length then some none
    else if vs.all (foldedForSure 8) then some none
    else if vs.all (constantsAlone 8) then none
    else some (some names)
theorem sw_swB {ts vs : List Expr} {k1 k2 : Nat} {r : Option (List Str)} {env : Env} (hk : env.scope.kind = .function) (h : swB env.scope ts vs = some r) : swappedStores [.Tuple ts k1 p1] (.Tuple vs k2 p2) env = pure r := by
  have hb : env.blockKind = .function := by unfold Env.blockKind; rw [hk]; rfl
  unfold swB at h
  unfold swappedStores
  simp only [hb, bne_self_eq_false, Bool.or_false]
  split at h
  · rename_i c; cases h; exact if_pos c
  · rename_i c; refine (if_neg c).trans ?_
    split at h
    · rename_i c; cases h; exact if_pos c
    · rename_i c; refine (if_neg c).trans ?_
      simp only at h
      split at h
      · rename_i c; cases h; exact if_pos c
      · rename_i c
        split at h
        · rename_i c2; cases h; refine (if_neg c).trans ?_; exact if_pos c2
        · rename_i c2
          split at h
          · cases h
          · rename_i c3; cases h; refine (if_neg c).trans ?_; refine (if_neg c2).trans ?_; exact if_neg c3
theorem parT_bind : ∀ (ts : List T) (ds : List D) (ρ ρ' : List Sl), parT ρ ts ds = some ρ' → bindTs ρ ts ds = some ρ'
  | [], [], ρ, ρ', h => h
  | [], _ :: _, ρ, ρ', h => by cases h
  | t :: ts, [], ρ, ρ', h => by cases t <;> cases h
  | .nm i :: ts, d :: ds, ρ, ρ', h => by
    simp only [parT] at h
    simp only [bindTs, bindT]
    split at h
    · rename_i c; rw [if_pos c]; exact parT_bind ts ds _ _ h
    · cases h
  | .tp _ :: _, _ :: _, _, _, h => by cases h
  | .st _ _ :: _, _ :: _, _, _, h => by cases h
theorem ss_parN {ts : List T} {es : List E} {tg : Expr} {ee : List Expr} {k : Nat} (hg : PG X tg (tG X.w X.K (.tp ts))) (he : SE X M W cl (.tup es) (.Tuple ee k p0)) (ht : swappedStores [tg] (.Tuple ee k p0) X.env = pure none) (hp : plainB tg = true) : PS X (.Assign [tg] (.Tuple ee k p0) pos) (tS X M W cl (.par ts es)) :=
  PS.weak (ss_asgT hg he rfl ht hp) fun Ds σ H ⟨ρ, F, ok, q⟩ => by
    refine ⟨ρ, F, ok, ?_⟩
    simp only [evS] at q ⊢
    simp only [ev, fin_v]
    cases z : evs cl ρ .v es with
    | bad => rw [z] at q; exact q
    | ex c fs => rw [z] at q; exact q
    | ok ds =>
      rw [z] at q
      simp only [lift, bind_ok] at q ⊢
      cases z2 : parT ρ ts ds with
      | none => rw [z2] at q; exact q.elim
      | some ρ' =>
        rw [z2] at q
        rw [bindT, parT_bind _ _ _ _ z2]
        exact q
theorem ss_par2 {i j : Nat} {es : List E} {x y : Str} {a b : Expr} {px py pt : Pos} {kt k2 : Nat} {pt2 : Pos} (hs : Hs g sc X M W cl) (hc : X.calm = true) (hi : g.N[i]? = some x) (hj : g.N[j]? = some y) (hij : i ≠ j)
    (hx : sc.names.lookup x = some .local) (hy : sc.names.lookup y = some .local) (ha : SEs X M W cl es [a, b])
    (hw : swappedStores [.Tuple [.Name x px, .Name y py] kt pt] (.Tuple [a, b] k2 pt2) X.env = pure (some [x, y])) :
    PS X (.Assign [.Tuple [.Name x px, .Name y py] kt pt] (.Tuple [a, b] k2 pt2) pos) (tS X M W cl (.par [.nm i, .nm j] es)) := by
  have hN : X.N.Nodup := by rw [hs.x.N]; exact hs.x.nd
  refine PS.weak (ps_par (i := i) (j := j) hc hN (by rw [hs.x.N]; exact hi) (by rw [hs.x.N]; exact hj) hij (by rw [hs.x.sc]; exact hx) (by rw [hs.x.sc]; exact hy) (s_args ha) hw (sws_plain rfl)) fun Ds σ H ⟨ρ, F, ok, q⟩ => ?_
  refine ⟨ρ, F, ok, ?_⟩
  simp only [evS] at q
  refine (AfterS.lift ok q).imp fun ds F' H' xx q' vs rs => ?_
  match ds, vs, rs, q' with
  | [d1, d2], [v1, v2], rs, q' =>
    simp only [RepL] at rs
    simp only [parT] at q'
    by_cases c : i < ρ.length
    · rw [if_pos c] at q'
      by_cases c2 : j < (ρ.set i (.fz d1)).length
      · rw [if_pos c2] at q'
        exact ⟨v1, v2, rfl, q' _ F' H' (((ok.ext xx).setF rs.1).setF rs.2.1) .refl⟩
      · rw [if_neg c2] at q'; exact q'.elim
    · rw [if_neg c] at q'; exact q'.elim
  | [d1, d2], [], rs, q' => simp only [RepL] at rs
  | [d1, d2], [_], rs, q' => simp only [RepL] at rs; exact rs.2.elim
  | [d1, d2], _ :: _ :: _ :: _, rs, q' => simp only [RepL] at rs; exact rs.2.2.elim
  | [], _, rs, q' => simp only [parT] at q'; exact q'.elim
  | [_], _, rs, q' =>
    simp only [parT] at q'
    split at q' <;> exact q'.elim
  | _ :: _ :: _ :: _, _, rs, q' =>
    simp only [parT] at q'
    split at q'
    · split at q' <;> exact q'.elim
    · exact q'.elim
theorem ss_par3 {i j l : Nat} {es : List E} {x y z : Str} {a b c : Expr} {px py pz pt : Pos} {kt k2 : Nat} {pt2 : Pos} (hs : Hs g sc X M W cl) (hc : X.calm = true) (hi : g.N[i]? = some x) (hj : g.N[j]? = some y) (hl : g.N[l]? = some z) (hij : i ≠ j) (hil : i ≠ l) (hjl : j ≠ l)
    (hx : sc.names.lookup x = some .local) (hy : sc.names.lookup y = some .local) (hz : sc.names.lookup z = some .local) (ha : SEs X M W cl es [a, b, c])
    (hw : swappedStores [.Tuple [.Name x px, .Name y py, .Name z pz] kt pt] (.Tuple [a, b, c] k2 pt2) X.env = pure (some [x, y, z])) :
    PS X (.Assign [.Tuple [.Name x px, .Name y py, .Name z pz] kt pt] (.Tuple [a, b, c] k2 pt2) pos) (tS X M W cl (.par [.nm i, .nm j, .nm l] es)) := by
  have hN : X.N.Nodup := by rw [hs.x.N]; exact hs.x.nd
  refine PS.weak (ps_par3 (i := i) (j := j) (l := l) hc hN (by rw [hs.x.N]; exact hi) (by rw [hs.x.N]; exact hj) (by rw [hs.x.N]; exact hl) hij hil hjl (by rw [hs.x.sc]; exact hx) (by rw [hs.x.sc]; exact hy) (by rw [hs.x.sc]; exact hz) (s_args ha) hw (sws_plain rfl)) fun Ds σ H ⟨ρ, F, ok, q⟩ => ?_
  refine ⟨ρ, F, ok, ?_⟩
  simp only [evS] at q
  refine (AfterS.lift ok q).imp fun ds F' H' xx q' vs rs => ?_
  cases z2 : parT ρ [.nm i, .nm j, .nm l] ds with
  | none => rw [z2] at q'; exact q'.elim
  | some ρ' =>
    rw [z2] at q'
    match ds, vs, rs, z2 with
    | [d1, d2, d3], [v1, v2, v3], rs, z2 =>
      simp only [RepL] at rs
      simp only [parT] at z2
      split at z2
      · split at z2
        · split at z2
          · cases z2
            exact ⟨v1, v2, v3, rfl, q' _ F' H' ((((ok.ext xx).setF rs.1).setF rs.2.1).setF rs.2.2.1) .refl⟩
          · cases z2
        · cases z2
      · cases z2
    | [d1, d2, d3], [], rs, q' => simp only [RepL] at rs
    | [d1, d2, d3], [_], rs, q' => simp only [RepL] at rs; exact rs.2.elim
    | [d1, d2, d3], [_, _], rs, q' => simp only [RepL] at rs; exact rs.2.2.elim
    | [d1, d2, d3], _ :: _ :: _ :: _ :: _, rs, q' => simp only [RepL] at rs; exact rs.2.2.2.elim
    | [], _, rs, z2 => simp only [parT] at z2; cases z2
    | [_], _, rs, z2 => simp only [parT] at z2; split at z2 <;> cases z2
    | [_, _], _, rs, z2 => simp only [parT] at z2; (repeat split at z2) <;> cases z2
    | _ :: _ :: _ :: _ :: _, _, rs, z2 => simp only [parT] at z2; (repeat split at z2) <;> cases z2
/-! ### with pops -/
def AfterF {α β : Type} (X : Cx) (M : Pm) (W : WX) (σ : L2.St) (F H : Hp) (r : R (α × List Sl)) (P : Hp → β → α → Prop) (Q : β → Hp → Prop) : Prop := match r with
  | .ok (d, ρ') => ∀ v F' H', Ok X.w X.K M F' H' σ ρ' → Sub F F' → P F' v d → Q v H'
  | .ex c fs => ∀ F' H' C dA, Ext F H F' H' → M.cls c = some C → XD X.w X.K F' dA fs → W (.ref C) dA σ H'
  | .bad => False
def tFx (X : Cx) (M : Pm) (W : WX) (cl : Cl) (f : Ad.F) : TE := fun σ H Q => ∃ ρ F, Ok X.w X.K M F H σ ρ ∧ AfterF X M W σ F H (evF cl ρ f) (Rep X.w X.K) Q
def tFL (X : Cx) (M : Pm) (W : WX) (cl : Cl) (f : List Ad.F) : TA := fun σ H Q => ∃ ρ F, Ok X.w X.K M F H σ ρ ∧ AfterF X M W σ F H (evFL cl ρ f) (RepL X.w X.K) Q
theorem AfterF.nox {α β : Type} {r : R (α × List Sl)} {P : Hp → β → α → Prop} {Q : β → Hp → Prop} {σ : L2.St} {F H : Hp} (h : AfterF X M W σ F H r.nox P Q) : ∃ d ρ', r = .ok (d, ρ') ∧ ∀ v F' H', Ok X.w X.K M F' H' σ ρ' → Sub F F' → P F' v d → Q v H' := by
  cases r with
  | ok a => obtain ⟨d, ρ'⟩ := a; exact ⟨d, ρ', rfl, h⟩
  | ex c fs => exact h.elim
  | bad => exact h.elim
theorem sf_pure (he : SE X M W cl x e) : PE X e (tFx X M W cl (.pure x)) := he.v.weak fun σ H Q ⟨ρ, F, ok, q⟩ => by
  refine ⟨ρ, F, ok, ?_⟩
  simp only [evF] at q
  cases z : ev cl ρ .v x with
  | ok d => rw [z] at q; exact fun F' H' xx v rv => q v F' H' (ok.ext xx) xx.subF rv
  | ex c fs => rw [z] at q; exact q
  | bad => rw [z] at q; exact q
/-- the object of a method, an owned list at slot i -/
theorem few1 {e : Expr} {cpos : Pos} {env : Env} (h : plainB e = true) : ((backTo cpos (starEach [e] env)).all (fun x => !x.1) && (backToKw cpos (keywordEach [] env)).all (fun x => x.1.isSome)
      && decide ([e].length + ([] : List Keyword).length + (if ([] : List Keyword).isEmpty then 0 else 1) < 30)) = true := by
  rw [star_plain h]; rfl
theorem base_name {n : Str} {p : Pos} {a : Str} {env : Env} {w : Sem Value} : attributeBase (.Name n p) a env w = w := rfl
/-- name.method(e), one argument -/
theorem pe_m1 {n m : Str} {id : String} {T : String} {r : V → List V → Hp → VK → Prop} {ta : TE} {pn ap cp : Pos} (hv : varB g sc i n = true) (hx : Hx g sc X M W cl) (pa : PlainAttrs T) (slot : Slot T m id) (hty : typeOf (.builtin id) = pure (.type "method_descriptor")) (hm : MtR X id r) (ha : PE X e ta) (hp : plainB e = true) (hl : (ap.endLine == cp.line) = true) :
    PE X (.Call (.Attribute (.Name n pn) m ap) [e] [] cp) (tBM X.K T r (tVar i) (tCons ta tNil)) := by
  obtain ⟨h1, h2, h3, h4⟩ := var_i hv hx
  exact pe_bm pa slot hty hm (pe_var h1 h2 h3 h4) (pa_cons ha pa_nil (star_plain hp)) base_name (few1 hp) hl (star_plain hp) rfl
theorem ixn63 {n : Nat} {i : Int} {j : Nat} (h : ixOf n i = some j) (hz : n ≤ sizeLine) : -(2 ^ 63) ≤ i ∧ i < 2 ^ 63 ∧ seqIndex? i n = some j ∧ j < n := by
  obtain ⟨a, b, c, d⟩ := ixN_seq h
  have := sizeLine_eq
  exact ⟨by omega, by omega, a, b⟩
theorem Ok.own_at {w : World} {K : Fr} {F H : Hp} {σ : L2.St} {ρ : List Sl} {xs : List D} (ok : Ok w K M F H σ ρ) (e : ρ[i]? = some (.ow (.list xs))) : ∃ p vs, σ[i]? = some (some (.ref p)) ∧ F p = none ∧ M.Z.H p = none ∧ H p = some (.lst vs) ∧ RepL w K F vs xs := by
  obtain ⟨p, h1, h2, h3, vs, h4, h5⟩ := ok.slot i _ e
  exact ⟨p, vs, h1, h2, h3, h4, h5⟩
/-- an owned list is written -/
theorem Ok.lset {w : World} {K : Fr} {F H : Hp} {σ : L2.St} {ρ : List Sl} {p : Addr} {xs ys : List D} {vs : List V} (ok : Ok w K M F H σ ρ) (e : ρ[i]? = some (.ow (.list xs))) (ep : σ[i]? = some (some (.ref p))) (r : RepL w K F vs ys) : Ok w K M F (upd H p (.lst vs)) σ (ρ.set i (.ow (.list ys))) :=
  ok.mut e ep ⟨vs, upd_same, r⟩
theorem sf_pop {n : Str} {pn ap cp : Pos} (hx : Hx g sc X M W cl) (hv : varB g sc i n = true) (he : SE X M W cl x e) (hp : plainB e = true) (hl : (ap.endLine == cp.line) = true) : PE X (.Call (.Attribute (.Name n pn) "pop" ap) [e] [] cp) (tFx X M W cl (.pop i x)) :=
  (pe_m1 hv hx PySem.F.plainAttrs_list PySem.F.slot_list_pop rfl mt_popAt he.v hp hl).weak fun σ H Q ⟨ρ, F, ok, q⟩ => by
    simp only [evF] at q
    cases z : ev cl ρ .v x with
    | ex c fs => rw [z] at q; exact q.elim
    | bad => rw [z] at q; exact q.elim
    | ok k =>
    rw [z] at q
    simp only [R.nox, bind_ok] at q
    split at q
    · rename_i xs n' e1
      by_cases hn : n'.natAbs ≤ line
      · rw [if_pos hn] at q
        cases z2 : ixOf xs.length n' with
        | none => rw [z2] at q; exact q.elim
        | some j =>
          rw [z2] at q
          simp only at q
          cases z3 : xs[j]? with
          | none => rw [z3] at q; exact q.elim
          | some y =>
            rw [z3] at q
            obtain ⟨p, vs, h1, h2, h3, h4, h5⟩ := ok.own_at e1
            refine ⟨.ref p, h1, .inl ⟨rfl, vs, SqL.of h4⟩, ρ, F, ok, ?_⟩
            rw [z]
            intro F' H' xx v rv
            cases (show v = .int n' by simpa only [Rep] using rv)
            have ok' := ok.ext xx
            have h5' := RepL.sub xx.subF _ _ h5
            obtain ⟨u, g1, g2⟩ := h5'.get z3
            have hlen := h5.length
            have hL := line_eq
            have hS := sizeLine_eq
            obtain ⟨s1, s2, s3, s4⟩ := ixN_seq z2
            rw [← hlen] at s1
            exact ⟨p, vs, n', j, u, rfl, rfl, xx.sub _ _ h4, by omega, by omega, s1, g1, q u F' _ (ok'.lset e1 h1 (h5'.erase j)) xx.subF g2⟩
      · rw [if_neg hn] at q
        exact q.elim
    · exact q.elim
theorem sf_ite {c : E} {a b : Ad.F} {ec ea eb : Expr} (hc : SE X M W cl c ec) (ha : PE X ea (tFx X M W cl a)) (hb : PE X eb (tFx X M W cl b)) : PE X (.IfExp ec ea eb pos) (tFx X M W cl (.ite c a b)) :=
  (pe_ifExp (pos := pos) hc.t ha hb).weak fun σ H Q ⟨ρ, F, ok, q⟩ => by
    refine ⟨ρ, F, ok, ?_⟩
    simp only [evF] at q
    cases z : ev cl ρ .t c with
    | ex c fs => rw [z] at q; exact q.elim
    | bad => rw [z] at q; exact q.elim
    | ok t =>
      rw [z] at q
      simp only [R.nox, bind_ok] at q
      intro F' H' xx
      by_cases ct : truth t = true
      · rw [if_pos ct] at q ⊢
        obtain ⟨d, ρ', e1, q⟩ := AfterF.nox q
        refine ⟨ρ, F', ok.ext xx, ?_⟩
        rw [e1]
        exact fun v F2 H2 ok2 s2 r2 => q v F2 H2 ok2 (xx.subF.trans s2) r2
      · rw [if_neg ct] at q ⊢
        obtain ⟨d, ρ', e1, q⟩ := AfterF.nox q
        refine ⟨ρ, F', ok.ext xx, ?_⟩
        rw [e1]
        exact fun v F2 H2 ok2 s2 r2 => q v F2 H2 ok2 (xx.subF.trans s2) r2
theorem sf_nil : PA X [] (tFL X M W cl []) := pa_nil.weak fun σ H Q ⟨ρ, F, ok, q⟩ => by
  simp only [evFL] at q
  exact q [] F H ok .refl (by simp only [RepL])
theorem sf_cons {f : Ad.F} {fs : List Ad.F} {es : List Expr} (hp : plainB e = true) (h1 : PE X e (tFx X M W cl f)) (h2 : PA X es (tFL X M W cl fs)) : PA X (e :: es) (tFL X M W cl (f :: fs)) :=
  (pa_cons h1 h2 (star_plain hp)).weak fun σ H Q ⟨ρ, F, ok, q⟩ => by
    refine ⟨ρ, F, ok, ?_⟩
    simp only [evFL] at q
    cases z : evF cl ρ f with
    | ex c fs => rw [z] at q; exact q.elim
    | bad => rw [z] at q; exact q.elim
    | ok pr =>
      obtain ⟨d, ρ1⟩ := pr
      rw [z] at q
      simp only [R.nox, bind_ok] at q
      intro v F1 H1 ok1 s1 r1
      refine ⟨ρ1, F1, ok1, ?_⟩
      cases z2 : evFL cl ρ1 fs with
      | ex c fs => rw [z2] at q; exact q.elim
      | bad => rw [z2] at q; exact q.elim
      | ok pr2 =>
        obtain ⟨ds, ρ2⟩ := pr2
        rw [z2] at q
        exact fun vs F2 H2 ok2 s2 r2 => q (v :: vs) F2 H2 ok2 (s1.trans s2) (by simp only [RepL]; exact ⟨Rep.sub s2 _ _ r1, r2⟩)
theorem evFL_length : ∀ (fs : List Ad.F) (ds : List D) (ρ ρ' : List Sl), evFL cl ρ fs = .ok (ds, ρ') → ds.length = fs.length
  | [], ds, ρ, ρ', h => by simp only [evFL] at h; injection h with h; injection h with h1 h2; subst h1; rfl
  | f :: fs, ds, ρ, ρ', h => by
    simp only [evFL] at h
    cases z : evF cl ρ f with
    | ex c fs => rw [z] at h; cases h
    | bad => rw [z] at h; cases h
    | ok p =>
      rw [z] at h
      simp only [R.nox, bind_ok] at h
      cases z2 : evFL cl p.2 fs with
      | ex c fs => rw [z2] at h; cases h
      | bad => rw [z2] at h; cases h
      | ok p2 =>
        rw [z2] at h
        simp only [R.nox, bind_ok] at h
        injection h with h; injection h with h1 h2; subst h1
        obtain ⟨ds2, ρ2⟩ := p2
        simp [evFL_length fs ds2 p.2 ρ2 z2]
theorem sf_tup {fs : List Ad.F} {es : List Expr} {k : Nat} (h : PA X es (tFL X M W cl fs)) : PE X (.Tuple es k pos) (tFx X M W cl (.tup fs)) :=
  (pe_tupP (pos := pos) (k := k) h).weak fun σ H Q ⟨ρ, F, ok, q⟩ => by
    refine ⟨ρ, F, ok, ?_⟩
    simp only [evF] at q
    cases z : evFL cl ρ fs with
    | ex c fs => rw [z] at q; exact q
    | bad => rw [z] at q; exact q.elim
    | ok pr =>
      obtain ⟨ds, ρ1⟩ := pr
      rw [z] at q
      simp only [bind_ok] at q
      by_cases c : fits fs.length = true
      · rw [if_pos c] at q
        intro vs F1 H1 ok1 s1 r1
        refine ⟨by rw [r1.length, evFL_length _ _ _ _ z, ← line_eq]; exact of_decide_eq_true c, fun p o hp ho => ?_⟩
        have xx : Ext F1 H1 (upd F1 p (.frz o (.tup vs))) (upd H1 p (.frz o (.tup vs))) := Ext.new ok1.sub hp
        refine q (.ref p) _ _ (ok1.ext xx) (s1.trans xx.subF) ?_
        simp only [Rep]
        exact ⟨p, vs, rfl, SqP.of ho upd_same, RepL.sub xx.subF _ _ r1⟩
      · rw [if_neg c] at q; exact q.elim
theorem ss_asgF {f : Ad.F} {n : Str} {pn : Pos} (hs : Hs g sc X M W cl) (hi : g.N[i]? = some n) (hl : locB sc n = true) (hf : PE X e (tFx X M W cl f)) (hc : compB e = false) : PS X (.Assign [.Name n pn] e pos) (tS X M W cl (.asgF i f)) := by
  obtain ⟨l1, l2⟩ := hs.hg.loc n hl
  have hN : X.N.Nodup := by rw [hs.x.N]; exact hs.x.nd
  refine PS.weak (ps_set (i := i) hN (by rw [hs.x.N]; exact hi) l1 hf (sw_plain hc) l2) fun Ds σ H ⟨ρ, F, ok, q⟩ => ?_
  refine ⟨ρ, F, ok, ?_⟩
  simp only [evS] at q
  cases z : evF cl ρ f with
  | bad => rw [z] at q; exact q
  | ex c fs => rw [z] at q; exact fun F' H' C dA xx hC hD => q σ F' H' C dA (ok.ext xx) xx.subF hC hD
  | ok pr =>
    obtain ⟨d, ρ'⟩ := pr
    rw [z] at q
    simp only [lift] at q
    by_cases c : i < ρ.length
    · rw [if_pos c] at q
      exact fun v F' H' ok' s' r' => q _ F' H' (ok'.setF r') s'
    · rw [if_neg c] at q; exact q.elim
theorem owned_ok {ρ : List Sl} {f : D → Option Out} {F0 : Hp} (h : AfterS X M W F0 Ds (owned ρ i f)) : ∃ d, ρ[i]? = some (.ow d) ∧ AfterS X M W F0 Ds (f d) := by
  unfold owned at h
  split at h
  · exact ⟨_, by assumption, h⟩
  · exact h.elim
theorem ss_app {f : Ad.F} {n : Str} {pn ap cp : Pos} (hs : Hs g sc X M W cl) (hv : varB g sc i n = true) (hf : PE X e (tFx X M W cl f)) (hp : plainB e = true) (hl : (ap.endLine == cp.line) = true) : PS X (.Expr (.Call (.Attribute (.Name n pn) "append" ap) [e] [] cp) pos) (tS X M W cl (.app i f)) := by
  refine PS.weak (ps_expr (pe_m1 hv hs.x PySem.F.plainAttrs_list PySem.F.slot_list_append rfl mt_append hf hp hl)) fun Ds σ H ⟨ρ, F, ok, q⟩ => ?_
  simp only [evS] at q
  by_cases hlt : isLent ρ i = true
  · rw [if_pos hlt] at q
    obtain ⟨p, vs, e1, h4⟩ : ∃ p vs, σ[i]? = some (some (.ref p)) ∧ H p = some (.lst vs) := by
      unfold isLent at hlt
      split at hlt
      · rename_i ds e0
        obtain ⟨p, h1, h2, h3, vs, h4, h5⟩ := ok.slot i _ e0
        exact ⟨p, vs, h1, h4⟩
      · rename_i ds e0
        obtain ⟨p, h1, h2, vs, h4, h5⟩ := ok.slot i _ e0
        exact ⟨p, vs, h1, h4⟩
      · cases hlt
    refine ⟨.ref p, e1, .inl ⟨rfl, vs, SqL.of h4⟩, ρ, F, ok, ?_⟩
    cases z : evF cl ρ f with
    | bad => rw [z] at q; exact q.elim
    | ex c fs => rw [z] at q; exact fun F' H' C dA xx hC hD => q σ F' H' C dA (ok.ext xx) xx.subF hC hD
    | ok pr =>
      obtain ⟨d, ρ'⟩ := pr
      rw [z] at q
      simp only [lift] at q
      obtain ⟨dd, e2, q⟩ := owned_ok q
      cases dd with
      | list xs =>
        by_cases hc : xs.length < line
        · simp only [if_pos hc] at q
          intro v F' H' ok' s' r'
          obtain ⟨p2, vs2, g1, g2, g3, g4, g5⟩ := ok'.own_at e2
          rw [e1] at g1; cases g1
          have hl := g5.length
          exact ⟨p, vs2, v, rfl, rfl, g4, by rw [hl, ← line_eq]; exact hc, q σ F' _ (ok'.lset e2 e1 (g5.append (by simp only [RepL]; exact ⟨r', trivial⟩))) s'⟩
        · simp only [if_neg hc] at q; exact q.elim
      | _ => exact q.elim
  · rw [if_neg hlt] at q; exact q.elim
theorem ss_aug {n : Str} {pn : Pos} (hs : Hs g sc X M W cl) (hi : g.N[i]? = some n) (hl : locB sc n = true) (he : SE X M W cl x e) : PS X (.AugAssign (.Name n pn) .Add e pos) (tS X M W cl (.aug i x)) := by
  obtain ⟨l1, l2⟩ := hs.hg.loc n hl
  have hN : X.N.Nodup := by rw [hs.x.N]; exact hs.x.nd
  refine PS.weak (ps_aug (i := i) hN (by rw [hs.x.N]; exact hi) l1 he.v ip_add l2) fun Ds σ H ⟨ρ, F, ok, q⟩ => ?_
  simp only [evS] at q
  cases z : getV ρ i with
  | bad => rw [z] at q; exact q.elim
  | ex c fs => exact (getV_no z).elim
  | ok d =>
    rw [z] at q
    simp only [lift] at q
    obtain ⟨v, e1, r1⟩ := ok.get z
    refine ⟨v, e1, ρ, F, ok, ?_⟩
    have q : AfterS X M W F Ds (Ad.lift ρ (ev cl ρ .v x) _) := q
    refine (AfterS.lift ok q).imp fun y F' H' xx q' u ru => ?_
    obtain ⟨a, b, rfl, rfl⟩ : ∃ a b, d = .int a ∧ y = .int b := by
      cases d <;> first | exact q'.elim | skip
      cases y <;> first | exact q'.elim | exact ⟨_, _, rfl, rfl⟩
    cases (show v = .int a by simpa only [Rep] using r1)
    cases (show u = .int b by simpa only [Rep] using ru)
    exact ⟨a, b, rfl, rfl, q' _ F' H' ((ok.ext xx).setF (by simp only [Rep])) .refl⟩
end
end Ad
set_option Elab.async false
set_option linter.all false
set_option maxRecDepth 100000
set_option maxHeartbeats 4000000
/-! a, *b = a list. -/
namespace Ad
open PySem PySem.Spec PyProof.Rows L2
section
variable {prog : Program} {w : World} {A : Around} {E : Value → Shared → Prop} {s : Shared}
theorem star_items {l : Addr} {items : Array Value} {Q : List Value → Shared → Prop} (hl : s.heap.IsList l items) (hh : A.handled = none) (hn : 1 ≤ items.size) (hz : items.size ≤ sizeLine)
    (h : ∀ (h₂ : Heap) (tk : Tok), (∀ b o, b ≠ s.heap.objs.size → s.heap.get? b = some o → h₂.get? b = some o) → Q (items.toList.take 1 ++ [.ref h₂.objs.size]) { s with heap := h₂.push (seqObj "list" (items.toList.drop 1).toArray 0), toks := tk }) : wpAny (model prog w) A (unpackItems (.ref l) 2 (some 1)) Q E s := by
  have hlt : l ≠ s.heap.objs.size := by obtain ⟨o, ho, _⟩ := hl; exact Nat.ne_of_lt (Heap.lt_size ho)
  have hll : l < s.heap.objs.size := by obtain ⟨o, ho, _⟩ := hl; exact Heap.lt_size ho
  unfold unpackItems
  refine wpAny_bind ?_
  unfold notIterableAtAll
  refine wpAny_bind (wpAny_specialOf hl.typeIs slot_list_iter.lookup ?_)
  refine wpAny_pure ?_
  simp only [Bool.false_eq_true, if_false]
  refine wpAny_bind (wpAny_holding (wpAny_pyIter_list hl ?_))
  refine wpAny_bind (wpAny_holding (PySem.W.kun_draw hlt 1 0 _ _ ⟨_, Heap.get?_push_size _ rfl, rfl, rfl⟩ (hl.push _) (by omega) fun h₁ hit₁ hs₁ => ?_))
  have hl₁ : h₁.IsList l items := (hl.push _).extBut hs₁.extBut hlt
  rw [Nat.zero_add] at hit₁
  have hit₁' := hit₁
  obtain ⟨oi, hoi, _⟩ := hit₁'
  have hl₁' := hl₁
  obtain ⟨ol, hol, _⟩ := hl₁'
  rw [List.drop_zero]
  have hfl : (items.toList.take 1).length = 1 := by rw [List.length_take, Array.length_toList]; omega
  rw [if_neg (show ¬ ((items.toList.take 1).length < 1) by rw [hfl]; omega)]
  refine wpAny_bind (wpAny_holding (PySem.W.kun_collect (s := { s with heap := h₁ }) (T := "list_iterator") (.inr (.inr (.inl rfl))) (Walks.list (A := A.in1) hh s.heap.objs.size l hlt items) (fun j u st => st.1.typeIs) (k := 1) (by omega) ⟨hit₁, hl₁⟩ (Heap.lt_size hoi) (Heap.lt_size hol) (fun h₂ tk hk => ?_) hz))
  have hrl : (items.toList.drop 1).length = items.size - 1 := by rw [List.length_drop, Array.length_toList]
  show wpAny _ _ (if (items.toList.drop 1).length < 0 then _ else _) _ _ _
  rw [if_neg (by omega)]
  show wpAny _ _ (newList ((items.toList.drop 1).take ((items.toList.drop 1).length - 0)) >>= fun d => pure (items.toList.take 1 ++ [d] ++ (items.toList.drop 1).drop ((items.toList.drop 1).length - 0))) _ _ _
  rw [Nat.sub_zero, List.take_length, List.drop_length]
  have he : ∀ b o, b ≠ s.heap.objs.size → s.heap.get? b = some o → h₂.get? b = some o := fun b o hb e => hk b o hb (hs₁.extBut b o hb (Heap.get?_push_of_some _ e))
  refine wpAny_bind (wpAny_newList ?_ (by rw [hrl]; omega))
  exact wpAny_pure (by rw [List.append_nil]; exact h h₂ tk he)
end
section
variable {X : Cx}
theorem pg_star {e1 e2 : Expr} {k : Nat} {pos sp : Pos} {t : TGs} (hc : X.calm = true) (h : PGs X [e1, e2] t) (ha : assignEach [e1, .Starred e2 sp] X.env = [(false, assign e1 X.env), (true, assign e2 X.env)]) (hb : assignEach [e1, e2] X.env = [(false, assign e1 X.env), (false, assign e2 X.env)]) :
    PG X (.Tuple [e1, .Starred e2 sp] k pos) (fun v σ H Q => ∃ a x r, v = .ref a ∧ SqL X.K H a (x :: r) ∧ ∀ p, H p = none → t [x, .ref p] σ (upd H p (.lst r)) Q) := by
  refine ⟨fun pins s σ H v u Q I rr hw => ?_⟩
  obtain ⟨a, x, r, e1', hq, hw⟩ := hw
  subst e1'
  cases rr
  obtain ⟨its, rv, hl, hz⟩ := I.list hq
  cases rv with
  | cons r1 rs =>
  rename_i u us
  have hsz : (u :: us).toArray.size ≤ sizeLine := by
    have := rs.length
    simp only [List.size_toArray, List.length_cons] at hz ⊢
    omega
  rw [assign_Tuple]
  refine wpAny_bind (wpAny_standAt ?_)
  unfold unpack
  rw [ha]
  refine wpAny_bind (wpAny_holding (star_items (items := (u :: us).toArray) hl.isList (I.ok.hd hc) (by simp) hsz fun h₂ tk hk => ?_))
  have I1 : Inv X pins σ H { s with heap := h₂, toks := tk } := I.kept fun b o e => hk b o (Nat.ne_of_lt (Heap.lt_size e)) e
  have hlen : r.length ≤ sizeLine := by
    have := rs.length
    simp only [List.size_toArray, List.length_cons] at hsz
    omega
  have I2 := I1.laid (t' := tk) (o := .lst r) (fun b o e => Heap.get?_push_of_some _ e) (Nat.le_refl _) (show ObjOk X.prog X.w _ _ _ (.lst r) from ⟨hlen, us, 0, rs, Heap.get?_push_size _ rfl⟩)
  have hrun := h.run pins _ σ _ [x, .ref h₂.objs.size] [u, .ref h₂.objs.size] Q I2 (.cons r1 (.cons rfl .nil)) (hw _ (I1.hok.fresh (Nat.le_refl _)))
  rw [hb] at hrun
  exact hrun
end
section
variable {g : Gc} {sc : Scope} {X : Cx} {M : Pm} {W : WX} {cl : Cl} {e : Expr} {x : E} {i j k : Nat} {n1 n2 : Str} {p1 p2 sp p pos : Pos}
theorem ss_asgSt (hc' : X.calm = true) (h1 : PG X (.Name n1 p1) (gName i)) (h2 : PG X (.Name n2 p2) (gName j)) (he : SE X M W cl x e) (hc : compB e = false) (ht : tupB e = false) :
    PS X (.Assign [.Tuple [.Name n1 p1, .Starred (.Name n2 p2) sp] k p] e pos) (tS X M W cl (.asg (.st i j) x)) := by
  have hps : PGs X [.Name n1 p1, .Name n2 p2] (gCons (gName i) (gCons (gName j) gNil)) := pgs_cons h1 (pgs_cons h2 pgs_nil rfl) rfl
  refine PS.weak (ps_asg he.v (pg_star (k := k) (pos := p) (sp := sp) hc' hps rfl rfl) (sws_plain hc) (sst_plain ht) rfl) fun Ds σ H ⟨ρ, F, ok, q⟩ => ?_
  refine ⟨ρ, F, ok, ?_⟩
  simp only [evS] at q
  refine (AfterS.lift ok q).imp fun d F' H' xx q' v rv => ?_
  cases qb : bindT ρ (.st i j) d with
  | none => rw [qb] at q'; exact q'.elim
  | some ρ' =>
    rw [qb] at q'
    cases d with
    | list ds =>
      cases ds with
      | nil => simp only [bindT] at qb; cases qb
      | cons d ds =>
        simp only [bindT] at qb
        split at qb
        · injection qb with qb
          subst qb
          simp only [Rep] at rv
          obtain ⟨a, xs, rfl, sq, rl⟩ := rv
          cases xs with
          | nil => simp only [RepL] at rl
          | cons y ys =>
            simp only [RepL] at rl
            have ok1 := ok.ext xx
            refine ⟨a, y, ys, rfl, SqL.sub xx.inn sq, fun p hp => ?_⟩
            have hf : F' p = none := by
              cases e : F' p with
              | none => rfl
              | some o => rw [xx.inn _ _ e] at hp; cases hp
            have ex : Ext F' H' (upd F' p (.lst ys)) (upd H' p (.lst ys)) := ext_freeze (Ext.newO xx.inn hp) hp upd_same
            have ok2 := ok1.ext ex
            have r1 : Rep X.w X.K (upd F' p (.lst ys)) y d := Rep.sub (Sub.upd hf) _ _ rl.1
            have r2 : Rep X.w X.K (upd F' p (.lst ys)) (.ref p) (.list ds) := by
              simp only [Rep]
              exact ⟨p, ys, rfl, SqL.of upd_same, RepL.sub (Sub.upd hf) _ _ rl.2⟩
            exact ⟨y, [.ref p], rfl, .ref p, [], rfl, rfl, q' _ _ _ ((ok2.setF r1).setF r2) ex.subF⟩
        · cases qb
    | _ => simp only [bindT] at qb; cases qb
end
end Ad
set_option Elab.async false
set_option linter.all false
set_option maxRecDepth 100000
set_option maxHeartbeats 4000000
namespace Ad
open PySem PySem.Spec PyProof.Rows L2
section
variable {g : Gc} {sc : Scope} {X : Cx} {M : Pm} {W : WX} {cl : Cl} {pos p0 p1 p2 : Pos} {Ds : Ends} {st : Stmt} {e ek : Expr} {x k : E} {i : Nat}
theorem _root_.L2.PSet.or {t u : TSet} (h : PSet X t) (h' : PSet X u) : PSet X (fun o i v H Q => t o i v H Q ∨ u o i v H Q) := fun pins s σ H o i v ov iv u' Q I r1 r2 r3 q =>
  q.elim (h pins s σ H o i v ov iv u' Q I r1 r2 r3) (h' pins s σ H o i v ov iv u' Q I r1 r2 r3)
theorem sst_sub {o i : Expr} {env : Env} : swappedStores [.Subscript o i p0] e env = pure none := by cases e <;> rfl
theorem assign_sub {o i : Expr} (h : ixB i = true) : ∀ v, assign (.Subscript o i p0) X.env v = (do
      let ov ← holding [v] (eval o X.env)
      let iv ← holding [v, ov] (eval i X.env)
      standAt p0
      holding [v, ov, iv] (setItem ov iv v)
      release [v, ov, iv] []) := by
  intro v
  cases i <;> first | rfl | cases h
/-- o[i] = v, by data -/
def rPut (X : Cx) : TSet := fun o i v H Q => rSetL o i v H Q ∨ rSetDD X o i v H Q
theorem put_ok {F H : Hp} {σ : L2.St} {ρ : List Sl} {d kd vd d' : D} {kv v : V} {p : Addr} {Q : Hp → Prop} (ok : Ok X.w X.K M F H σ ρ) (e : ρ[i]? = some (.ow d)) (ep : σ[i]? = some (some (.ref p))) (hk : Rep X.w X.K F kv kd) (hv : Rep X.w X.K F v vd)
    (hp : putAt d kd vd = some d') (q : ∀ H', Ok X.w X.K M F H' σ (ρ.set i (.ow d')) → Q H') : rPut X (.ref p) kv v H Q := by
  obtain ⟨p', e1, hF, hZ, own⟩ := ok.slot i _ e
  rw [ep] at e1; cases e1
  cases d with
  | list xs =>
    obtain ⟨vs, h1, h2⟩ := own
    cases kd <;> first | (simp only [Ad.putAt] at hp; cases hp; done) | skip
    rename_i n
    simp only [Ad.putAt] at hp
    split at hp
    · rename_i j hj
      cases hp
      cases (show kv = .int n by simpa only [Rep] using hk)
      refine .inl ⟨p, vs, n, j, rfl, rfl, h1, by rw [h2.length]; exact hj, q _ (ok.mut e ep ⟨_, upd_same, h2.set j hv⟩)⟩
    · cases hp
  | dict kvs =>
    obtain ⟨z, z2, es, epp, h1, h2⟩ := own
    simp only [Ad.putAt] at hp
    split at hp
    · rename_i c
      cases hp
      simp only [Bool.and_eq_true] at c
      have hl : kvs.length + 1 ≤ sizeLine := by rw [← line_eq]; exact of_decide_eq_true c.2
      exact .inr ⟨F, p, es, epp, kvs, kd, vd, ok.sub, rfl, z, h1, h2, hk, hv, c.1, hl, fun es' ep' r' => q _ (ok.mut e ep ⟨z, Nat.le_trans (putK_length kd vd kvs) hl, es', ep', upd_same, r'⟩)⟩
    · cases hp
  | _ => exact own.elim
theorem ss_put {n : Str} {pn ps : Pos} (hs : Hs g sc X M W cl) (hv : varB g sc i n = true) (hi : ixB ek = true) (hc : compB e = false) (he : SE X M W cl x e) (hk : SE X M W cl k ek) : PS X (.Assign [.Subscript (.Name n pn) ek ps] e pos) (tS X M W cl (.put i k x)) := by
  obtain ⟨h1, h2, h3, h4⟩ := var_i hv hs.x
  refine PS.weak (ps_asg he.v (pg_sub (pos := ps) (pe_var h1 h2 h3 h4) hk.v (PSet.or set_list (set_DD hs.x.un)) (assign_sub hi)) (sws_plain hc) sst_sub (by rw [assign_plain rfl]; rfl)) fun Ds σ H ⟨ρ, F, ok, q⟩ => ?_
  refine ⟨ρ, F, ok, ?_⟩
  simp only [evS] at q
  refine (AfterS.lift ok q).imp fun d F' H' xx q' v rv => ?_
  have ok' := ok.ext xx
  obtain ⟨dd, e1, q2⟩ := owned_ok q'
  obtain ⟨p, ep, hF, hZ, own⟩ := ok'.slot i _ e1
  refine ⟨.ref p, ep, ρ, F', ok', ?_⟩
  refine (AfterS.lift ok' q2).imp fun kd F2 H2 x2 q2 kv rk => ?_
  cases zp : putAt dd kd d with
  | none => rw [zp] at q2; exact q2.elim
  | some d' =>
    rw [zp] at q2
    exact put_ok (ok'.ext x2) e1 ep rk (Rep.sub x2.subF _ _ rv) zp fun H3 ok3 => q2 σ F2 H3 ok3 .refl
/-! ### the check of statements -/
def isLc : E → Bool
  | .lc _ _ _ _ _ => true
  | _ => false
def asgB (g : Gc) (sc : Scope) (i : Nat) (n : Str) (x : E) (e : Expr) : Bool := decide (g.N[i]? = some n) && locB sc n && chkE g sc x e && (!compB e || isLc x)
theorem sa_of {n : Str} {pn : Pos} (hs : Hs g sc X M W cl) (h : asgB g sc i n x e = true) : SA X M W cl i x (.Assign [.Name n pn] e pos) := by
  simp only [asgB, Bool.and_eq_true, decide_eq_true_eq, Bool.or_eq_true, Bool.not_eq_true'] at h
  obtain ⟨⟨⟨h1, h2⟩, h3⟩, h4⟩ := h
  cases c : compB e with
  | false => exact sa_plain hs h1 h2 (sw_plain c) (sE x sc e X M W hs.x h3)
  | true =>
    rcases h4 with h4 | h4
    · rw [c] at h4; cases h4
    · cases x <;> first | (cases h4; done) | skip
      have h3' := h3
      simp only [chkE] at h3'
      cases e <;> first | (exact Bool.noConfusion h3') | skip
      exact sa_lc hs h1 h2 h3
mutual
def chkF (g : Gc) (sc : Scope) : Ad.F → Expr → Bool
  | .pure x, e => chkE g sc x e
  | .pop i x, e => (match e with | .Call (.Attribute (.Name n _) m ap) [a] [] cp => decide (m = "pop") && varB g sc i n && plainB a && (ap.endLine == cp.line) && chkE g sc x a | _ => false)
  | .tup fs, e => (match e with | .Tuple es _ _ => chkFs g sc fs es | _ => false)
  | .ite c a b, e => (match e with | .IfExp t y z _ => chkE g sc c t && chkF g sc a y && chkF g sc b z | _ => false)
def chkFs (g : Gc) (sc : Scope) : List Ad.F → List Expr → Bool
  | [], es => es.isEmpty
  | f :: fs, es => (match es with | e :: r => plainB e && chkF g sc f e && chkFs g sc fs r | [] => false)
end
mutual
theorem sF {g : Gc} {sc : Scope} {X : Cx} {M : Pm} {W : WX} {cl : Cl} (hx : Hx g sc X M W cl) : ∀ (f : Ad.F) (e : Expr), chkF g sc f e = true → PE X e (tFx X M W cl f)
  | .pure x, e, h => by simp only [chkF] at h; exact sf_pure (sE x sc e X M W hx h)
  | .pop i x, e, h => by
    simp only [chkF] at h
    split at h
    · simp only [Bool.and_eq_true, decide_eq_true_eq] at h
      obtain ⟨⟨⟨⟨rfl, h1⟩, h2⟩, h3⟩, h4⟩ := h
      exact sf_pop hx h1 (sE x sc _ X M W hx h4) h2 h3
    · cases h
  | .tup fs, e, h => by
    simp only [chkF] at h
    cases e <;> first | exact Bool.noConfusion h | skip
    exact sf_tup (sFs hx fs _ h)
  | .ite c a b, e, h => by
    simp only [chkF] at h
    cases e <;> first | exact Bool.noConfusion h | skip
    simp only [Bool.and_eq_true] at h
    exact sf_ite (sE c sc _ X M W hx h.1.1) (sF hx a _ h.1.2) (sF hx b _ h.2)
theorem sFs {g : Gc} {sc : Scope} {X : Cx} {M : Pm} {W : WX} {cl : Cl} (hx : Hx g sc X M W cl) : ∀ (f : List Ad.F) (e : List Expr), chkFs g sc f e = true → PA X e (tFL X M W cl f)
  | [], es, h => by
    simp only [chkFs] at h
    have := List.isEmpty_iff.mp h
    subst this
    exact sf_nil
  | f :: fs, es, h => by
    simp only [chkFs] at h
    cases es with
    | nil => cases h
    | cons e r =>
      simp only [Bool.and_eq_true] at h
      exact sf_cons h.1.1 (sF hx f e h.1.2) (sFs hx fs r h.2)
end
def parB (g : Gc) (sc : Scope) : List T → List Expr → List Str → Bool
  | [.nm i, .nm j], [.Name x _, .Name y _], ns => decide (ns = [x, y]) && decide (g.N[i]? = some x) && decide (g.N[j]? = some y) && decide (i ≠ j) && decide (sc.names.lookup x = some .local) && decide (sc.names.lookup y = some .local)
  | [.nm i, .nm j, .nm l], [.Name x _, .Name y _, .Name z _], ns => decide (ns = [x, y, z]) && decide (g.N[i]? = some x) && decide (g.N[j]? = some y) && decide (g.N[l]? = some z) && decide (i ≠ j) && decide (i ≠ l) && decide (j ≠ l) && decide (sc.names.lookup x = some .local) && decide (sc.names.lookup y = some .local) && decide (sc.names.lookup z = some .local)
  | _, _, _ => false
theorem ss_par {ts : List T} {es : List E} {tes vs : List Expr} {k1 k2 : Nat} {pt pt2 : Pos} {ns : List Str} (hs : Hs g sc X M W cl) (hc : X.calm = true) (hw : swB sc tes vs = some (some ns)) (hb : parB g sc ts tes ns = true) (he : SEs X M W cl es vs) (hn : vs.length = tes.length) :
    PS X (.Assign [.Tuple tes k1 pt] (.Tuple vs k2 pt2) pos) (tS X M W cl (.par ts es)) := by
  have hw' : swappedStores [.Tuple tes k1 pt] (.Tuple vs k2 pt2) X.env = pure (some ns) := sw_swB hs.x.kind (by rw [hs.x.sc]; exact hw)
  unfold parB at hb
  split at hb
  · simp only [Bool.and_eq_true, decide_eq_true_eq] at hb
    obtain ⟨⟨⟨⟨⟨rfl, h1⟩, h2⟩, h3⟩, h4⟩, h5⟩ := hb
    match vs, hn, he, hw' with
    | [a, b], _, he, hw' => exact ss_par2 hs hc h1 h2 h3 h4 h5 he hw'
  · simp only [Bool.and_eq_true, decide_eq_true_eq] at hb
    obtain ⟨⟨⟨⟨⟨⟨⟨⟨⟨rfl, h1⟩, h2⟩, h3⟩, h4⟩, h5⟩, h6⟩, h7⟩, h8⟩, h9⟩ := hb
    match vs, hn, he, hw' with
    | [a, b, c], _, he, hw' => exact ss_par3 hs hc h1 h2 h3 h4 h5 h6 h7 h8 h9 he hw'
  · cases hb
end
end Ad
set_option Elab.async false
set_option linter.all false
set_option maxRecDepth 100000
set_option maxHeartbeats 4000000
/-! Exceptions: raise, try. -/
namespace Ad
open PySem PySem.Spec PyProof.Rows L2
section
variable {g : Gc} {sc : Scope} {X : Cx} {M : Pm} {W : WX} {cl : Cl} {pos p0 p1 p2 : Pos} {Ds : Ends} {st : Stmt} {e ek : Expr} {x k : E} {i : Nat} {w : World} {K : Fr} {F H : Hp} {σ : L2.St} {ρ : List Sl}
def Pm.ex (M : Pm) (a C : Addr) (d : Option Addr) : Pm := { M with exc := some (a, C, d) }
theorem Ok.unx {a C : Addr} {d : Option Addr} (ok : Ok w K (M.ex a C d) F H σ ρ) : Ok w K M F H σ (ρ.map Sl.unx) where
  sub := ok.sub
  base := ok.base
  baseF := ok.baseF
  grow := ok.grow
  len := by simp [ok.len]
  slot := fun i s e => by
    rw [List.getElem?_map] at e
    cases q : ρ[i]? with
    | none => rw [q] at e; cases e
    | some s' =>
      rw [q] at e
      simp only [Option.map_some, Option.some.injEq] at e
      subst e
      have := ok.slot i s' q
      cases s' with
      | ex c fs => trivial
      | un => trivial
      | fz d => exact this
      | ow d => exact this
      | ln d => exact this
      | fn f => exact this
  sep := fun i j s t p q hij e1 e2 h1 h2 e3 e4 => by
    have back : ∀ {i : Nat} {s : Sl}, (ρ.map Sl.unx)[i]? = some s → s.held = true → ρ[i]? = some s := fun {i s} e h => by
      rw [List.getElem?_map] at e
      cases q : ρ[i]? with
      | none => rw [q] at e; cases e
      | some s' =>
        rw [q] at e
        simp only [Option.map_some, Option.some.injEq] at e
        subst e
        cases s' <;> first | rfl | cases h
    exact ok.sep i j s t p q hij (back e1 h1) (back e2 h2) h1 h2 e3 e4
theorem Ok.toEx {a C : Addr} {d : Option Addr} (ok : Ok w K M F H σ ρ) (h0 : M.exc = none) : Ok w K (M.ex a C d) F H σ ρ where
  sub := ok.sub
  base := ok.base
  baseF := ok.baseF
  grow := ok.grow
  len := ok.len
  slot := fun i s e => by
    have := ok.slot i s e
    cases s with
    | ex c fs => obtain ⟨_, _, _, h, _⟩ := this; rw [h0] at h; cases h
    | un => trivial
    | fz d => exact this
    | ow d => exact this
    | ln d => exact this
    | fn f => exact this
  sep := ok.sep
theorem Ok.setX {v : Option V} {s0 : Sl} (ok : Ok w K M F H σ ρ) (hs : s0.held = false) (hv : i < ρ.length → SlOk w K M F H (some v) s0) : Ok w K M F H (σ.set i v) (ρ.set i s0) where
  sub := ok.sub
  base := ok.base
  baseF := ok.baseF
  grow := ok.grow
  len := by simp [ok.len]
  slot := fun j s e => by
    by_cases h : i = j
    · subst h
      have hl : i < ρ.length := by
        have := (List.getElem?_eq_some_iff.mp e).1
        simpa using this
      rw [List.getElem?_set_self hl] at e
      cases e
      rw [List.getElem?_set_self (by rw [← ok.len]; exact hl)]
      exact hv hl
    · rw [List.getElem?_set_ne h] at e ⊢
      exact ok.slot j s e
  sep := fun j k s t p q hjk e1 e2 h1 h2 e3 e4 => by
    have ne : ∀ {j : Nat} {s : Sl}, (ρ.set i s0)[j]? = some s → s.held = true → j ≠ i := fun {j s} e h => by
      rintro rfl
      have hl : j < ρ.length := by
        have := (List.getElem?_eq_some_iff.mp e).1
        simpa using this
      rw [List.getElem?_set_self hl] at e
      cases e
      rw [hs] at h; cases h
    have n1 := Ne.symm (ne e1 h1)
    have n2 := Ne.symm (ne e2 h2)
    rw [List.getElem?_set_ne n1] at e1 e3
    rw [List.getElem?_set_ne n2] at e2 e4
    exact ok.sep j k s t p q hjk e1 e2 h1 h2 e3 e4
theorem Ok.unx_un {a C : Addr} {d : Option Addr} (ok : Ok w K (M.ex a C d) F H σ ρ) : Ok w K M F H (σ.set i none) ((ρ.map Sl.unx).set i .un) := ok.unx.setX rfl fun _ => trivial
theorem Fin.unx {a C : Addr} {d : Option Addr} (h : Fin (M.ex a C d) F H) : Fin M F H := ⟨h.sub, h.base, h.baseF, h.grow⟩
/-! ### raise -/
theorem ss_raise {n m : Str} {j : Nat} {pn pc pp : Pos} (hs : Hs g sc X M W cl) (hc : X.calm = true) (hn : n ∈ g.xs) (hg : gloB sc n = true) : PS X (.Raise (some (.Call (.Name n pn) [.Constant (.str m) j pc] [] pp)) none pos) (tS X M W cl (.raise n [] [])) := by
  obtain ⟨C, c1, B, newId, initId, bmB, f1, f2, f3, f4, f5, f6⟩ := hs.xs n hn
  obtain ⟨g1, g2⟩ := glo_i hg hs.x
  refine PS.weak (ps_raise hc hs.x.tk (pmk_own f1 f2 f3 f4 (raises_own f5 f6) g1 g2)) fun Ds σ H ⟨ρ, F, ok, q⟩ => ?_
  simp only [evS, evs, lift] at q
  exact q σ F H C none ok .refl c1 rfl
/-- raise C(e), C with an own __init__ -/
theorem ss_raiseI {n f : Str} {a : E} {ea : Expr} {pn pp : Pos} (hs : Hs g sc X M W cl) (hc : g.calm = true) (hn : g.xi.lookup n = some f) (hg : gloB sc n = true) (hp : plainB ea = true) (h : SE X M W cl a ea) : PS X (.Raise (some (.Call (.Name n pn) [ea] [] pp)) none pos) (tS X M W cl (.raise n [f] [a])) := by
  obtain ⟨C, fI, fd, c1, m1, T, iC, tI, hb, hr, FO, hno⟩ := hs.xi hc n f hn
  obtain ⟨g1, g2⟩ := glo_i hg hs.x
  have ps : Passes (CX X.prog X.w) X (fun _ _ _ => False) := fun pins σ H s e s' I c => hs.x.tk e s' (XE.of_call I (fun _ _ _ h => h.elim) c)
  refine PS.weak (ps_raise (hs.x.calm.trans hc) hs.x.tk (pmk_oex T iC tI FO hr hb .nil ps g1 m1 (pa_cons h.v pa_nil (star_plain hp)) g2 (star_plain hp) rfl)) fun Ds σ H ⟨ρ, F, ok, q⟩ => ?_
  have q1 := AfterS.lift ok (show AfterS X M W F Ds (lift ρ (evs cl ρ .v [a]) fun ds => if [f].length = ds.length then some (.ex n ([f].zip ds) ρ) else none) from q)
  have q2 : After X.w X.K M W σ F H ((ev cl ρ .v a).bind fun x => .ok [x]) _ := q1
  refine ⟨ρ, F, ok, q2.bind.imp fun d F1 H1 x1 q v rv => ?_⟩
  have q3 : AfterS X M W F1 Ds (some (.ex n [(f, d)] ρ)) := q F1 H1 (.refl x1.inn)
  refine ⟨by simp, fun a0 h0 => ⟨a0, C, v, rfl, upd_same, T, hno, fun dx hdx hne => ⟨rfl, dx, [(f, v)], upd_same, by rw [upd_ne hne, upd_same], by rw [upd_ne hne] at hdx; exact hdx, ?_⟩⟩⟩
  rw [upd_ne hne] at hdx
  have e : upd (del (upd (upd (upd H1 a0 (exo a0 C none)) dx (exd dx [(f, v)])) a0 (exo a0 C (some dx))) a0) dx (.xd [(f, v)]) = upd H1 dx (.xd [(f, v)]) := by
    funext b
    by_cases hb : b = dx
    · rw [hb, upd_same, upd_same]
    · rw [upd_ne hb, upd_ne hb]
      by_cases ha : b = a0
      · rw [ha, del_same, h0]
      · rw [del_ne ha, upd_ne ha, upd_ne hb, upd_ne ha]
  rw [e]
  have x2 : Ext F1 H1 (upd F1 dx (.xd [(f, v)])) (upd H1 dx (.xd [(f, v)])) := Ext.new x1.inn hdx
  exact q3 σ _ _ C (some dx) (ok.ext (x1.trans x2)) x2.subF c1 ⟨_, upd_same, rfl, Rep.sub x2.subF _ _ rv, trivial⟩
/-! ### try -/
theorem Hs.tr (hs : Hs g sc X M W cl) (hc : g.calm = true) {W' : WX} {pn : List (Addr × Obj)} {xe : Value → Shared → Prop} (tk : Takes (X.tr pn xe) W') (po : PassesOwn (model X.prog X.w) X.A X.env xe) : Hs g sc (X.tr pn xe) M W' cl where
  x := { N := hs.x.N, nd := hs.x.nd, sc := hs.x.sc, kind := hs.x.kind, calm := hs.x.calm, tk := tk, un := hs.x.un, lst := hs.x.lst, py := ⟨hs.x.py.k, hs.x.py.dp, hs.x.py.tr, hs.x.py.fr⟩, glob := hs.x.glob, blt := hs.x.blt, hd := hs.x.hd, fnk := hs.x.fnk, bk := hs.x.bk, ve := hs.x.ve, exq := fun a C d _ z => (by rw [hc] at z; cases z), fn := hs.x.fn }
  po := po
  fn := hs.fn
  exc := hs.exc
  stk := hs.stk
  frm := hs.frm
  xs := hs.xs
  xi := hs.xi
def Gc.hot (g : Gc) : Gc := { g with calm := false }
theorem Hs.suite (hs : Hs g sc X M W cl) {a C : Addr} {d : Option Addr} {oe : Obj} {pn : List (Addr × Obj)} (hz : Zc (.ref C) d oe) (hf : ∃ vs, oe.data = .fields vs) : Hs g.hot sc (X.suite a ((a, oe) :: pn)) (M.ex a C d) Wf cl where
  x := { N := hs.x.N, nd := hs.x.nd, sc := hs.x.sc, kind := hs.x.kind, calm := rfl, tk := fun u s' ⟨a, B, sI, pins, σ, H, cls, d, e, I, nb, up, sky, na, os, ag, w⟩ => w.elim, un := hs.x.un, lst := hs.x.lst, py := ⟨hs.x.py.k, hs.x.py.dp, hs.x.py.tr, hs.x.py.fr⟩, glob := hs.x.glob, blt := hs.x.blt, hd := hs.x.hd, fnk := (fun z => nomatch z), bk := (fun z => nomatch z), ve := hs.x.ve, exq := fun a' C' d' e _ => (by cases e; exact ⟨X, oe, pn, rfl, hz, hf⟩), fn := fun z => nomatch z }
  po := PassesOwn.never
  fn := hs.fn
  exc := fun z => nomatch z
  stk := hs.stk
  frm := hs.frm
  xs := hs.xs
  xi := fun z => nomatch z
/-- the suite's wish -/
def tSu (X : Cx) (M : Pm) (cl : Cl) (b : List S) (a : Addr) (cls : Value) (d : Option Addr) : TS := fun D σ H => ∃ C, cls = .ref C ∧ tSs X (M.ex a C d) Wf cl b D σ H
theorem su_ok {b : List S} {su : List Stmt} {a : Addr} {oe : Obj} {cls : Value} {d : Option Addr} {pn : List (Addr × Obj)} (h : ∀ C, cls = .ref C → PSs (X.suite a ((a, oe) :: pn)) su (tSs (X.suite a ((a, oe) :: pn)) (M.ex a C d) Wf cl b)) : PSs (X.suite a ((a, oe) :: pn)) su (tSu X M cl b a cls d) :=
  ⟨fun pins s σ H D I q => by
    obtain ⟨C, e, q⟩ := q
    exact (h C e).run pins s σ H D I q⟩
theorem evS_try (cl : Cl) (ρ : List Sl) (b : List S) (hs : List (List Str × Option Nat × List S)) : evS cl ρ (.tryS b hs) = match evSs cl ρ b with
    | some (.ex c fs ρ') => evH cl ρ' c fs hs
    | o => o := rfl
theorem evH_one (cl : Cl) (ρ : List Sl) (c : Str) (fs : List (Str × D)) (cs : List Str) (n : Option Nat) (b : List S) : evH cl ρ c fs [(cs, n, b)] = if cs.contains c then (match n with
      | none => noEx (evSs cl ρ b)
      | some i => if i < ρ.length then unEx i (evSs cl (ρ.set i (.ex c fs)) b) else none)
    else some (.ex c fs ρ) := rfl
theorem ss_try {n : Str} {cs : List Str} {b bs : List S} {body : List Stmt} {b₀ : Stmt} {suite : List Stmt} {np pos' : Pos} (hs : Hs g sc X M W cl) (hc : g.calm = true) (hn : g.hd.lookup n = some cs) (hg : gloB sc n = true)
    (hb : ∀ W' pn xe, Hs g sc (X.tr pn xe) M W' cl → PSs (X.tr pn xe) body (tSs (X.tr pn xe) M W' cl b)) (hsu : ∀ a C d pn, Hs g.hot sc (X.suite a pn) (M.ex a C d) Wf cl → PSs (X.suite a pn) (b₀ :: suite) (tSs (X.suite a pn) (M.ex a C d) Wf cl bs)) :
    PS X (.Try body [.ExceptHandler (some (.Name n np)) none (b₀ :: suite) pos'] [] [] pos) (tS X M W cl (.tryS b [(cs, none, bs)])) := by
  obtain ⟨c0, m1, m2'⟩ := hs.x.hd n cs hn
  have m2 := fun k C h => (m2' k C h).1
  obtain ⟨g1, g2⟩ := glo_i hg hs.x
  have h0 := hs.exc hc
  refine PS.weak (ps_try_many (l := [(.ref c0, tSu X M cl bs)]) (tb := fun W' => tSs X M W' cl b) hs.stk hs.frm hs.x.tk (fun W' pn xe tk po => hb W' pn xe (hs.tr hc tk po)) (.cons ⟨g1, g2, .inl m1⟩ (fun a oe cls d pn hz hf => su_ok fun C e => hsu a C d _ (hs.suite (by rw [← e]; exact hz) hf)) .nil)) fun Ds σ H ⟨ρ, F, ok, q⟩ => ?_
  refine ⟨ρ, F, ok, ?_⟩
  rw [evS_try] at q
  cases z : evSs cl ρ b with
  | none => rw [z] at q; exact q
  | some o =>
    rw [z] at q
    cases o with
    | nx ρ' => exact q
    | ct ρ' => exact q
    | rt d => exact q
    | ex c' fs ρ' =>
      simp only [evH_one] at q
      intro σ' F' H' C dA ok' s' hC hD
      refine ⟨cs.contains c', m2 c' C hC, fun hb a na => ?_, fun hb => ?_⟩
      · rw [if_pos hb] at q
        refine ⟨C, rfl, ρ', F', ok'.toEx h0, ?_⟩
        cases z2 : evSs cl ρ' bs with
        | none => rw [z2] at q; exact q
        | some o2 =>
          rw [z2] at q
          cases o2 with
          | nx ρ2 => exact fun σ2 F2 H2 ok2 s2 => q σ2 F2 H2 ok2.unx (s'.trans s2)
          | ct ρ2 => exact fun σ2 F2 H2 ok2 s2 => q σ2 F2 H2 ok2.unx (s'.trans s2)
          | rt d => exact fun v F2 H2 f2 s2 r2 => q v F2 H2 f2.unx (s'.trans s2) r2
          | ex c2 fs2 ρ2 => exact q.elim
      · rw [if_neg (by rw [hb]; exact Bool.false_ne_true)] at q
        exact q σ' F' H' C dA ok' s' hC hD
theorem ss_tryA {n nm : Str} {cs : List Str} {b bs : List S} {body : List Stmt} {b₀ : Stmt} {suite : List Stmt} {np pos' : Pos} (hs : Hs g sc X M W cl) (hc : g.calm = true) (hn : g.hd.lookup n = some cs) (hg : gloB sc n = true) (hi : g.N[i]? = some nm) (hl : sc.names.lookup nm = some .local)
    (hb : ∀ W' pn xe, Hs g sc (X.tr pn xe) M W' cl → PSs (X.tr pn xe) body (tSs (X.tr pn xe) M W' cl b)) (hsu : ∀ a C d pn, Hs g.hot sc (X.suite a pn) (M.ex a C d) Wf cl → PSs (X.suite a pn) (b₀ :: suite) (tSs (X.suite a pn) (M.ex a C d) Wf cl bs)) :
    PS X (.Try body [.ExceptHandler (some (.Name n np)) (some nm) (b₀ :: suite) pos'] [] [] pos) (tS X M W cl (.tryS b [(cs, some i, bs)])) := by
  obtain ⟨c0, m1, m2'⟩ := hs.x.hd n cs hn
  have m2 := fun k C h => (m2' k C h).1
  obtain ⟨g1, g2⟩ := glo_i hg hs.x
  have h0 := hs.exc hc
  have hN : X.N.Nodup := by rw [hs.x.N]; exact hs.x.nd
  refine PS.weak (ps_try_as (c := .ref c0) (i := i) (ts := tSu X M cl bs) (tb := fun W' => tSs X M W' cl b) hs.stk hs.frm hN (by rw [hs.x.N]; exact hi) (by show X.env.scope.names.lookup nm = _; rw [hs.x.sc]; exact hl) ⟨g1, g2, .inl m1⟩ hs.x.tk (fun W' pn xe tk po => hb W' pn xe (hs.tr hc tk po)) (fun a oe cls d pn hz hf => su_ok fun C e => hsu a C d _ (hs.suite (by rw [← e]; exact hz) hf))) fun Ds σ H ⟨ρ, F, ok, q⟩ => ?_
  refine ⟨ρ, F, ok, ?_⟩
  rw [evS_try] at q
  cases z : evSs cl ρ b with
  | none => rw [z] at q; exact q
  | some o =>
    rw [z] at q
    cases o with
    | nx ρ' => exact q
    | ct ρ' => exact q
    | rt d => exact q
    | ex c' fs ρ' =>
      simp only [evH_one] at q
      intro σ' F' H' C dA ok' s' hC hD
      refine ⟨cs.contains c', m2 c' C hC, fun hb a na => ?_, fun hb => ?_⟩
      · rw [if_pos hb] at q
        by_cases hl : i < ρ'.length
        · simp only [if_pos hl] at q
          refine ⟨C, rfl, ρ'.set i (.ex c' fs), F', (ok'.toEx h0).setX rfl fun _ => ⟨a, C, dA, rfl, rfl, hC, hD⟩, ?_⟩
          cases z2 : evSs cl (ρ'.set i (.ex c' fs)) bs with
          | none => rw [z2] at q; exact q
          | some o2 =>
            rw [z2] at q
            cases o2 with
            | nx ρ2 => exact fun σ2 F2 H2 ok2 s2 => q _ F2 H2 ok2.unx_un (s'.trans s2)
            | ct ρ2 => exact fun σ2 F2 H2 ok2 s2 => q _ F2 H2 ok2.unx_un (s'.trans s2)
            | rt d => exact fun v F2 H2 f2 s2 r2 => q v F2 H2 f2.unx (s'.trans s2) r2
            | ex c2 fs2 ρ2 => exact q.elim
        · simp only [if_neg hl] at q; exact q.elim
      · rw [if_neg (by rw [hb]; exact Bool.false_ne_true)] at q
        exact q σ' F' H' C dA ok' s' hC hD
end
end Ad
set_option Elab.async false
set_option linter.all false
set_option maxRecDepth 100000
set_option maxHeartbeats 4000000
/-! Several except clauses, some with a name. -/
namespace Ad
open PySem PySem.Spec PyProof.Rows L2
abbrev Clw := Value × Option Nat × (Addr → Value → Option Addr → TS)
/-- the ends, a slot forgotten -/
def gone (i : Nat) (D : Ends) : Ends := { nx := fun τ G => D.nx (τ.set i none) G, rt := D.rt, bk := fun τ G => D.bk (τ.set i none) G, ct := fun τ G => D.ct (τ.set i none) G }
def hit (t : Clw) (a : Addr) (c : Value) (d : Option Addr) (D : Ends) (σ : L2.St) (H : Hp) : Prop := match t.2.1 with
  | none => t.2.2 a c d D σ H
  | some i => t.2.2 a c d (gone i D) (σ.set i (some (.ref a))) H
def wMix (K : Fr) (W : WX) (D : Ends) : List Clw → WX
  | [] => W
  | t :: r => fun c d σ H => ∃ b, PySem.W.exmOne K c t.1 = some b ∧ (b = true → ∀ a, H a = none → hit t a c d D σ H) ∧ (b = false → wMix K W D r c d σ H)
inductive HdsX (X : Cx) : List ExceptHandler → List Clw → Prop
  | nil : HdsX X [] []
  | pl {x : Str} {c : Value} {ts : Addr → Value → Option Addr → TS} {b₀ : Stmt} {su : List Stmt} {np ps : Pos} {hr : List ExceptHandler} {l : List Clw} (hc : Names X x c)
      (hu : ∀ (a : Addr) (o : Obj) (k : Value) (d : Option Addr) (pn : List (Addr × Obj)), Zc k d o → (∃ vs, o.data = .fields vs) → PSs (X.suite a ((a, o) :: pn)) (b₀ :: su) (ts a k d)) (r : HdsX X hr l) :
      HdsX X (.ExceptHandler (some (.Name x np)) none (b₀ :: su) ps :: hr) ((c, none, ts) :: l)
  | nm {x n : Str} {i : Nat} {c : Value} {ts : Addr → Value → Option Addr → TS} {b₀ : Stmt} {su : List Stmt} {np ps : Pos} {hr : List ExceptHandler} {l : List Clw} (hc : Names X x c) (hi : X.N[i]? = some n) (hk : X.env.kindOf n = some .local)
      (hu : ∀ (a : Addr) (o : Obj) (k : Value) (d : Option Addr) (pn : List (Addr × Obj)), Zc k d o → (∃ vs, o.data = .fields vs) → PSs (X.suite a ((a, o) :: pn)) (b₀ :: su) (ts a k d)) (r : HdsX X hr l) :
      HdsX X (.ExceptHandler (some (.Name x np)) (some n) (b₀ :: su) ps :: hr) ((c, some i, ts) :: l)
section
variable {X : Cx} {body : List Stmt} {hz : ExceptHandler} {hr : List ExceptHandler} {l : List Clw} {pos : Pos} {tb : WX → TS} {W : WX}
theorem ps_try_mix (hS : X.stack = X.env :: X.outer) (hF : X.env.frame = some X.env.locals) (hN : X.N.Nodup) (tk : Takes X W)
    (hb : ∀ (W' : WX) (pn : List (Addr × Obj)) (xe : Value → Shared → Prop), Takes (X.tr pn xe) W' → PassesOwn (model X.prog X.w) X.A X.env xe → PSs (X.tr pn xe) body (tb W'))
    (hh : HdsX X (hz :: hr) l) : PS X (.Try body (hz :: hr) [] [] pos) (fun D σ H => tb (wMix X.K W D l) D σ H) := by
  constructor
  intro pins s σ H D I want
  have ok := I.ok
  have hFr : X.A.frames = some (X.env :: X.outer) := by rw [ok.frames]; exact congrArg some hS
  apply wpAny_Try_except
  refine wpAny_mono ((hb (wMix X.K W D l) (X.pn ++ pins) (fun e t₁ => wpAny (model X.prog X.w) X.A (noteFrame e X.env) (fun _ t₂ => wpAny (model X.prog X.w) X.A (setFlight e none) (fun _ t₃ => wpAny (model X.prog X.w) X.A (handleBy e X.env (hz :: hr)) (SP X pins D) X.xe t₃) X.xe t₂) X.xe t₁) (fun u t ⟨a, B, sI, pins', τ, G, c, d, eu, J', nb, up, sky, na, os, ag, wish⟩ => ?_) PassesOwn.looking).run [] s σ H D (I.toTry _) want) (fun f s1 out => ?_) (fun _ _ z => z)
  · subst eu
    have J := Inv.ofTry J' ok
    have sky2 : Sky B (X.env :: X.outer) a (Zc c d) X.env.locals t.heap := hS ▸ sky
    show wpAny (model X.prog X.w) X.A (noteFrame (.ref a) X.env) _ _ t
    refine Sky.land Zc.steady hFr hF sky2 fun g3 fl3 up3 => ?_
    have J3 : Inv X pins τ G { t with heap := g3 } := J.landed nb fl3.1 (up.trans up3) os ag
    obtain ⟨o3, w3, get3, z3, f3⟩ := fl3.there
    have off : a ∉ frs (X.env :: X.outer) := fun hm => by
      obtain ⟨_, o', get', hnf⟩ := fl3.2.2.1.mem hm
      have eo : o3 = o' := Option.some.inj (get3.symm.trans get')
      exact hnf _ (eo ▸ f3)
    have aL : a ≠ X.env.locals := fun z => off (List.mem_filterMap.mpr ⟨X.env, .head _, hF.trans (congrArg some z.symm)⟩)
    have aF : a ∉ X.fs := fun hm => (let ⟨e, he, q⟩ := List.mem_filterMap.mp hm; off (List.mem_filterMap.mpr ⟨e, .tail _ he, q⟩))
    have S3 := J3.suite get3 f3 na aL aF
    have name : ∀ {x : Str} {k : Value} {np : Pos}, Names X x k → ∀ {Q : Value → Shared → Prop} {E : Value → Shared → Prop}, Q k { t with heap := g3 } → wpAny (model X.prog X.w) (X.A.mark (some (.ref a))) (eval (.Name x np) X.env) Q E { t with heap := g3 } := fun {x k np} hc {Q E} q => by
      rcases hc with ⟨y1, y2, y3 | ⟨y3, y4, y5⟩⟩
      · exact ld_glob (X := X.suite a ((a, o3) :: (X.pn ++ pins))) S3 y1 y3 q y2
      · exact ld_blt (X := X.suite a ((a, o3) :: (X.pn ++ pins))) S3 y1 y3 y4 q y5 y2
    have look : PySem.W.Looks (model X.prog X.w) g3 (typeOf (.ref a)) c := fun A Q E v k q => wpAny_typeOf_ref (k _ _ get3) (by rw [z3.1]; exact q)
    have go : ∀ {hr' : List ExceptHandler} {l' : List Clw}, HdsX X hr' l' → wMix X.K W D l' c d τ G → wpAny (model X.prog X.w) X.A (handleBy (.ref a) X.env hr') (SP X pins D) X.xe { t with heap := g3 } := fun {hr' l'} hk => by
      induction hk with
      | nil =>
        intro w
        apply wpAny_handleBy_nil
        obtain ⟨_, _, _, oe, vs, T, oT, ts', p1, p2, p3, p4, p5⟩ := id fl3
        unfold PySem.passOn
        refine wpAny_bind (wpAny_field p1 p3 p4 ?_)
        rw [if_neg (by simp : ¬ ((Value.ref T == Value.none) = true))]
        have out : wpAny (model X.prog X.w) X.A (setFlight (.ref a) X.env.frame) (fun _ t4 => wpAny (model X.prog X.w) X.A (throw (.ref a) : Sem Flow) (SP X pins D) X.xe t4) X.xe { t with heap := g3 } := by
          rw [hF]
          refine HandSPX.setFlight_upZ fl3 fun g4 k4 up4 => wpAny_throw (tk _ _ ?_)
          exact ⟨a, B, sI, pins, τ, G, c, d, rfl, J, nb, (up.trans up3).trans up4, .inr (.inr (by rw [hS]; exact k4)), na, os, ag, w⟩
        first
          | exact wpAny_bind (wpAny_pure (wpAny_bind out))
          | exact wpAny_bind out
      | @pl x k ts b₀ su np ps hr2 l2 hc hu r ih =>
        intro ⟨b, e1, yes, no⟩
        refine wpAny_handleBy_cons (codeAny_handlers_test ?_) (by intro q; cases q)
        refine name hc ((PySem.W.exm_one (M := model X.prog X.w) J3.kIn look e1).here ?_)
        cases b with
        | false =>
          show wpAny _ X.A (handleBy (.ref a) X.env hr2) _ _ _
          exact ih (no rfl)
        | true =>
          apply codeAny_handlers_suite
          refine HandSPX.lands_againZ fl3 fun g4 fl4 up4 => ?_
          have J4 : Inv X pins τ G { t with heap := g4 } := J.landed nb fl4.1 ((up.trans up3).trans up4) os ag
          obtain ⟨o4, w4, get4, z4, f4⟩ := fl4.there
          have S4 := J4.suite get4 f4 na aL aF
          refine wpAny_mono ((hu a o4 c d (X.pn ++ pins) z4 ⟨_, f4⟩).run [] _ _ G _ S4 (yes rfl a na)) (fun f s6 out => ?_) (fun _ _ z => z.elim)
          cases f with
          | ret u => obtain ⟨v6, σ6, H6, S6, r6, q6⟩ := out; exact ⟨v6, _, _, S6.unsuite ok, r6, q6⟩
          | next => obtain ⟨σ6, H6, S6, q6⟩ := out; exact ⟨σ6, _, S6.unsuite ok, q6⟩
          | brk => obtain ⟨σ6, H6, S6, q6⟩ := out; exact ⟨σ6, _, S6.unsuite ok, q6⟩
          | cont => obtain ⟨σ6, H6, S6, q6⟩ := out; exact ⟨σ6, _, S6.unsuite ok, q6⟩
      | @nm x n i k ts b₀ su np ps hr2 l2 hc hi hk hu r ih =>
        intro ⟨b, e1, yes, no⟩
        refine wpAny_handleBy_cons (codeAny_handlers_test ?_) (by intro q; cases q)
        refine name hc ((PySem.W.exm_one (M := model X.prog X.w) J3.kIn look e1).here ?_)
        cases b with
        | false =>
          show wpAny _ X.A (handleBy (.ref a) X.env hr2) _ _ _
          exact ih (no rfl)
        | true =>
          apply codeAny_handlers_suite_as
          refine HandSPX.lands_againZ fl3 fun g4 fl4 up4 => ?_
          have J4 : Inv X pins τ G { t with heap := g4 } := J.landed nb fl4.1 ((up.trans up3).trans up4) os ag
          obtain ⟨o4, w4, get4, z4, f4⟩ := fl4.there
          have S4 := J4.suite get4 f4 na aL aF
          have hL : Loc X.env.scope n := .inl hk
          refine store_ok (X := X.suite a ((a, o4) :: (X.pn ++ pins))) (v := .ref a) S4 hN hi hL rfl (fun s5 S5 => ?_) (.inr hk)
          refine wpAny_mono ((hu a o4 c d (X.pn ++ pins) z4 ⟨_, f4⟩).run [] s5 _ G _ S5 (yes rfl a na)) (fun f s6 out => ?_) (fun _ _ z => z.elim)
          have fin : ∀ {σ6 : L2.St} {H6 : Hp} {Q : Shared → Prop}, Inv (X.suite a ((a, o4) :: (X.pn ++ pins))) [] σ6 H6 s6 → (∀ s7, Inv X pins (σ6.set i none) H6 s7 → Q s7) → wpAny (model X.prog X.w) X.A (do bindName X.env n .none; unbindBehindTheSuite X.env n ps) (fun _ s7 => Q s7) X.xe s6 :=
            fun {σ6 H6 Q} S6 hq => gone_ok (S6.unsuite ok) hN hi hk hq
          cases f with
          | ret u => obtain ⟨v6, σ6, H6, S6, r6, q6⟩ := out; exact fin S6 fun s7 J7 => ⟨v6, _, _, J7, r6, q6⟩
          | next => obtain ⟨σ6, H6, S6, q6⟩ := out; exact fin S6 fun s7 J7 => ⟨_, H6, J7, q6⟩
          | brk => obtain ⟨σ6, H6, S6, q6⟩ := out; exact fin S6 fun s7 J7 => ⟨_, H6, J7, q6⟩
          | cont => obtain ⟨σ6, H6, S6, q6⟩ := out; exact fin S6 fun s7 J7 => ⟨_, H6, J7, q6⟩
    exact go hh wish
  · cases f with
    | ret u => obtain ⟨v, τ, G, J', r, q⟩ := out; exact ⟨v, τ, G, J'.ofTry ok, r, q⟩
    | next => obtain ⟨τ, G, J', q⟩ := out; exact wpAny_execs_nil ⟨τ, G, J'.ofTry ok, q⟩
    | brk => obtain ⟨τ, G, J', q⟩ := out; exact ⟨τ, G, J'.ofTry ok, q⟩
    | cont => obtain ⟨τ, G, J', q⟩ := out; exact ⟨τ, G, J'.ofTry ok, q⟩
end
section
variable {g : Gc} {sc : Scope} {X : Cx} {M : Pm} {W : WX} {cl : Cl} {pos : Pos}
/-- clauses, as the check finds them -/
inductive ClOk (g : Gc) (sc : Scope) (X : Cx) (M : Pm) (cl : Cl) : List (List Str × Option Nat × List S) → List ExceptHandler → Prop
  | nil : ClOk g sc X M cl [] []
  | cons {n : Str} {nm : Option Str} {cs : List Str} {o : Option Nat} {bs : List S} {b₀ : Stmt} {su : List Stmt} {np ps : Pos} {r : List (List Str × Option Nat × List S)} {hr : List ExceptHandler} (h1 : gloB sc n = true) (h2 : g.hd.lookup n = some cs)
      (hu : ∀ a C d pn, Hs g.hot sc (X.suite a pn) (M.ex a C d) Wf cl → PSs (X.suite a pn) (b₀ :: su) (tSs (X.suite a pn) (M.ex a C d) Wf cl bs))
      (h3 : (o = none ∧ nm = none) ∨ ∃ i x, o = some i ∧ nm = some x ∧ g.N[i]? = some x ∧ sc.names.lookup x = some .local) (h4 : ClOk g sc X M cl r hr) :
      ClOk g sc X M cl ((cs, o, bs) :: r) (.ExceptHandler (some (.Name n np)) nm (b₀ :: su) ps :: hr)
theorem evH_cons (cl : Cl) (ρ : List Sl) (c : Str) (fs : List (Str × D)) (cs : List Str) (n : Option Nat) (b : List S) (r : List (List Str × Option Nat × List S)) : evH cl ρ c fs ((cs, n, b) :: r) = if cs.contains c then (match n with
      | none => noEx (evSs cl ρ b)
      | some i => if i < ρ.length then unEx i (evSs cl (ρ.set i (.ex c fs)) b) else none)
    else evH cl ρ c fs r := rfl
theorem wish_mix (hs : Hs g sc X M W cl) (hc : g.calm = true) {hds : List (List Str × Option Nat × List S)} {ehs : List ExceptHandler} (k : ClOk g sc X M cl hds ehs) :
    ∃ l, HdsX X ehs l ∧ ∀ F Ds c' fs ρ', AfterS X M W F Ds (evH cl ρ' c' fs hds) → AfterS X M (wMix X.K W Ds l) F Ds (some (.ex c' fs ρ')) := by
  have h0 := hs.exc hc
  induction k with
  | nil => exact ⟨[], .nil, fun F Ds c' fs ρ' q => q⟩
  | @cons n nm cs o bs b₀ su np ps r hr h1 h2 hu h3 h4 ih =>
    obtain ⟨l, i1, i2⟩ := ih
    obtain ⟨c0, m1, m2'⟩ := hs.x.hd n cs h2
    have m2 := fun k C h => (m2' k C h).1
    obtain ⟨g1, g2⟩ := glo_i h1 hs.x
    have su_ : ∀ (a : Addr) (oe : Obj) (cls : Value) (d : Option Addr) (pn : List (Addr × Obj)), Zc cls d oe → (∃ vs, oe.data = .fields vs) → PSs (X.suite a ((a, oe) :: pn)) (b₀ :: su) (tSu X M cl bs a cls d) :=
      fun a oe cls d pn hz hf => su_ok fun C e => hu a C d _ (hs.suite (by rw [← e]; exact hz) hf)
    rcases h3 with ⟨rfl, rfl⟩ | ⟨i, x, rfl, rfl, hi, hl⟩
    · refine ⟨(.ref c0, none, tSu X M cl bs) :: l, .pl ⟨g1, g2, .inl m1⟩ su_ i1, fun F Ds c' fs ρ' q => ?_⟩
      rw [evH_cons] at q
      intro σ' F' H' C dA ok' s' hC hD
      refine ⟨cs.contains c', m2 c' C hC, fun hb a na => ?_, fun hb => ?_⟩
      · rw [if_pos hb] at q
        refine ⟨C, rfl, ρ', F', ok'.toEx h0, ?_⟩
        cases z2 : evSs cl ρ' bs with
        | none => rw [z2] at q; exact q
        | some o2 =>
          rw [z2] at q
          cases o2 with
          | nx ρ2 => exact fun σ2 F2 H2 ok2 s2 => q σ2 F2 H2 ok2.unx (s'.trans s2)
          | ct ρ2 => exact fun σ2 F2 H2 ok2 s2 => q σ2 F2 H2 ok2.unx (s'.trans s2)
          | rt d => exact fun v F2 H2 f2 s2 r2 => q v F2 H2 f2.unx (s'.trans s2) r2
          | ex c2 fs2 ρ2 => exact q.elim
      · rw [if_neg (by rw [hb]; exact Bool.false_ne_true)] at q
        exact i2 F Ds c' fs ρ' q σ' F' H' C dA ok' s' hC hD
    · refine ⟨(.ref c0, some i, tSu X M cl bs) :: l, .nm ⟨g1, g2, .inl m1⟩ (by rw [hs.x.N]; exact hi) (by show X.env.scope.names.lookup x = _; rw [hs.x.sc]; exact hl) su_ i1, fun F Ds c' fs ρ' q => ?_⟩
      rw [evH_cons] at q
      intro σ' F' H' C dA ok' s' hC hD
      refine ⟨cs.contains c', m2 c' C hC, fun hb a na => ?_, fun hb => ?_⟩
      · rw [if_pos hb] at q
        by_cases hl : i < ρ'.length
        · simp only [if_pos hl] at q
          refine ⟨C, rfl, ρ'.set i (.ex c' fs), F', (ok'.toEx h0).setX rfl fun _ => ⟨a, C, dA, rfl, rfl, hC, hD⟩, ?_⟩
          cases z2 : evSs cl (ρ'.set i (.ex c' fs)) bs with
          | none => rw [z2] at q; exact q
          | some o2 =>
            rw [z2] at q
            cases o2 with
            | nx ρ2 => exact fun σ2 F2 H2 ok2 s2 => q _ F2 H2 ok2.unx_un (s'.trans s2)
            | ct ρ2 => exact fun σ2 F2 H2 ok2 s2 => q _ F2 H2 ok2.unx_un (s'.trans s2)
            | rt d => exact fun v F2 H2 f2 s2 r2 => q v F2 H2 f2.unx (s'.trans s2) r2
            | ex c2 fs2 ρ2 => exact q.elim
        · simp only [if_neg hl] at q; exact q.elim
      · rw [if_neg (by rw [hb]; exact Bool.false_ne_true)] at q
        exact i2 F Ds c' fs ρ' q σ' F' H' C dA ok' s' hC hD
theorem ss_tryM {b : List S} {body : List Stmt} {h₀ : ExceptHandler} {hr : List ExceptHandler} {hds : List (List Str × Option Nat × List S)} (hs : Hs g sc X M W cl) (hc : g.calm = true)
    (hb : ∀ W' pn xe, Hs g sc (X.tr pn xe) M W' cl → PSs (X.tr pn xe) body (tSs (X.tr pn xe) M W' cl b)) (k : ClOk g sc X M cl hds (h₀ :: hr)) : PS X (.Try body (h₀ :: hr) [] [] pos) (tS X M W cl (.tryS b hds)) := by
  obtain ⟨l, k1, k2⟩ := wish_mix hs hc k
  refine PS.weak (ps_try_mix (tb := fun W' => tSs X M W' cl b) hs.stk hs.frm (by rw [hs.x.N]; exact hs.x.nd) hs.x.tk (fun W' pn xe tk po => hb W' pn xe (hs.tr hc tk po)) k1) fun Ds σ H ⟨ρ, F, ok, q⟩ => ?_
  refine ⟨ρ, F, ok, ?_⟩
  rw [evS_try] at q
  cases z : evSs cl ρ b with
  | none => rw [z] at q; exact q
  | some o =>
    rw [z] at q
    cases o with
    | nx ρ' => exact q
    | ct ρ' => exact q
    | rt d => exact q
    | ex c' fs ρ' => exact k2 F Ds c' fs ρ' q
end
end Ad
set_option Elab.async false
set_option linter.all false
set_option maxRecDepth 100000
set_option maxHeartbeats 1000000
/-! A new book asked twice, in a function of a law. -/
namespace Ad
open PySem PySem.Spec PyProof.Rows L2
theorem sne1 : ¬ (("rows" : Str) = "calls") := by decide +kernel
theorem sne2 : ¬ (("rows" : Str) = "before") := by decide +kernel
theorem sne3 : ¬ (("calls" : Str) = "before") := by decide +kernel
theorem bk_rows (r : V) (l1 l2 : Addr) : (bkFs r l1 l2).lookup ("rows" : Str) = some r := by
  unfold bkFs; rw [lookup_putF, if_neg sne2, lookup_putF, if_neg sne1, lookup_putF, if_pos rfl]
theorem bk_calls (r : V) (l1 l2 : Addr) : (bkFs r l1 l2).lookup ("calls" : Str) = some (.ref l1) := by
  unfold bkFs; rw [lookup_putF, if_neg sne3, lookup_putF, if_pos rfl]
theorem bk_before (r : V) (l1 l2 : Addr) : (bkFs r l1 l2).lookup ("before" : Str) = some (.ref l2) := by
  unfold bkFs; rw [lookup_putF, if_pos rfl]
theorem bk_no (r : V) (l1 l2 : Addr) {m : Str} (h1 : ¬ m = "before") (h2 : ¬ m = "calls") (h3 : ¬ m = "rows") : (bkFs r l1 l2).lookup m = none := by
  unfold bkFs; rw [lookup_putF, if_neg h1, lookup_putF, if_neg h2, lookup_putF, if_neg h3]; rfl
section
variable {X : Cx} {CX : CXT} {k : Nat} {f C : Addr} {fd : FuncData} {ps : List Str} {sp : Sp} {ds : List Value} {dvs : List V} {E : L2.St → XK} {m : Str} {o e : Expr} {es : List Expr} {ta : TE} {t : TA} {pos apos : Pos}
def tMethSD (C : Addr) (m : Str) (sp : Sp) (dvs : List V) (E : L2.St → XK) (ta : TE) (t : TA) : TE := fun σ H Q => ta σ H fun x H1 => ∃ a dx fs, x = .ref a ∧ H1 a = some (.ins C dx fs) ∧ fs.lookup m = none ∧ t σ H1 fun vs H2 => sp (x :: (vs ++ dvs)) H2 Q (E σ)
theorem pe_methSD (he : PE X o ta) (c : Cls X.K C) (hm : Meth X.K C m f) (F : FnOk X.prog X.w X.K X.mg X.base CX k f fd ps sp) (hr : Room k X.A) (hb : Binds X.K fd ps ds) (hd : Vals dvs ds) (hx : ∀ σ, PassesAt CX X σ (E σ)) (ha : PA X (e :: es) t)
    (hst : starEach (e :: es) X.env = (false, eval e X.env) :: starEach es X.env) (hpl : (backTo pos (starEach es X.env)).any (·.1) = false)
    (hbase : attributeBase o m X.env (eval o X.env) = eval o X.env)
    (hfew : ((backTo pos (starEach (e :: es) X.env)).all (fun x => !x.1) && (backToKw pos (keywordEach [] X.env)).all (fun x => x.1.isSome)
      && decide ((e :: es).length + ([] : List Keyword).length + (if ([] : List Keyword).isEmpty then 0 else 1) < 30)) = true)
    (hline : (apos.endLine == pos.line) = true) :
    PE X (.Call (.Attribute o m apos) (e :: es) [] pos) (tMethSD C m sp dvs E ta t) := by
  refine ⟨fun pins s σ H Q I h => ?_⟩
  refine call_late hbase hfew hline (thn (he.run pins s σ H _ I h) fun u s1 ⟨x, H1, I1, rx, a, dx, fs, ex, ea, l, q⟩ pl => ?_)
  subst ex
  obtain rfl : u = Value.ref a := rx
  refine getmeth_ok I1 ea c hm l ?_
  show wpAny _ _ (callWith pos (.ref f) [.ref a] (backTo pos (starEach (e :: es) X.env)) (backToKw pos (keywordEach [] X.env))) _ _ _
  refine PySem.W.callWith_K (first := [.ref a]) (h₀ := X.base) I.ok.mod.kin hm.kp (thn (ha.run pos pins s1 σ H1 _ I1 q) fun us s2 ⟨vs, H2, I2, r, q2⟩ => ⟨I2.kIn, ?_⟩) hst hpl
  exact run_fnSD (us := .ref a :: us) (vs := .ref a :: vs) F hr hb hd (hx σ) I2 (.cons rfl r) q2
theorem pe_methSD0 (he : PE X o ta) (c : Cls X.K C) (hm : Meth X.K C m f) (F : FnOk X.prog X.w X.K X.mg X.base CX k f fd ps sp) (hr : Room k X.A) (hb : Binds X.K fd ps ds) (hd : Vals dvs ds) (hx : ∀ σ, PassesAt CX X σ (E σ)) (hbase : attributeBase o m X.env (eval o X.env) = eval o X.env) (hline : (apos.endLine == pos.line) = true) :
    PE X (.Call (.Attribute o m apos) [] [] pos) (tMethSD C m sp dvs E ta tNil) := by
  refine ⟨fun pins s σ H Q I h => ?_⟩
  refine call_late hbase rfl hline (thn (he.run pins s σ H _ I h) fun u s1 ⟨x, H1, I1, rx, a, dx, fs, ex, ea, l, q⟩ pl => ?_)
  subst ex
  obtain rfl : u = Value.ref a := rx
  refine getmeth_ok I1 ea c hm l ?_
  exact PySem.W.callWith_K0 (first := [.ref a]) I1.kIn hm.kp (run_fnSD (us := [.ref a]) (vs := [.ref a]) F hr hb hd (hx σ) I1 (.cons rfl .nil) q)
theorem few_of {p : Pos} {env : Env} (h : (backTo p (starEach (e :: es) env)).any (·.1) = false) (hl : (e :: es).length < 20) : ((backTo p (starEach (e :: es) env)).all (fun x => !x.1) && (backToKw p (keywordEach [] env)).all (fun x => x.1.isSome)
      && decide ((e :: es).length + ([] : List Keyword).length + (if ([] : List Keyword).isEmpty then 0 else 1) < 30)) = true := by
  have h1 : (backTo p (starEach (e :: es) env)).all (fun x => !x.1) = true := by
    rw [List.all_eq_not_any_not]
    simpa using h
  rw [h1]
  have h2 : (backToKw p (keywordEach [] env)).all (fun x => x.1.isSome) = true := rfl
  rw [h2]
  simp only [List.length_nil, Bool.true_and, decide_eq_true_eq, List.isEmpty_nil, if_true]
  omega
end
theorem SEs.uncons {X : Cx} {M : Pm} {W : WX} {cl : Cl} {x : E} {xs : List E} {e : Expr} {es : List Expr} (h : SEs X M W cl (x :: xs) (e :: es)) : plainB e = true ∧ SEs X M W cl xs es := by
  cases h with
  | cons h1 _ h3 => exact ⟨h1, h3⟩
theorem pss_any {X : Cx} {rest : List Stmt} : PSs X rest (fun _ _ _ => False) := ⟨fun _ _ _ _ _ _ h => h.elim⟩
section
variable {g : Gc} {sc : Scope} {X : Cx} {M : Pm} {W : WX} {cl : Cl} {pos p0 : Pos} {Ds : Ends}
/-- what stands where a book was made -/
theorem made_ext {w : World} {K : Fr} {C x dx r l1 l2 : Addr} {F H H' : Hp} (hF : Sub F H) (nx : H x = none) (nd : H dx = none) (ndx : dx ≠ x) (n1 : (upd (upd H dx (.own x)) x (.ins C dx [])) r = none) (n2 : (upd (upd H dx (.own x)) x (.ins C dx [])) l1 = none) (n3 : (upd (upd H dx (.own x)) x (.ins C dx [])) l2 = none)
    (r1 : r ≠ l1) (r2 : r ≠ l2) (r3 : l1 ≠ l2) (hsm : (r == sysModules) = false) (h1 : H' x = some (.ins C dx (bkFs (.ref r) l1 l2))) (h2 : H' r = some (dHO r [] 0)) (h3 : H' l1 = some (.lst [])) (h4 : H' l2 = some (.lst [])) (h5 : ∀ a o, (upd (upd H dx (.own x)) x (.ins C dx [])) a = some o → a ≠ x → H' a = some o) :
    Ext F H (upd F r (dHO r [] 0)) H' ∧ BkAt w K C (upd F r (dHO r [] 0)) H' x l1 l2 ∧ H l1 = none ∧ H l2 = none := by
  have off : ∀ {a : Addr}, (upd (upd H dx (.own x)) x (.ins C dx [])) a = none → a ≠ x ∧ H a = none := fun {a} z => by
    have z1 : a ≠ x := fun e => by subst e; rw [upd_same] at z; cases z
    rw [upd_ne z1] at z
    have z2 : a ≠ dx := fun e => by subst e; rw [upd_same] at z; cases z
    rw [upd_ne z2] at z
    exact ⟨z1, z⟩
  obtain ⟨o1, o2⟩ := off n1
  obtain ⟨o3, o4⟩ := off n2
  obtain ⟨o5, o6⟩ := off n3
  have nF : ∀ {a : Addr}, H a = none → F a = none := fun {a} z => by
    cases e : F a with
    | none => rfl
    | some o => rw [hF _ _ e] at z; cases z
  have keep : ∀ a o, H a = some o → H' a = some o := fun a o e => by
    have z1 : a ≠ x := fun z => by subst z; rw [nx] at e; cases e
    have z2 : a ≠ dx := fun z => by subst z; rw [nd] at e; cases e
    exact h5 a o (by rw [upd_ne z1, upd_ne z2]; exact e) z1
  refine ⟨⟨keep, fun a u e => ?_, fun a u e => ?_, fun a e => ?_⟩, ⟨⟨dx, .ref r, h1, ?_⟩, h3, h4, r3, ?_, ?_, ?_⟩, o4, o6⟩
  · have : a ≠ r := fun z => by subst z; rw [nF o2] at e; cases e
    rw [upd_ne this]; exact e
  · by_cases z : a = r
    · subst z; rw [upd_same] at e; rw [← e]; exact h2
    · rw [upd_ne z] at e; exact keep _ _ (hF _ _ e)
  · by_cases z : a = r
    · subst z; exact .inr o2
    · rw [upd_ne z] at e; exact .inl e
  · simp only [Rep]
    exact ⟨r, [], 0, rfl, ⟨hsm, .inl upd_same⟩, Nat.zero_le _, by simp only [RepP]⟩
  · rw [upd_ne (Ne.symm o1)]; exact nF nx
  · rw [upd_ne (Ne.symm r1)]; exact nF o4
  · rw [upd_ne (Ne.symm r2)]; exact nF o6
theorem BkAt.ext {w : World} {K : Fr} {C b l1 l2 : Addr} {F H F' H' : Hp} (h : BkAt w K C F H b l1 l2) (x : Ext F H F' H') : BkAt w K C F' H' b l1 l2 := by
  obtain ⟨⟨dx, r, h1, h2⟩, c1, c2, ne, f0, f1, f2⟩ := h
  exact ⟨⟨dx, r, x.sub _ _ h1, Rep.sub x.subF _ _ h2⟩, x.sub _ _ c1, x.sub _ _ c2, ne, x.stays f0 (by rw [h1]; intro z; cases z), x.stays f1 (by rw [c1]; intro z; cases z), x.stays f2 (by rw [c2]; intro z; cases z)⟩
/-- a slot of which nothing is known holds anything -/
theorem Ok.set_un {w : World} {K : Fr} {F H : Hp} {σ : L2.St} {ρ : List Sl} {j : Nat} {v : Option V} (ok : Ok w K M F H σ ρ) (hj : ρ[j]? = some .un) : Ok w K M F H (σ.set j v) ρ where
  sub := ok.sub
  base := ok.base
  baseF := ok.baseF
  grow := ok.grow
  len := by rw [List.length_set]; exact ok.len
  slot := fun i s e => by
    by_cases z : j = i
    · subst z; rw [hj] at e; cases e; trivial
    · rw [List.getElem?_set_ne z]; exact ok.slot i s e
  sep := fun i k s t p q hik e1 e2 h1 h2 e3 e4 => by
    have hi : j ≠ i := fun z => by subst z; rw [hj] at e1; cases e1; cases h1
    have hk : j ≠ k := fun z => by subst z; rw [hj] at e2; cases e2; cases h2
    rw [List.getElem?_set_ne hi] at e3
    rw [List.getElem?_set_ne hk] at e4
    exact ok.sep i k s t p q hik e1 e2 h1 h2 e3 e4
/-- return Book().back() -/
theorem ss_back {i : Nat} {q1 q2 ap cp : Pos} (hs : Hs g sc X M W cl) (hc : g.calm = true) (hb : g.bk = some i) (hi : 1000000000 ≤ i) (hg : gloB sc "Book" = true) (hl : (ap.endLine == cp.line) = true) :
    PS X (.Return (some (.Call (.Attribute (.Call (.Name "Book" q1) [] [] q2) "back" ap) [] [] cp)) pos) (tS X M W cl (.raise "Nothing" [] [])) := by
  obtain ⟨k, m7, C, fI, fdI, m1, m2, m3, m4, hy⟩ := hs.x.bk hc i hb
  obtain ⟨T, mk, mu, f, fd, b1, b2, b3⟩ : BkM X.prog X.w X.K X.mg X.base M.cls cl i k C := by
    rcases hy with ⟨h, _⟩ | ⟨_, h⟩
    · exact absurd h (Nat.not_lt.mpr hi)
    · exact h
  obtain ⟨g3, g4⟩ := glo_i hg hs.x
  have base := pe_methSD0 (pos := cp) (apos := ap) (E := fun σ c d H => W c d σ H) (pe_make0 (p := q1) (pos := q2) (E := fun _ _ _ => False) m2 m3 m7 g3 m1 m4 .nil (passes_call hs.x.tk (fun _ _ _ _ z => z.elim)) g4) T b1 b2 (m7.mono (by omega)) b3 .nil (fun σ => passAt hs.x.tk σ) rfl hl
  refine PS.weak (ps_ret base) fun Ds σ H ⟨ρ, F, ok, q⟩ => ?_
  simp only [evS, evs, lift] at q
  intro x dx nx nd ndx
  refine ⟨x, dx, rfl, upd_same, fun r l1 l2 H' n1 n2 n3 r1 r2 r3 hsm h1 h2 h3 h4 h5 => ⟨rfl, ?_⟩⟩
  obtain ⟨e1, B, _, _⟩ := made_ext (w := X.w) (K := X.K) ok.sub nx nd ndx n1 n2 n3 r1 r2 r3 hsm h1 h2 h3 h4 h5
  refine ⟨x, dx, _, rfl, h1, bk_no _ _ _ (by decide +kernel) (by decide +kernel) (by decide +kernel), ?_⟩
  refine ⟨_, x, dx, l1, l2, _, rfl, e1.inn, h1, h3, fun F' H2 C' dA x' hC hD => ?_⟩
  exact q σ F' H2 C' dA (ok.ext (e1.trans x')) (e1.trans x').subF hC hD
theorem evs_split {ρ : List Sl} {m : Md} : ∀ {as bs : List E} {ds : List D}, evs cl ρ m (as ++ bs) = .ok ds → ∃ d1 d2, evs cl ρ m as = .ok d1 ∧ evs cl ρ m bs = .ok d2 ∧ ds = d1 ++ d2
  | [], bs, ds, h => ⟨[], ds, by simp only [evs], h, rfl⟩
  | a :: as, bs, ds, h => by
    rw [List.cons_append] at h
    simp only [evs] at h
    cases e : ev cl ρ m a with
    | bad => rw [e] at h; cases h
    | ex c fs => rw [e] at h; cases h
    | ok x =>
      rw [e] at h
      simp only [bind_ok] at h
      cases e2 : evs cl ρ m (as ++ bs) with
      | bad => rw [e2] at h; cases h
      | ex c fs => rw [e2] at h; cases h
      | ok ys =>
        rw [e2] at h
        simp only [bind_ok] at h
        injection h with h
        obtain ⟨d1, d2, k1, k2, k3⟩ := evs_split e2
        refine ⟨x :: d1, d2, ?_, k2, by rw [← h, k3]; rfl⟩
        simp only [evs, e, k1, bind_ok]
theorem useB_ok {i gl : Nat} {d : D} (h : useB cl i gl d = true) : ∃ z p c z2 p2 xs kvs ks c2 d3, d = .tuple [.str z, p, c, .str z2, p2, .list xs] ∧ keepD cl i z p c = .ok (.dict kvs) ∧ okK (.str z2) kvs = true ∧ findK (.str z2) kvs = some (.tuple [.tuple ks, c2]) ∧ cl gl [p2] [] = .ok d3 ∧ xs.length ≠ ks.length := by
  unfold useB at h
  split at h
  · rename_i z p c z2 p2 xs
    split at h
    · rename_i kvs hk
      rw [Bool.and_eq_true] at h
      obtain ⟨h1, h⟩ := h
      split at h
      · rename_i ks c2 hf
        split at h
        · rename_i d3 hd
          exact ⟨z, p, c, z2, p2, xs, kvs, ks, c2, d3, rfl, hk, h1, hf, hd, of_decide_eq_true h⟩
        · cases h
      · cases h
    · cases h
  · cases h
/-- book = Book(); book.keep(..); return book.used(..) -/
theorem ss_book {i j : Nat} {x1 x2 x3 x4 x5 x6 : E} {e1 e2 e3 e4 e5 e6 : Expr} {q1 q2 q3 q4 q5 q6 q7 q8 ap cp ap2 cp2 : Pos} (hs : Hs g sc X M W cl) (hc : g.calm = true) (hb : g.bk = some i) (hi : 1000000000 ≤ i) (hg : gloB sc "Book" = true) (hj : g.N[j]? = some "book") (hv : locB sc "book" = true) (hl : (ap.endLine == cp.line) = true) (hl2 : (ap2.endLine == cp2.line) = true)
    (hA : SEs X M W cl [x1, x2, x3] [e1, e2, e3]) (hB : SEs X M W cl [x4, x5, x6] [e4, e5, e6]) :
    PSs X [.Assign [.Name "book" q1] (.Call (.Name "Book" q2) [] [] q3) q4, .Expr (.Call (.Attribute (.Name "book" q5) "keep" ap) [e1, e2, e3] [] cp) q6, .Return (some (.Call (.Attribute (.Name "book" q7) "used" ap2) [e4, e5, e6] [] cp2)) q8]
      (tSs X M W cl [.asgN j (.tup [x1, x2, x3, x4, x5, x6]) (i % 1000000000) (i / 1000000000 - 1)]) := by
  obtain ⟨k, m7, C, fI, fdI, m1, m2, m3, m4, hy⟩ := hs.x.bk hc i hb
  obtain ⟨T, ⟨fK, fdK, k1, k2, k3⟩, ⟨fU, fdU, u1, u2, u3⟩, _⟩ : BkM X.prog X.w X.K X.mg X.base M.cls cl i k C := by
    rcases hy with ⟨h, _⟩ | ⟨_, h⟩
    · exact absurd h (Nat.not_lt.mpr hi)
    · exact h
  obtain ⟨g3, g4⟩ := glo_i hg hs.x
  obtain ⟨l1', l2'⟩ := hs.hg.loc "book" hv
  have hN : X.N.Nodup := by rw [hs.x.N]; exact hs.x.nd
  have hi' : X.N[j]? = some "book" := by rw [hs.x.N]; exact hj
  have vis : Vis X.env.scope "book" := l1'.elim .inl fun z => .inr (.inl z)
  obtain ⟨pa1, pa2⟩ := hA.uncons
  obtain ⟨pb1, pb2⟩ := hB.uncons
  refine PSs.weak (pss_cons (ps_set hN hi' l1' (pe_make0 (p := q2) (pos := q3) (E := fun _ _ _ => False) m2 m3 m7 g3 m1 m4 .nil (passes_call hs.x.tk (fun _ _ _ _ z => z.elim)) g4) rfl l2')
    (pss_cons (ps_expr (pe_methSD (E := fun σ c d H => W c d σ H) (pe_var hi' vis) T k1 k2 (m7.mono (by omega)) k3 .nil (fun σ => passAt hs.x.tk σ) (s_args hA) (star_plain pa1) (pa2.plain _) rfl (few_of (hA.plain _) (by simp)) hl))
    (pss_one (ps_ret (pe_methSD (E := fun σ c d H => W c d σ H) (pe_var hi' vis) T u1 u2 (m7.mono (by omega)) u3 .nil (fun σ => passAt hs.x.tk σ) (s_args hB) (star_plain pb1) (pb2.plain _) rfl (few_of (hB.plain _) (by simp)) hl2))))) fun Ds σ H ⟨ρ, F, ok, q⟩ => ?_
  have q : AfterS X M W F Ds (match (match ρ[j]?, ev cl ρ .v (.tup [x1, x2, x3, x4, x5, x6]) with
    | some .un, .ok d => if useB cl (i % 1000000000) (i / 1000000000 - 1) d then some (Out.ex "BadPicks" [] ρ) else (none : Option Out)
    | _, _ => none) with
      | some (Out.nx ρ') => evSs cl ρ' []
      | o => o) := by simp only [evSs, evS] at q; exact q
  have hu : ρ[j]? = some .un ∧ ∃ d, ev cl ρ .v (.tup [x1, x2, x3, x4, x5, x6]) = .ok d ∧ useB cl (i % 1000000000) (i / 1000000000 - 1) d = true ∧ AfterS X M W F Ds (some (.ex "BadPicks" [] ρ)) := by
    cases a : ρ[j]? with
    | none => rw [a] at q; exact q.elim
    | some s =>
      cases b : ev cl ρ .v (.tup [x1, x2, x3, x4, x5, x6]) with
      | bad => rw [a, b] at q; cases s <;> exact q.elim
      | ex c fs => rw [a, b] at q; cases s <;> exact q.elim
      | ok d =>
        rw [a, b] at q
        cases s <;> first | exact q.elim | skip
        cases c : useB cl (i % 1000000000) (i / 1000000000 - 1) d with
        | false => simp only [c, Bool.false_eq_true, if_false] at q; exact q.elim
        | true => simp only [c, if_true] at q; exact ⟨rfl, d, rfl, c, q⟩
  obtain ⟨hun, d, hd, hub, q⟩ := hu
  obtain ⟨z, p, c, z2, p2, xs, kvs, ks, c2, d3, rfl, w1, w2, w3, w4, w5⟩ := useB_ok hub
  have hes : evs cl ρ .v ([x1, x2, x3] ++ [x4, x5, x6]) = .ok [.str z, p, c, .str z2, p2, .list xs] := by
    simp only [ev] at hd
    show evs cl ρ .v [x1, x2, x3, x4, x5, x6] = _
    cases a : evs cl ρ .v [x1, x2, x3, x4, x5, x6] with
    | bad => rw [a] at hd; cases hd
    | ex c fs => rw [a] at hd; cases hd
    | ok ds => rw [a] at hd; simp only [bind_ok, fin_v] at hd; injection hd with hd; injection hd with hd; rw [hd]
  obtain ⟨da, db, ea, eb, ee⟩ := evs_split hes
  have la := evs_length ea
  have lb := evs_length eb
  obtain ⟨rfl, rfl⟩ : da = [.str z, p, c] ∧ db = [.str z2, p2, .list xs] := by
    match da, la with
    | [a1, a2, a3], _ =>
      match db, lb with
      | [b1, b2, b3], _ =>
        simp only [List.cons_append, List.nil_append, List.cons.injEq, and_true] at ee
        obtain ⟨rfl, rfl, rfl, rfl, rfl, rfl⟩ := ee
        exact ⟨rfl, rfl⟩
  have hjl : j < σ.length := by
    rw [← ok.len]; exact (List.getElem?_eq_some_iff.mp hun).1
  intro x dx nx nd ndx
  refine ⟨x, dx, rfl, upd_same, fun r l1 l2 H' n1 n2 n3 r1 r2 r3 hsm h1 h2 h3 h4 h5 => ⟨rfl, ?_⟩⟩
  obtain ⟨y1, B, o4, o6⟩ := made_ext (w := X.w) (K := X.K) ok.sub nx nd ndx n1 n2 n3 r1 r2 r3 hsm h1 h2 h3 h4 h5
  have ok1 := (ok.set_un (v := some (.ref x)) hun).ext y1
  have hx : (σ.set j (some (.ref x)))[j]? = some (some (.ref x)) := List.getElem?_set_self hjl
  refine ⟨.ref x, hx, x, dx, _, rfl, h1, bk_no _ _ _ (by decide +kernel) (by decide +kernel) (by decide +kernel), ρ, _, ok1, ?_⟩
  rw [ea]
  intro F2 H2 y2 vs rs
  obtain ⟨v1, v2, v3, rfl⟩ : ∃ v1 v2 v3, vs = [v1, v2, v3] := by
    match vs, rs.length with
    | [a1, a2, a3], _ => exact ⟨a1, a2, a3, rfl⟩
  simp only [RepL] at rs
  obtain ⟨t1, t2, t3, _⟩ := rs
  simp only [Rep] at t1
  subst t1
  refine ⟨F2, x, l1, l2, z, v2, v3, p, c, rfl, y2.inn, B.ext y2, t2, t3, ?_⟩
  rw [w1]
  intro F3 H3 dx' r' xb hb3 hr3
  have y12 := y1.trans y2
  have y3 : Ext F H F3 H3 := by
    refine ⟨fun a o e => xb.sub a o (y12.sub _ _ e) (fun z => by subst z; rw [nx] at e; cases e) (fun z => by subst z; rw [o4] at e; cases e) (fun z => by subst z; rw [o6] at e; cases e), y12.subF.trans xb.subF, xb.inn, fun a z => ?_⟩
    rcases xb.grow a z with z | z | rfl | rfl | rfl
    · exact y12.grow a z
    · right
      cases e : H a with
      | none => rfl
      | some o => rw [y12.sub _ _ e] at z; cases z
    · exact .inr nx
    · exact .inr o4
    · exact .inr o6
  have ok3 := (ok.set_un (v := some (.ref x)) hun).ext y3
  refine ⟨.ref x, hx, x, dx', _, rfl, hb3, bk_no _ _ _ (by decide +kernel) (by decide +kernel) (by decide +kernel), ρ, F3, ok3, ?_⟩
  rw [eb]
  intro F4 H4 y4 us rt
  obtain ⟨a1, a2, a3, rfl⟩ : ∃ v1 v2 v3, us = [v1, v2, v3] := by
    match us, rt.length with
    | [a1, a2, a3], _ => exact ⟨a1, a2, a3, rfl⟩
  have rt' := rt
  simp only [RepL] at rt'
  obtain ⟨s1, s2, s3, _⟩ := rt'
  have s1' := s1
  simp only [Rep] at s1'
  subst s1'
  refine ⟨F4, x, dx', l1, l2, r', z2, a2, a3, kvs, p2, c2, ks, xs, d3, rfl, y4.inn, y4.sub _ _ hb3, Rep.sub y4.subF _ _ hr3, s2, s3, w2, w3, w4, w5, fun F5 H5 C5 dA y5 hC hD => ?_⟩
  exact q _ F5 H5 C5 dA (ok3.ext (y4.trans y5)) (y3.trans (y4.trans y5)).subF hC hD
end
end Ad
set_option Elab.async false
set_option linter.all false
set_option maxRecDepth 100000
set_option maxHeartbeats 4000000
/-! The check of statements; all statements. -/
namespace Ad
open PySem PySem.Spec PyProof.Rows L2
/-- a book's methods are at hand -/
def bkB (g : Gc) : Bool := match g.bk with
  | some i => decide (1000000000 ≤ i)
  | none => false
theorem bkB_ok {g : Gc} (h : bkB g = true) : ∃ i, g.bk = some i ∧ 1000000000 ≤ i := by
  unfold bkB at h
  split at h
  · exact ⟨_, by assumption, of_decide_eq_true h⟩
  · cases h
/-- a book made, asked twice -/
def chkBk (g : Gc) (sc : Scope) (j : Nat) (x : E) (f k : Nat) (sts : List Stmt) : Bool := match x, sts with
  | .tup [x1, x2, x3, x4, x5, x6], [.Assign [.Name n1 _] (.Call (.Name b _) [] [] _) _, .Expr (.Call (.Attribute (.Name n2 _) a1 ap) [e1, e2, e3] [] cp) _, .Return (some (.Call (.Attribute (.Name n3 _) a2 ap2) [e4, e5, e6] [] cp2)) _] =>
    g.calm && (match g.bk with | some i => decide (1000000000 ≤ i) && decide (f = i % 1000000000) && decide (k = i / 1000000000 - 1) | none => false) && decide (n1 = "book") && decide (n2 = "book") && decide (n3 = "book") && decide (b = "Book") && gloB sc "Book" && decide (a1 = "keep") && decide (a2 = "used") && decide (g.N[j]? = some "book") && locB sc "book" && (ap.endLine == cp.line) && (ap2.endLine == cp2.line) && chkEs g sc [x1, x2, x3] [e1, e2, e3] && chkEs g sc [x4, x5, x6] [e4, e5, e6]
  | _, _ => false
mutual
def chkS (g : Gc) (sc : Scope) : S → Stmt → Bool
  | .asg t x, st => (match st with
    | .Assign [tg] e _ => (match t, tg with
      | .nm i, .Name n _ => asgB g sc i n x e
      | .st i j, .Tuple [.Name a _, .Starred (.Name b _) _] _ _ => g.calm && decide (g.N[i]? = some a) && locB sc a && decide (g.N[j]? = some b) && locB sc b && !compB e && !tupB e && chkE g sc x e
      | t, tg => g.calm && plainB tg && chkT g sc t tg && !compB e && !tupB e && chkE g sc x e)
    | _ => false)
  | .own i x, st => (match st with | .Assign [.Name n _] e _ => asgB g sc i n x e && freshE x | _ => false)
  | .asgF i f, st => (match st with | .Assign [.Name n _] e _ => decide (g.N[i]? = some n) && locB sc n && !compB e && chkF g sc f e | _ => false)
  | .par ts es, st => (match st with
    | .Assign [.Tuple tes k pt] (.Tuple vs k2 pt2) _ => g.calm && (match swB sc tes vs with
      | some none => chkT g sc (.tp ts) (.Tuple tes k pt) && chkE g sc (.tup es) (.Tuple vs k2 pt2)
      | some (some ns) => parB g sc ts tes ns && chkEs g sc es vs && decide (vs.length = tes.length)
      | none => false)
    | _ => false)
  | .app i f, st => (match st with | .Expr (.Call (.Attribute (.Name n _) m ap) [e] [] cp) _ => decide (m = "append") && varB g sc i n && plainB e && (ap.endLine == cp.line) && chkF g sc f e | _ => false)
  | .put i k x, st => (match st with | .Assign [.Subscript (.Name n _) ek _] e _ => varB g sc i n && ixB ek && !compB e && chkE g sc x e && chkE g sc k ek | _ => false)
  | .aug i x, st => (match st with | .AugAssign (.Name n _) .Add e _ => decide (g.N[i]? = some n) && locB sc n && chkE g sc x e | _ => false)
  | .expr x, st => (match st with | .Expr e _ => !compB e && chkE g sc x e | _ => false)
  | .ret x, st => (match st with | .Return (some e) _ => chkE g sc x e | _ => false)
  | .retN, st => (match st with | .Return none _ => true | _ => false)
  | .ifs c a b, st => (match st with | .If e ea eb _ => chkE g sc c e && chkSs g sc a ea && chkSs g sc b eb | _ => false)
  | .forS t it b, st => (match st with | .For tg iter eb [] _ => g.calm && notSet iter && chkT g sc t tg && chkI g sc it iter tg && chkSs g sc b eb | _ => false)
  | .whil c b, st => (match st with | .While e eb [] _ => chkE g sc c e && chkSs g sc b eb | _ => false)
  | .raise n fs es, st => (match fs, es, st with
    | [f], [a], .Raise (some (.Call (.Name m _) [e] [] _)) none _ => g.calm && decide (n = m) && decide (g.xi.lookup n = some f) && gloB sc n && plainB e && chkE g sc a e
    | _, _, _ => (match st with
      | .Raise (some (.Call (.Name m _) [.Constant (.str _) _ _] [] _)) none _ => g.calm && decide (n = m) && fs.isEmpty && es.isEmpty && decide (n ∈ g.xs) && gloB sc n
      | .Return (some (.Call (.Attribute (.Call (.Name x _) [] [] _) m ap) [] [] cp)) _ => g.calm && bkB g && decide (n = "Nothing") && fs.isEmpty && es.isEmpty && decide (x = "Book") && decide (m = "back") && gloB sc "Book" && (ap.endLine == cp.line)
      | _ => false))
  | .tryS b hs, st => (match st with
    | .Try body (h₀ :: hr) [] [] _ => g.calm && chkSs g sc b body && chkH g sc hs (h₀ :: hr)
    | _ => false)
  | .pass, st => (match st with | .Pass _ => true | _ => false)
  | .cont, st => (match st with | .Continue _ => true | _ => false)
  | .never, _ => true
  | _, _ => false
def chkH (g : Gc) (sc : Scope) : List (List Str × Option Nat × List S) → List ExceptHandler → Bool
  | [], ehs => ehs.isEmpty
  | (cs, o, bs) :: r, ehs => (match ehs with
    | .ExceptHandler (some (.Name n _)) nm (b₀ :: su) _ :: rest => gloB sc n && decide (g.hd.lookup n = some cs) && chkSs g.hot sc bs (b₀ :: su) && (match o, nm with
        | none, none => true
        | some i, some x => decide (g.N[i]? = some x) && decide (sc.names.lookup x = some .local)
        | _, _ => false) && chkH g sc r rest
    | _ => false)
def chkSs (g : Gc) (sc : Scope) : List S → List Stmt → Bool
  | [], sts => sts.isEmpty
  | s :: r, sts => (match s with
    | .frz _ => chkSs g sc r sts
    | .never => true
    | .asgN j x f k => r.isEmpty && chkBk g sc j x f k sts
    | s => (match sts with | st :: rest => chkS g sc s st && chkSs g sc r rest | [] => false))
end
theorem chkSs_cons {g : Gc} {sc : Scope} {s : S} {r : List S} {st : Stmt} {rest : List Stmt} (hn : ∀ i, s ≠ .frz i) (hv : s ≠ .never) (ha : ∀ j x f k, s ≠ .asgN j x f k) : chkSs g sc (s :: r) (st :: rest) = (chkS g sc s st && chkSs g sc r rest) := by
  cases s <;> first | exact absurd rfl (hn _) | exact absurd rfl hv | exact absurd rfl (ha _ _ _ _) | simp only [chkSs]
theorem chkSs_nil {g : Gc} {sc : Scope} {s : S} {r : List S} (hn : ∀ i, s ≠ .frz i) (hv : s ≠ .never) (ha : ∀ j x f k, s ≠ .asgN j x f k) (h : chkSs g sc (s :: r) [] = true) : False := by
  cases s <;> first | exact absurd rfl (hn _) | exact absurd rfl hv | exact absurd rfl (ha _ _ _ _) | (simp only [chkSs] at h; cases h)
theorem sI' {g : Gc} {cl : Cl} {sc : Scope} {X : Cx} {M : Pm} {W : WX} {it : I} {iter tg : Expr} (hx : Hx g sc X M W cl) (hc : g.calm = true) (h : chkI g sc it iter tg = true) : PI X tg iter (tI X M W cl .v it) := sI it sc iter tg X M W hx .v (.inl rfl) hc h
mutual
theorem sS {cl : Cl} : ∀ (s : S) (g : Gc) (sc : Scope) (st : Stmt) (X : Cx) (M : Pm) (W : WX), Hs g sc X M W cl → chkS g sc s st = true → PS X st (tS X M W cl s)
  | .asg t x, g, sc, st, X, M, W, hs, h => by
    simp only [chkS] at h
    split at h
    · split at h
      · exact ss_asg (sa_of hs h)
      · simp only [Bool.and_eq_true, Bool.not_eq_true', decide_eq_true_eq] at h
        obtain ⟨⟨⟨⟨⟨⟨⟨h0, h1⟩, h2⟩, h3⟩, h4⟩, h5⟩, h6⟩, h7⟩ := h
        obtain ⟨a1, a2⟩ := hs.hg.loc _ h2
        obtain ⟨b1, b2⟩ := hs.hg.loc _ h4
        exact ss_asgSt (hs.x.calm.trans h0) (pg_name (by rw [hs.hg.N]; exact hs.hg.nd) (by rw [hs.hg.N]; exact h1) a1 a2) (pg_name (by rw [hs.hg.N]; exact hs.hg.nd) (by rw [hs.hg.N]; exact h3) b1 b2) (sE x sc _ X M W hs.x h7) h5 h6
      · simp only [Bool.and_eq_true, Bool.not_eq_true'] at h
        obtain ⟨⟨⟨⟨⟨h0, h1⟩, h2⟩, h3⟩, h4⟩, h5⟩ := h
        exact ss_asgT (s_tg hs.hg (hs.x.calm.trans h0) _ _ h2) (sE x sc _ X M W hs.x h5) h3 (sst_plain h4) h1
    · cases h
  | .asgN i c f g', g, sc, st, X, M, W, hs, h => by simp only [chkS] at h; cases h
  | .own i x, g, sc, st, X, M, W, hs, h => by
    simp only [chkS] at h
    split at h
    · simp only [Bool.and_eq_true] at h
      exact ss_own (sa_of hs h.1) h.2
    · cases h
  | .asgF i f, g, sc, st, X, M, W, hs, h => by
    simp only [chkS] at h
    split at h
    · simp only [Bool.and_eq_true, decide_eq_true_eq, Bool.not_eq_true'] at h
      obtain ⟨⟨⟨h0, h1⟩, h2⟩, h3⟩ := h
      exact ss_asgF hs h0 h1 (sF hs.x f _ h3) h2
    · cases h
  | .par ts es, g, sc, st, X, M, W, hs, h => by
    simp only [chkS] at h
    split at h
    · rename_i tes k pt vs k2 pt2 _
      simp only [Bool.and_eq_true] at h
      obtain ⟨h0, h⟩ := h
      have hq := hs.x.calm.trans h0
      split at h
      · rename_i hw
        simp only [Bool.and_eq_true] at h
        exact ss_parN (s_tg hs.hg hq _ _ h.1) (sE _ sc _ X M W hs.x h.2) (sw_swB hs.x.kind (by rw [hs.x.sc]; exact hw)) rfl
      · rename_i ns hw
        simp only [Bool.and_eq_true, decide_eq_true_eq] at h
        exact ss_par hs hq hw h.1.1 (sEs es sc _ X M W hs.x h.1.2) h.2
      · cases h
    · cases h
  | .app i f, g, sc, st, X, M, W, hs, h => by
    simp only [chkS] at h
    split at h
    · simp only [Bool.and_eq_true, decide_eq_true_eq] at h
      obtain ⟨⟨⟨⟨rfl, h1⟩, h2⟩, h3⟩, h4⟩ := h
      exact ss_app hs h1 (sF hs.x f _ h4) h2 h3
    · cases h
  | .put i k x, g, sc, st, X, M, W, hs, h => by
    simp only [chkS] at h
    split at h
    · simp only [Bool.and_eq_true, Bool.not_eq_true'] at h
      obtain ⟨⟨⟨⟨h0, h1⟩, h2⟩, h3⟩, h4⟩ := h
      exact ss_put hs h0 h1 h2 (sE x sc _ X M W hs.x h3) (sE k sc _ X M W hs.x h4)
    · cases h
  | .aug i x, g, sc, st, X, M, W, hs, h => by
    simp only [chkS] at h
    split at h
    · simp only [Bool.and_eq_true, decide_eq_true_eq] at h
      exact ss_aug hs h.1.1 h.1.2 (sE x sc _ X M W hs.x h.2)
    · cases h
  | .augI i k x, g, sc, st, X, M, W, hs, h => by simp only [chkS] at h; cases h
  | .popD i x, g, sc, st, X, M, W, hs, h => by simp only [chkS] at h; cases h
  | .rem i x, g, sc, st, X, M, W, hs, h => by simp only [chkS] at h; cases h
  | .ext i x, g, sc, st, X, M, W, hs, h => by simp only [chkS] at h; cases h
  | .put2 i k j l a b, g, sc, st, X, M, W, hs, h => by simp only [chkS] at h; cases h
  | .expr x, g, sc, st, X, M, W, hs, h => by
    simp only [chkS] at h
    split at h
    · simp only [Bool.and_eq_true, Bool.not_eq_true'] at h
      exact ss_expr (sE x sc _ X M W hs.x h.2) h.1
    · cases h
  | .ret x, g, sc, st, X, M, W, hs, h => by
    simp only [chkS] at h
    split at h
    · exact ss_ret (sE x sc _ X M W hs.x h)
    · cases h
  | .retN, g, sc, st, X, M, W, hs, h => by
    simp only [chkS] at h
    split at h
    · exact ss_retN
    · cases h
  | .ifs c a b, g, sc, st, X, M, W, hs, h => by
    simp only [chkS] at h
    split at h
    · simp only [Bool.and_eq_true] at h
      exact ss_if (sE c sc _ X M W hs.x h.1.1) (sSs a g sc _ X M W hs h.1.2) (sSs b g sc _ X M W hs h.2)
    · cases h
  | .forS t it b, g, sc, st, X, M, W, hs, h => by
    simp only [chkS] at h
    split at h
    · simp only [Bool.and_eq_true] at h
      obtain ⟨⟨⟨⟨h0, h1⟩, h2⟩, h3⟩, h4⟩ := h
      have hq := hs.x.calm.trans h0
      exact ss_for hs hq h1 (tp_ok h2 h3) (sI' hs.x h0 h3) (s_tg hs.hg hq t _ h2) (sSs b g sc _ X M W hs h4)
    · cases h
  | .whil c b, g, sc, st, X, M, W, hs, h => by
    simp only [chkS] at h
    split at h
    · simp only [Bool.and_eq_true] at h
      exact ss_whil hs (sE c sc _ X M W hs.x h.1) (sSs b g sc _ X M W hs h.2)
    · cases h
  | .raise n fs es, g, sc, st, X, M, W, hs, h => by
    simp only [chkS] at h
    split at h
    · simp only [Bool.and_eq_true, decide_eq_true_eq] at h
      obtain ⟨⟨⟨⟨⟨h0, rfl⟩, h1⟩, h2⟩, h3⟩, h4⟩ := h
      exact ss_raiseI hs h0 h1 h2 h3 (sE _ sc _ X M W hs.x h4)
    · split at h
      · simp only [Bool.and_eq_true, decide_eq_true_eq] at h
        obtain ⟨⟨⟨⟨⟨h0, rfl⟩, h2⟩, h3⟩, h4⟩, h5⟩ := h
        have e1 := List.isEmpty_iff.mp h2
        have e2 := List.isEmpty_iff.mp h3
        subst e1 e2
        exact ss_raise hs (hs.x.calm.trans h0) h4 h5
      · simp only [Bool.and_eq_true, decide_eq_true_eq] at h
        obtain ⟨⟨⟨⟨⟨⟨⟨⟨h0, h1⟩, rfl⟩, h2⟩, h3⟩, rfl⟩, rfl⟩, h4⟩, h5⟩ := h
        have e1 := List.isEmpty_iff.mp h2
        have e2 := List.isEmpty_iff.mp h3
        subst e1 e2
        obtain ⟨i, b1, b2⟩ := bkB_ok h1
        exact ss_back hs h0 b1 b2 h4 h5
      · cases h
  | .tryS b hds, g, sc, st, X, M, W, hs, h => by
    simp only [chkS] at h
    split at h
    · simp only [Bool.and_eq_true] at h
      obtain ⟨⟨h0, h2⟩, h3⟩ := h
      have hb : ∀ W' pn xe, Hs g sc (X.tr pn xe) M W' cl → PSs (X.tr pn xe) _ (tSs (X.tr pn xe) M W' cl b) := fun W' pn xe hs' => sSs b g sc _ _ M W' hs' h2
      exact ss_tryM hs h0 hb (sH hds g sc _ X M h3)
    · cases h
  | .pass, g, sc, st, X, M, W, hs, h => by
    simp only [chkS] at h
    split at h
    · exact ss_pass
    · cases h
  | .cont, g, sc, st, X, M, W, hs, h => by
    simp only [chkS] at h
    split at h
    · exact ss_cont
    · cases h
  | .frz i, g, sc, st, X, M, W, hs, h => by simp only [chkS] at h; cases h
  | .never, g, sc, st, X, M, W, hs, h => ss_never
theorem sH {cl : Cl} : ∀ (hds : List (List Str × Option Nat × List S)) (g : Gc) (sc : Scope) (ehs : List ExceptHandler) (X : Cx) (M : Pm), chkH g sc hds ehs = true → ClOk g sc X M cl hds ehs
  | [], g, sc, ehs, X, M, h => by
    simp only [chkH] at h
    have e := List.isEmpty_iff.mp h
    subst e
    exact .nil
  | (cs, o, bs) :: r, g, sc, ehs, X, M, h => by
    simp only [chkH] at h
    split at h
    · simp only [Bool.and_eq_true, decide_eq_true_eq] at h
      obtain ⟨⟨⟨⟨h1, h2⟩, h3⟩, h4⟩, h5⟩ := h
      refine .cons h1 h2 (fun a C d pn hs' => sSs bs g.hot sc _ _ _ Wf hs' h3) ?_ (sH r g sc _ X M h5)
      split at h4
      · exact .inl ⟨rfl, rfl⟩
      · simp only [Bool.and_eq_true, decide_eq_true_eq] at h4
        exact .inr ⟨_, _, rfl, rfl, h4.1, h4.2⟩
      · cases h4
    · cases h
theorem sSs {cl : Cl} : ∀ (ss : List S) (g : Gc) (sc : Scope) (sts : List Stmt) (X : Cx) (M : Pm) (W : WX), Hs g sc X M W cl → chkSs g sc ss sts = true → PSs X sts (tSs X M W cl ss)
  | [], g, sc, sts, X, M, W, hs, h => by
    simp only [chkSs] at h
    have := List.isEmpty_iff.mp h
    subst this
    exact ss_nil
  | s :: r, g, sc, sts, X, M, W, hs, h => by
    by_cases hn : ∃ i, s = .frz i
    · obtain ⟨i, rfl⟩ := hn
      simp only [chkSs] at h
      exact ss_frz (sSs r g sc sts X M W hs h)
    · have hn' : ∀ i, s ≠ .frz i := fun i z => hn ⟨i, z⟩
      by_cases hv : s = .never
      · subst hv
        exact PSs.weak pss_never fun Ds σ H ⟨ρ, F, ok, q⟩ => q
      by_cases hb : ∃ j x f k, s = .asgN j x f k
      · obtain ⟨j, x, f, k, rfl⟩ := hb
        simp only [chkSs, Bool.and_eq_true] at h
        obtain ⟨hr, h⟩ := h
        have hr := List.isEmpty_iff.mp hr
        subst hr
        unfold chkBk at h
        split at h
        · simp only [Bool.and_eq_true, decide_eq_true_eq] at h
          obtain ⟨⟨⟨⟨⟨⟨⟨⟨⟨⟨⟨⟨⟨⟨h0, h1⟩, rfl⟩, rfl⟩, rfl⟩, rfl⟩, h2⟩, rfl⟩, rfl⟩, h3⟩, h4⟩, h5⟩, h6⟩, h7⟩, h8⟩ := h
          split at h1
          · rename_i i hi
            simp only [Bool.and_eq_true, decide_eq_true_eq] at h1
            obtain ⟨⟨b1, rfl⟩, rfl⟩ := h1
            exact ss_book hs h0 hi b1 h2 h3 h4 h5 h6 (sEs _ sc _ X M W hs.x h7) (sEs _ sc _ X M W hs.x h8)
          · cases h1
        · cases h
      have ha' : ∀ j x f k, s ≠ .asgN j x f k := fun j x f k z => hb ⟨j, x, f, k, z⟩
      cases sts with
      | nil => exact (chkSs_nil hn' hv ha' h).elim
      | cons st rest =>
        rw [chkSs_cons hn' hv ha', Bool.and_eq_true] at h
        exact ss_cons hn' (sS s g sc st X M W hs h.1) (sSs r g sc rest X M W hs h.2)
end
end Ad
set_option Elab.async false
set_option linter.all false
set_option maxRecDepth 100000
set_option maxHeartbeats 4000000
/-! Functions: the evaluator's calls, the model's. -/
namespace Ad
open PySem PySem.Spec PyProof.Rows L2
/-- a def of the text and its IR -/
def FnF (w : World) (K : Fr) (mg : Str → Option Value) (g : Gc) (fn : Fn) (a : Addr) : Prop :=
  ∃ (qual : Str) (params : Arguments) (body : List Stmt) (scope : Scope) (kws : List (Str × V)) (fd : FuncData) (ds : List Value) (dvs : List V),
    FunD K fn.name qual params body scope [] kws a fd ∧ FnScope fn.N fn.ps scope ∧ Binds K fd fn.ps ds ∧ Vals dvs ds ∧ RepL w K (fun _ => none) dvs (kwArgs fn.kwd []) ∧ mg fn.name = some (.ref a) ∧
    chkSs { g with N := fn.N, calm := true } scope fn.body body = true ∧ ∀ kn, g.kw.lookup fn.name = some kn → fn.kwd.map (·.1) = [kn] ∧ KBn K fd fn.ps (fn.ps.length - 1) [kn] (fun us ws => us ++ ws) (fun us ws => us ++ ws)
/-- the module -/
structure ModF (w : World) (K : Fr) (mg : Str → Option Value) (g : Gc) (Γ : List Fn) (fa : Nat → Option Addr) (cls : Str → Option Addr) : Prop where
  lst : LstOk K
  py : PyK K mg
  glob : ∀ x d, g.G.lookup x = some d → ∃ v u, mg x = some u ∧ RelV v u ∧ Rep w K (fun _ => none) v d
  blt : ∀ x ∈ builtins, mg x = none
  nm : g.fn = Γ.map (·.name)
  fn : ∀ f fn, Γ[f]? = some fn → ∃ a, fa f = some a ∧ FnF w K mg g fn a
  xs : ∀ x ∈ g.xs, ∃ C, cls x = some C ∧ XPl K mg x C
  xi : ∀ x f, g.xi.lookup x = some f → ∃ C fI fd, cls x = some C ∧ mg x = some (.ref C) ∧ OexC K C ∧ PySem.W.findIn K (.ref C) "__init__" = some (some (.ref fI)) ∧ PySem.W.typeIn K (.ref fI) = some (.type "function") ∧
    Binds K fd ["self", f] [] ∧ (∀ P base, FnOk P w K mg base (CX P w) 1 fI fd ["self", f] (spI K f)) ∧ PySem.W.findIn K (.ref C) f = some none
  hd : ∀ x cs, g.hd.lookup x = some cs → ∃ c, mg x = some (.ref c) ∧ ∀ k C, cls k = some C → PySem.W.exmOne K (.ref C) (.ref c) = some (cs.contains k) ∧ PySem.W.kitOne K (.ref C) (.ref c) = some (cs.contains k) ∧ ExcC K C ∧ ∀ f ∈ fldN, PySem.W.findIn K (.ref C) f = some none
  ve : ∀ k C, cls k = some C → PySem.W.kitOne K (.ref C) (.type "ValueError") = some true ∧ (g.hd.map (·.1)).contains k = true ∧ ExcC K C
/-- a function at depth n -/
def rn (Γ : List Fn) (n : Nat) (fn : Fn) : List D → R D := match n with
  | 0 => fun _ => .bad
  | m + 1 => runF (callF Γ m) fn
/-- all functions, at depth n -/
def FnAll (P : Program) (w : World) (K : Fr) (mg : Str → Option Value) (base : Heap) (g : Gc) (Γ : List Fn) (fa : Nat → Option Addr) (cls : Str → Option Addr) (n : Nat) : Prop := ∀ (f : Nat) (fn : Fn), Γ[f]? = some fn → ∃ a fd ds dvs, fa f = some a ∧ FnOk P w K mg base (CX P w) (4 * n + 42) a fd fn.ps (spOf w K cls (rn Γ n fn)) ∧ Binds K fd fn.ps ds ∧ Vals dvs ds ∧ RepL w K (fun _ => none) dvs (kwArgs fn.kwd []) ∧ mg fn.name = some (.ref a) ∧ PySem.W.keepIn K (.ref a) = true ∧ (∀ kn, g.kw.lookup fn.name = some kn → fn.kwd.map (·.1) = [kn] ∧ KBn K fd fn.ps (fn.ps.length - 1) [kn] (fun us ws => us ++ ws) (fun us ws => us ++ ws)) ∧ ∃ qual params body scope kws, FunD K fn.name qual params body scope [] kws a fd
structure ModB (w : World) (K : Fr) (mg : Str → Option Value) (g : Gc) (Γ : List Fn) (fa : Nat → Option Addr) (cls : Str → Option Addr) : Prop where
  m : ModF w K mg g Γ fa cls
  bk : ∀ i, g.bk = some i → ∀ P base n, P.given.tree = none → FnAll P w K mg base g Γ fa cls n → BkY P w K mg base cls (callF Γ n) i (4 * n + 44)
theorem callF_rn {Γ : List Fn} {n f : Nat} {fn : Fn} (h : Γ[f]? = some fn) (as : List D) : callF Γ n f as [] = rn Γ n fn (as ++ kwArgs fn.kwd []) := by
  cases n with
  | zero => rfl
  | succ m => simp only [callF, h, rn, List.all_nil, if_true]
theorem callF_kw {Γ : List Fn} {n f : Nat} {fn : Fn} {kn : Str} (h : Γ[f]? = some fn) (hk : fn.kwd.map (·.1) = [kn]) (as : List D) (v : D) : callF Γ n f as [(kn, v)] = rn Γ n fn (as ++ [v]) := by
  match hq : fn.kwd, hk with
  | [(k0, d0)], hk =>
    simp only [List.map_cons, List.map_nil, List.cons.injEq, and_true] at hk
    subst hk
    have e : (k0 == k0) = true := beq_self_eq_true k0
    cases n with
    | zero => rfl
    | succ m => simp only [callF, h, rn, hq, List.all_cons, List.all_nil, List.lookup_cons, e, Option.isSome_some, Bool.and_self, if_true, kwArgs]
theorem startS_len {N : List Str} {ds : List D} : (startS N ds).length = ds.length + (N.length - ds.length) := by simp [startS]
theorem ok_start {w : World} {K : Fr} {M : Pm} {F H : Hp} {N : List Str} {vs : List V} {ds : List D} (hF : Sub F H) (hZ : M.Z = ⟨F, H⟩) (r : RepL w K F vs ds) : Ok w K M F H (L2.start N vs) (startS N ds) where
  sub := hF
  base := by rw [hZ]; exact .refl
  baseF := by rw [hZ]; exact .refl
  grow := fun a h => by rw [hZ]; exact .inl h
  len := by unfold startS L2.start; simp [r.length]
  slot := fun i s e => by
    unfold startS at e
    by_cases hi : i < ds.length
    · rw [List.getElem?_append_left (by simpa using hi), List.getElem?_map, List.getElem?_eq_getElem hi] at e
      cases e
      obtain ⟨v, e1, r1⟩ := r.get (i := i) (d := ds[i]) (List.getElem?_eq_getElem hi)
      refine ⟨v, ?_, r1⟩
      unfold L2.start
      rw [List.getElem?_append_left (by rw [List.length_map, r.length]; exact hi), List.getElem?_map, e1]
      rfl
    · rw [List.getElem?_append_right (by simpa using hi), List.getElem?_replicate] at e
      split at e
      · cases e; trivial
      · cases e
  sep := fun i j s t p q hij e1 e2 h1 h2 e3 e4 => by
    exfalso
    unfold startS at e1
    by_cases hi : i < ds.length
    · rw [List.getElem?_append_left (by simpa using hi), List.getElem?_map, List.getElem?_eq_getElem hi] at e1
      cases e1; cases h1
    · rw [List.getElem?_append_right (by simpa using hi), List.getElem?_replicate] at e1
      split at e1
      · cases e1; cases h1
      · cases e1
theorem Fin.ext {M : Pm} {F H F' H' : Hp} (hZ : M.Z = ⟨F, H⟩) (f : Fin M F' H') (s : Sub F F') : Ext F H F' H' := ⟨by have := f.base; rw [hZ] at this; exact this, s, f.sub, fun a h => by have := f.grow a h; rw [hZ] at this; exact this⟩
section
variable {P : Program} {w : World} {K : Fr} {mg : Str → Option Value} {base : Heap} {g : Gc} {Γ : List Fn} {fa : Nat → Option Addr} {cls : Str → Option Addr}
theorem hs_of (ht : P.given.tree = none) (mf : ModF w K mg g Γ fa cls) {n : Nat} (FA : FnAll P w K mg base g Γ fa cls n) {N ps : List Str} {qual : Str} {scope : Scope} (h2 : FnScope N ps scope) {a : Addr} {cdv : Value} {A : Around} {outer : List Env} {s : Shared} {H : Hp} {E : XK} (hr : Room (4 * n + 42) (A.deeper (envOfC qual scope s.heap.objs.size a cdv)))
    {Z : Zt} {mfn : Nat → Option Addr} (hfn : ∀ f x, fa f = some x → mfn f = some x) {sl : Bool} {bo : Option Nat} (hbk : ∀ i, bo = some i → BkX (cxOf (CX P w) P w K mg base N qual scope a cdv A outer s H E) cls (callF Γ n) i) :
    Hs { g with N := N, calm := true, slf := sl, bk := bo } scope (cxOf (CX P w) P w K mg base N qual scope a cdv A outer s H E) ⟨Z, mfn, cls, none⟩ (fun c d _ H => E c d H) (callF Γ n) where
  x := {
    N := rfl
    nd := h2.nd
    sc := rfl
    kind := h2.kind
    calm := rfl
    tk := takes_of rfl rfl rfl rfl
    un := by have := hr.un; show (A.deeper _).units + 200 < cLine; omega
    lst := mf.lst
    py := ⟨mf.py, by have := hr.dp; show (A.deeper _).depth + 100 < _; omega, ht, fun l e => by
      have e : A.frames.map (_ :: ·) = some l := e
      cases q : A.frames with
      | none => rw [q] at e; cases e
      | some r =>
        rw [q] at e
        exact ⟨_, r, (Option.some.inj e).symm, h2.gen, h2.co, rfl, rfl⟩⟩
    glob := mf.glob
    blt := mf.blt
    hd := mf.hd
    bk := fun _ => hbk
    ve := mf.ve
    fnk := fun _ f' x kn hf hk => by
      have hf : g.fn[f']? = some x := hf
      rw [mf.nm, List.getElem?_map] at hf
      cases q : Γ[f']? with
      | none => rw [q] at hf; cases hf
      | some fn' =>
        rw [q] at hf
        simp only [Option.map_some, Option.some.injEq] at hf
        subst hf
        obtain ⟨a', fd', ds', dvs', k1, k2, k3, k4, k5, k6, k7, k8, _⟩ := FA f' fn' q
        obtain ⟨k9, k10⟩ := k8 kn hk
        refine ⟨4 * n + 42, a', fd', fn'.ps, rn Γ n fn', k6, k7, hr, k2, k10, fun as v => ?_⟩
        exact callF_kw q k9 as v
    exq := fun a C d e _ => nomatch e
    fn := fun _ f' x hf => by
      have hf : g.fn[f']? = some x := hf
      rw [mf.nm, List.getElem?_map] at hf
      cases q : Γ[f']? with
      | none => rw [q] at hf; cases hf
      | some fn' =>
        rw [q] at hf
        simp only [Option.map_some, Option.some.injEq] at hf
        subst hf
        obtain ⟨a', fd', ds', dvs', k1, k2, k3, k4, k5, k6, k7, _⟩ := FA f' fn' q
        exact ⟨4 * n + 42, a', fd', fn'.ps, dvs', ds', kwArgs fn'.kwd [], rn Γ n fn', k6, hfn _ _ k1, k7, hr, k2, k3, k4, k5, fun as => callF_rn q as⟩ }
  po := passes_of rfl
  fn := fun _ => rfl
  exc := fun _ => rfl
  stk := rfl
  frm := rfl
  xs := mf.xs
  xi := fun _ x f hx => by
    obtain ⟨C, fI, fd', k1, k2, k3, k4, k5, k6, k7, k8⟩ := mf.xi x f hx
    exact ⟨C, fI, fd', k1, k2, k3, k4, k5, k6, Room.mono hr (by omega), k7 P base, k8⟩
theorem fn_all (ht : P.given.tree = none) (mb : ModB w K mg g Γ fa cls) : ∀ n : Nat, FnAll P w K mg base g Γ fa cls n
  | 0, f, fn, h => by
    obtain ⟨a, ha, qual, params, body, scope, kws, fd, ds, dvs, h1, h2, h3, h4, h5, h6, h7, hK⟩ := mb.m.fn f fn h
    refine ⟨a, fd, ds, dvs, ha, ⟨fun vs H Q E z => ?_, fun A outer s H args us vs Q E _ _ _ _ z => ?_⟩, h3, h4, h5, h6, h1.kp, hK, _, _, _, _, _, h1⟩
    · obtain ⟨F, ds, _, _, z⟩ := z; exact z.elim
    · obtain ⟨F, ds, _, _, z⟩ := z; exact z.elim
  | n + 1, f, fn, h => by
    obtain ⟨a, ha, qual, params, body, scope, kws, fd, ds, dvs, h1, h2, h3, h4, h5, h6, h7, hK⟩ := mb.m.fn f fn h
    refine ⟨a, fd, ds, dvs, ha, ?_, h3, h4, h5, h6, h1.kp, hK, _, _, _, _, _, h1⟩
    rw [show 4 * (n + 1) + 42 = 4 * n + 45 + 1 by omega]
    refine h1.ok h2 (fun vs H Q E z => ?_) (fun cdv A outer s H vs Q E hr z => ?_)
    · obtain ⟨F, dd, _, r, z⟩ := z
      rw [r.length]
      simp only [rn, runF] at z
      by_cases c : dd.length = fn.ps.length
      · exact c
      · rw [if_neg c] at z; exact z.elim
    · obtain ⟨F, dd, hF, r, z⟩ := z
      have hs := hs_of (A := A) (qual := qual) (a := a) (cdv := cdv) (outer := outer) (s := s) (H := H) (E := E) (Z := ⟨F, H⟩) (mfn := fa) (sl := g.slf) (bo := g.bk) ht mb.m (fn_all ht mb n) h2 (hr.mono (by omega)) (fun _ _ z => z) (fun i hi => ⟨4 * n + 44, hr, mb.bk i hi P base n ht (fn_all ht mb n)⟩)
      refine ⟨_, sSs fn.body _ scope body _ _ _ hs h7, startS fn.N dd, F, ok_start hF rfl r, ?_⟩
      simp only [rn, runF] at z
      by_cases c : dd.length = fn.ps.length
      · rw [if_pos c] at z
        cases q : evSs (callF Γ n) (startS fn.N dd) fn.body with
        | none => rw [q] at z; exact z.elim
        | some o =>
          rw [q] at z
          cases o with
          | nx ρ => exact fun σ F' H' ok s' => z .non F' H' (ok.fin.ext rfl s') (by simp only [Rep])
          | rt d => exact fun v F' H' fin s' rv => z v F' H' (fin.ext rfl s') rv
          | ct ρ => exact z.elim
          | ex c fs ρ => exact fun σ F' H' C dA ok s' hC hD => z F' H' C dA (ok.fin.ext rfl s') hC hD
      · rw [if_neg c] at z; exact z.elim
end
end Ad
set_option linter.all false
set_option maxRecDepth 100000
set_option maxHeartbeats 4000000
/-! How the evaluator runs, equation by equation. -/
namespace Ad
open PySem
theorem n_ok {α β : Type} (a : α) (f : α → R β) : (R.ok a).bind f = f a := rfl
theorem n_bad {α β : Type} (f : α → R β) : (R.bad : R α).bind f = .bad := rfl
theorem n_ex {α β : Type} (c : Str) (fs : List (Str × D)) (f : α → R β) : (R.ex c fs : R α).bind f = .ex c fs := rfl
theorem n_of {α : Type} (a : α) : R.of (some a) = .ok a := rfl
theorem n_lift {α : Type} (ρ : List Sl) (a : α) (f : α → Option Out) : lift ρ (.ok a) f = f a := rfl
theorem n_liftx {α : Type} (ρ : List Sl) (c : Str) (fs : List (Str × D)) (f : α → Option Out) : lift ρ (.ex c fs) f = some (.ex c fs ρ) := rfl
theorem n_fv (d : D) : (Md.v).fin d = .ok d := rfl
theorem n_fr (d : D) : (Md.r).fin d = .ok d := rfl
theorem n_ft (d : D) : (Md.t).fin d = if tok d then .ok (.bool (truth d)) else .bad := by unfold Md.fin; rfl
theorem n_sv : (Md.v).sub = .v := rfl
theorem n_sr : (Md.r).sub = .v := rfl
theorem n_st : (Md.t).sub = .t := rfl
theorem n_tokb (b : Bool) : tok (.bool b) = true := rfl
theorem n_toki (b : Int) : tok (.int b) = true := rfl
theorem n_tokl (b : List D) : tok (.list b) = true := rfl
theorem n_tokt (b : List D) : tok (.tuple b) = true := rfl
theorem n_tokn : tok .none = true := rfl
theorem n_trb (b : Bool) : truth (.bool b) = b := rfl
theorem n_trl (b : List D) : truth (.list b) = !b.isEmpty := rfl
theorem n_trt (b : List D) : truth (.tuple b) = !b.isEmpty := rfl
theorem n_tri (i : Int) : truth (.int i) = (i != 0) := rfl
theorem n_ert (d : D) : endF (some (.rt d)) = .ok d := rfl
theorem n_enx (ρ : List Sl) : endF (some (.nx ρ)) = .ok .none := rfl
theorem n_eex (c : Str) (fs : List (Str × D)) (ρ : List Sl) : endF (some (.ex c fs ρ)) = .ex c fs := rfl
/-- a statement, and on -/
theorem n_nx {cl : Nat → List D → List (Str × D) → R D} {ρ ρ' : List Sl} {s : S} {r : List S} (hs : ∀ i, s ≠ .frz i) (h : evS cl ρ s = some (.nx ρ')) : evSs cl ρ (s :: r) = evSs cl ρ' r := by
  cases s <;> first | exact absurd rfl (hs _) | simp only [evSs, h]
theorem n_rt {cl : Nat → List D → List (Str × D) → R D} {ρ : List Sl} {s : S} {r : List S} {d : D} (hs : ∀ i, s ≠ .frz i) (h : evS cl ρ s = some (.rt d)) : evSs cl ρ (s :: r) = some (.rt d) := by
  cases s <;> first | exact absurd rfl (hs _) | simp only [evSs, h]
theorem n_xx {cl : Nat → List D → List (Str × D) → R D} {ρ ρ' : List Sl} {s : S} {r : List S} {c : Str} {fs : List (Str × D)} (hs : ∀ i, s ≠ .frz i) (h : evS cl ρ s = some (.ex c fs ρ')) : evSs cl ρ (s :: r) = some (.ex c fs ρ') := by
  cases s <;> first | exact absurd rfl (hs _) | simp only [evSs, h]
theorem n_frz {cl : Nat → List D → List (Str × D) → R D} {ρ : List Sl} {i : Nat} {d : D} {r : List S} (h : ρ[i]? = some (.ow d)) : evSs cl ρ (.frz i :: r) = evSs cl (ρ.set i (.fz d)) r := by simp only [evSs, h]
theorem n_frzF {cl : Nat → List D → List (Str × D) → R D} {ρ : List Sl} {i : Nat} {d : D} {r : List S} (h : ρ[i]? = some (.fz d)) : evSs cl ρ (.frz i :: r) = evSs cl ρ r := by simp only [evSs, h]
theorem call1 {Γ : List Fn} {n f : Nat} {fn : Fn} (h : Γ[f]? = some fn) (hk : fn.kwd = []) (ds : List D) : callF Γ (n + 1) f ds [] = runF (callF Γ n) fn ds := by
  simp only [callF, h, hk, List.all_nil, if_true, kwArgs, List.append_nil]
theorem callK {Γ : List Fn} {n f : Nat} {fn : Fn} (h : Γ[f]? = some fn) (ds : List D) : callF Γ (n + 1) f ds [] = runF (callF Γ n) fn (ds ++ kwArgs fn.kwd []) := by
  simp only [callF, h, List.all_nil, if_true]
/-! ### operations -/
theorem n_addI (i j : Int) : binD .Add (.int i) (.int j) = .ok (.int (i + j)) := rfl
theorem n_subI (i j : Int) : binD .Sub (.int i) (.int j) = .ok (.int (i - j)) := rfl
theorem n_modI (i j : Int) (h : j ≠ 0) : binD .Mod (.int i) (.int j) = .ok (.int (i.fmod j)) := if_pos h
theorem n_mulI (i j : Int) (h : mulB i j = true) : binD .Mult (.int i) (.int j) = .ok (.int (i * j)) := if_pos h
theorem mulB_l {i j : Int} (h : i.natAbs.log2 < 60) : mulB i j = true := by unfold mulB; rw [decide_eq_true h]; rfl
theorem mulB_r {i j : Int} (h : j.natAbs.log2 < 60) : mulB i j = true := by unfold mulB; rw [decide_eq_true h, Bool.or_true]; rfl
theorem n_divI (i j : Int) (h : j ≠ 0) : binD .FloorDiv (.int i) (.int j) = .ok (.int (i.fdiv j)) := if_pos h
theorem n_addT (xs ys : List D) (h : xs.length + ys.length ≤ line) : binD .Add (.tuple xs) (.tuple ys) = .ok (.tuple (xs ++ ys)) := if_pos h
theorem n_addL (xs ys : List D) (h : xs.length + ys.length ≤ line) : binD .Add (.list xs) (.list ys) = .ok (.list (xs ++ ys)) := if_pos h
theorem n_lt (i j : Int) : cmpD .Lt (.int i) (.int j) = .ok (decide (i < j)) := rfl
theorem n_gt (i j : Int) : cmpD .Gt (.int i) (.int j) = .ok (decide (j < i)) := rfl
theorem n_le (i j : Int) : cmpD .LtE (.int i) (.int j) = .ok (!decide (j < i)) := rfl
theorem n_ge (i j : Int) : cmpD .GtE (.int i) (.int j) = .ok (!decide (i < j)) := rfl
theorem n_eq (a b : D) (h : eqOk a = true) (h' : eqOk b = true) : cmpD .Eq a b = .ok (PyData.eqv a b) := by simp only [cmpD, h, h', Bool.and_self, if_true]
theorem n_ne (a b : D) (h : eqOk a = true) (h' : eqOk b = true) : cmpD .NotEq a b = .ok (!PyData.eqv a b) := by simp only [cmpD, h, h', Bool.and_self, if_true]
theorem n_in (a b : D) : cmpD .In a b = inD a b := by cases a <;> rfl
theorem n_nin (a b : D) : cmpD .NotIn a b = (inD a b).bind fun t => .ok (!t) := by cases a <;> rfl
theorem n_idxL (xs : List D) (i : Int) : idxD (.list xs) (.int i) = .of (at? xs i) := rfl
theorem n_idxT (xs : List D) (i : Int) : idxD (.tuple xs) (.int i) = .of (at? xs i) := rfl
theorem n_at {α : Type} {xs : List α} {i : Nat} {x : α} (h : xs[i]? = some x) : at? xs (i : Int) = some x := by
  unfold at? ixOf
  have hl : i < xs.length := (List.getElem?_eq_some_iff.mp h).1
  rw [if_pos (by omega), if_pos (by omega)]
  simpa using h
/-- a comprehension -/
theorem filtD_eq {α : Type} {f : D → R (Option α)} {h : D → Option α} : ∀ {ds : List D}, (∀ d ∈ ds, f d = .ok (h d)) → filtD f ds = .ok (ds.filterMap h)
  | [], _ => rfl
  | d :: r, H => by
    rw [filtD, H d List.mem_cons_self]
    simp only [filtD_eq (fun e he => H e (List.mem_cons_of_mem _ he)), n_ok]
    cases q : h d with
    | none => simp [List.filterMap_cons, q]
    | some x => simp [List.filterMap_cons, q]
theorem n_lc {cl : Nat → List D → List (Str × D) → R D} {ρ : List Sl} {m : Md} {elt : E} {t : T} {it : I} {ifs : List E} {own : List Nat} {ds : List D} (P : D → Bool) (f : D → D) (hI : evI cl ρ .r it = .ok ds)
    (hB : ∀ d ∈ ds, ∃ ρ', bindT (wipeS (lend ρ) own) t d = some ρ' ∧ evFs cl ρ' ifs = .ok (P d) ∧ (P d = true → ev cl ρ' .v elt = .ok (f d))) (hl : ds.length ≤ line) : ev cl ρ m (.lc elt t it ifs own) = m.fin (.list ((ds.filter P).map f)) := by
  simp only [ev, hI, n_ok]
  rw [filtD_eq (h := fun d => if P d then some (f d) else none)]
  · have e : fits ds.length = true := decide_eq_true hl
    rw [n_ok, if_pos e]
    congr 2
    clear hB hI hl e
    induction ds with
    | nil => rfl
    | cons y r ih =>
      simp only [List.filterMap_cons, List.filter_cons]
      cases P y with
      | true => simp [ih]
      | false => simp [ih]
  · intro d hd
    obtain ⟨ρ', h1, h2, h3⟩ := hB d hd
    simp only [h1, h2, n_ok]
    cases q : P d with
    | true => simp only [h3 q, n_ok, if_true]
    | false => rfl
theorem n_call {cl : Nat → List D → List (Str × D) → R D} {ρ : List Sl} {m : Md} {f : Nat} {es : List E} {ds : List D} {r : R D} (h1 : lentDict ρ es = false) (h2 : lentAny ρ es = false) (h3 : evs cl ρ .r es = .ok ds) (h4 : cl f ds [] = r) : ev cl ρ m (.call f es []) = r.bind m.fin := by
  simp only [ev, h1, h2, h3, n_ok, evK, h4, cutR, Bool.false_eq_true, if_false]
/-- a turn -/
def forN (cl : Nat → List D → List (Str × D) → R D) (t : T) (b : List S) (ρ : List Sl) (d : D) : Option Out := match bindT ρ t d with
  | some ρ' => evSs cl ρ' b
  | none => none
section
variable {cl : Nat → List D → List (Str × D) → R D} {ρ : List Sl} {m : Md} {e e2 : E} {r : List E} {b : Bool} {a c : List S}
theorem n_bop {op : BoolOp} {es : List E} {d : R D} (h : evB cl ρ m op es = d) : ev cl ρ m (.bop op es) = d := by simpa only [ev] using h
theorem n_or1 (h : ev cl ρ m.sub e = .ok (.bool true)) : evB cl ρ m .Or (e :: e2 :: r) = .ok (.bool true) := by simp only [evB, h, n_ok, n_tokb, n_trb, if_true]
theorem n_or0 (h : ev cl ρ m.sub e = .ok (.bool false)) : evB cl ρ m .Or (e :: e2 :: r) = evB cl ρ m .Or (e2 :: r) := by simp only [evB, h, n_ok, n_tokb, n_trb, if_true, Bool.false_eq_true, if_false]
theorem n_and0 (h : ev cl ρ m.sub e = .ok (.bool false)) : evB cl ρ m .And (e :: e2 :: r) = .ok (.bool false) := by simp only [evB, h, n_ok, n_tokb, n_trb, if_true, Bool.false_eq_true, if_false]
theorem n_and1 (h : ev cl ρ m.sub e = .ok (.bool true)) : evB cl ρ m .And (e :: e2 :: r) = evB cl ρ m .And (e2 :: r) := by simp only [evB, h, n_ok, n_tokb, n_trb, if_true]
theorem n_b1 {op : BoolOp} {d : R D} (h : ev cl ρ m.sub e = d) : evB cl ρ m op [e] = d := by
  simp only [evB, h]; cases d <;> rfl
theorem n_or2 {x y : Bool} (h : ev cl ρ m.sub e = .ok (.bool x)) (h' : ev cl ρ m.sub e2 = .ok (.bool y)) : ev cl ρ m (.bop .Or [e, e2]) = .ok (.bool (x || y)) := by
  refine n_bop ?_
  cases x with
  | true => rw [n_or1 h]; rfl
  | false => rw [n_or0 h, n_b1 h']; rfl
theorem n_or2c {x y : Bool} (h : ev cl ρ m.sub e = .ok (.bool x)) (h' : x = false → ev cl ρ m.sub e2 = .ok (.bool y)) : ev cl ρ m (.bop .Or [e, e2]) = .ok (.bool (x || y)) := by
  refine n_bop ?_
  cases x with
  | true => rw [n_or1 h]; rfl
  | false => rw [n_or0 h, n_b1 (h' rfl)]; rfl
theorem n_chn {o1 o2 : CmpOp} {e3 : E} {x y z : D} {b1 b2 : Bool} (h1 : ev cl ρ .v e = .ok x) (h2 : ev cl ρ .v e2 = .ok y) (h3 : ev cl ρ .v e3 = .ok z) (c1 : cmpD o1 x y = .ok b1) (c2 : cmpD o2 y z = .ok b2) : ev cl ρ m (.chn o1 o2 e e2 e3) = .ok (.bool (b1 && b2)) := by
  simp only [ev, h1, h2, n_ok, c1]
  cases b1 with
  | true => simp only [if_true, h3, n_ok, c2]; rfl
  | false => rfl
theorem n_and2 {x y : Bool} (h : ev cl ρ m.sub e = .ok (.bool x)) (h' : x = true → ev cl ρ m.sub e2 = .ok (.bool y)) : ev cl ρ m (.bop .And [e, e2]) = .ok (.bool (x && y)) := by
  refine n_bop ?_
  cases x with
  | false => rw [n_and0 h]; rfl
  | true => rw [n_and1 h, n_b1 (h' rfl)]; rfl
theorem n_ite {x y : E} (h : ev cl ρ .t e = .ok (.bool b)) : ev cl ρ m (.ite e x y) = if b then ev cl ρ m.sub x else ev cl ρ m.sub y := by
  simp only [ev, h, n_ok, n_trb]; cases b <;> rfl
theorem n_ite1 {x y : E} (h : ev cl ρ .t e = .ok (.bool true)) : ev cl ρ m (.ite e x y) = ev cl ρ m.sub x := by rw [n_ite h, if_pos rfl]
theorem n_ite0 {x y : E} (h : ev cl ρ .t e = .ok (.bool false)) : ev cl ρ m (.ite e x y) = ev cl ρ m.sub y := by rw [n_ite h]; rfl
theorem n_mtV {q : Mt} {x y : D} (h : ev cl ρ .r e = .ok x) (h' : ev cl ρ .v e2 = .ok y) (hq : q.md = .v) (ht : mtTy q x = true) : ev cl ρ m (.mt q e [e2]) = (mtD q x [y]).bind m.fin := by
  simp only [ev, h, n_ok, ht, if_true, evs, hq, h']
theorem n_evs {x : D} {xs : List D} {es : List E} (h : ev cl ρ m e = .ok x) (h' : evs cl ρ m es = .ok xs) : evs cl ρ m (e :: es) = .ok (x :: xs) := by simp only [evs, h, h', n_ok]
theorem n_lst {xs : List D} {es : List E} (h : evs cl ρ .v es = .ok xs) : ev cl ρ m (.lst es) = m.fin (.list xs) := by simp only [ev, h, n_ok]
theorem n_tup {xs : List D} {es : List E} (h : evs cl ρ .v es = .ok xs) : ev cl ρ m (.tup es) = m.fin (.tuple xs) := by simp only [ev, h, n_ok]
theorem n_if (h : ev cl ρ .t e = .ok (.bool b)) : evS cl ρ (.ifs e a c) = if b then evSs cl ρ a else evSs cl ρ c := by
  simp only [evS, h, n_lift, n_trb]; cases b <;> rfl
theorem n_if1 (h : ev cl ρ .t e = .ok (.bool true)) : evS cl ρ (.ifs e a c) = evSs cl ρ a := by rw [n_if h, if_pos rfl]
theorem n_if0 (h : ev cl ρ .t e = .ok (.bool false)) : evS cl ρ (.ifs e a c) = evSs cl ρ c := by rw [n_if h]; rfl
theorem n_not (h : ev cl ρ .t e = .ok (.bool b)) : ev cl ρ .t (.not e) = .ok (.bool (!b)) := by
  simp only [ev, n_st, h, n_ok, n_tokb, n_trb, if_true]
theorem n_asg {i : Nat} {d : D} (h : ev cl ρ .v e = .ok d) (hi : i < ρ.length) : evS cl ρ (.asg (.nm i) e) = some (.nx (ρ.set i (.fz d))) := by
  simp only [evS, h, n_lift, bindT, hi, if_true, ofNx]
theorem n_ret {d : D} (h : ev cl ρ .v e = .ok d) : evS cl ρ (.ret e) = some (.rt d) := by simp only [evS, h, n_lift]
theorem n_cmp {op : CmpOp} {x y : D} (h : ev cl ρ .r e = .ok x) (h' : ev cl ρ .r e2 = .ok y) : ev cl ρ m (.cmp op e e2) = (cmpD op x y).bind fun t => .ok (.bool t) := by simp only [ev, h, h', n_ok]
theorem n_own {i : Nat} {d : D} (h : ev cl ρ .v e = .ok d) (hm : isMut d = true) (hi : i < ρ.length) : evS cl ρ (.own i e) = some (.nx (ρ.set i (.ow d))) := by
  simp only [evS, h, n_lift, hm, hi, decide_true, Bool.and_self, if_true]
theorem n_app {i : Nat} {d : D} {xs : List D} (hρ : ρ[i]? = some (.ow (.list xs))) (h : ev cl ρ .v e = .ok d) (hl : xs.length < line) : evS cl ρ (.app i (.pure e)) = some (.nx (ρ.set i (.ow (.list (xs ++ [d]))))) := by
  have hL : isLent ρ i = true := by unfold isLent; rw [hρ]
  simp only [evS, hL, if_true, evF, h, n_ok, n_lift, owned, hρ, hl]
/-- i.append(j.pop(e)) -/
theorem n_apop {i j : Nat} {k : Nat} {x : D} {xs ys : List D} (hij : j ≠ i) (hi : ρ[i]? = some (.ow (.list xs))) (hj : ρ[j]? = some (.ow (.list ys))) (h : ev cl ρ .v e = .ok (.int k)) (hy : ys[k]? = some x) (hk : k ≤ line) (hl : xs.length < line) :
    evS cl ρ (.app i (.pop j e)) = some (.nx ((ρ.set j (.ow (.list (ys.eraseIdx k)))).set i (.ow (.list (xs ++ [x]))))) := by
  have hL : isLent ρ i = true := by unfold isLent; rw [hi]
  have hkl : k < ys.length := (List.getElem?_eq_some_iff.mp hy).1
  have hx : ixOf ys.length (k : Int) = some k := by unfold ixOf; rw [if_pos (by omega), if_pos (by omega)]; simp
  have hs : (ρ.set j (.ow (.list (ys.eraseIdx k))))[i]? = some (.ow (.list xs)) := by rw [List.getElem?_set_ne hij]; exact hi
  have hk2 : (k : Int).natAbs ≤ line := by simpa using hk
  simp only [evS, hL, if_true, evF, h, R.nox, n_ok, hj, hk2, hx, hy, n_lift, owned, hs, hl]
theorem n_put {i : Nat} {k v d d' : D} {ek : E} (h : ev cl ρ .v e = .ok v) (hk : ev cl ρ .v ek = .ok k) (hρ : ρ[i]? = some (.ow d)) (hp : putAt d k v = some d') : evS cl ρ (.put i ek e) = some (.nx (ρ.set i (.ow d'))) := by
  simp only [evS, h, n_lift, owned, hρ, hk, hp]
theorem n_for {t : T} {it : I} {ds : List D} (h : evI cl ρ .v it = .ok ds) : evS cl ρ (.forS t it a) = forL (forN cl t a) ds ρ := by
  simp only [evS, h, n_lift]; rfl
theorem n_pr1 {p : Pr} {x : D} (h : ev cl ρ .r e = .ok x) : ev cl ρ m (.pr p [e]) = (prD p [x]).bind m.fin := by simp only [ev, evs, h, n_ok]
theorem n_bin {op : Operator} {x y : D} (h : ev cl ρ .r e = .ok x) (h' : ev cl ρ .r e2 = .ok y) : ev cl ρ m (.bin op e e2) = (binD op x y).bind m.fin := by simp only [ev, h, h', n_ok]
theorem n_addR {x y : Int} (h : ev cl ρ .r e = .ok (.int x)) (h' : ev cl ρ .r e2 = .ok (.int y)) : ev cl ρ .r (.bin .Add e e2) = .ok (.int (x + y)) := by rw [n_bin h h', n_addI]; rfl
theorem n_modR {x y : Int} (h : ev cl ρ .r e = .ok (.int x)) (h' : ev cl ρ .r e2 = .ok (.int y)) (hy : y ≠ 0) : ev cl ρ .r (.bin .Mod e e2) = .ok (.int (x.fmod y)) := by rw [n_bin h h', n_modI _ _ hy]; rfl
theorem n_modV {x y : Int} (h : ev cl ρ .r e = .ok (.int x)) (h' : ev cl ρ .r e2 = .ok (.int y)) (hy : y ≠ 0) : ev cl ρ .v (.bin .Mod e e2) = .ok (.int (x.fmod y)) := by rw [n_bin h h', n_modI _ _ hy]; rfl
theorem n_idx {x y : D} (h : ev cl ρ .r e = .ok x) (h' : ev cl ρ .v e2 = .ok y) : ev cl ρ m (.idx e e2) = (idxD x y).bind m.fin := by simp only [ev, h, h', n_ok]
end
/-- a loop -/
theorem forL_inv {f : List Sl → D → Option Out} (P : Nat → List Sl → Prop) : ∀ (ds : List D) (k : Nat) (ρ : List Sl), P k ρ → (∀ i d ρ, ds[i]? = some d → P (k + i) ρ → ∃ ρ', (f ρ d = some (.nx ρ') ∨ f ρ d = some (.ct ρ')) ∧ P (k + i + 1) ρ') → ∃ ρ', forL f ds ρ = some (.nx ρ') ∧ P (k + ds.length) ρ'
  | [], k, ρ, h, _ => ⟨ρ, rfl, h⟩
  | d :: r, k, ρ, h, H => by
    obtain ⟨ρ1, h1, h2⟩ := H 0 d ρ rfl h
    obtain ⟨ρ2, h3, h4⟩ := forL_inv P r (k + 1) ρ1 h2 fun i e ρ' he hp => by
      have := H (i + 1) e ρ' (by simpa using he) (by rw [show k + (i + 1) = k + 1 + i by omega]; exact hp)
      rw [show k + (i + 1) + 1 = k + 1 + i + 1 by omega] at this
      exact this
    refine ⟨ρ2, ?_, ?_⟩
    · rcases h1 with h1 | h1 <;> simp only [forL, h1, h3]
    · rw [List.length_cons, show k + (r.length + 1) = k + 1 + r.length by omega]; exact h4
/-! ### data that can be compared -/
theorem eqOk_int (i : Int) : eqOk (.int i) = true := rfl
theorem eqOk_none : eqOk .none = true := rfl
theorem eqOk_bool (b : Bool) : eqOk (.bool b) = true := rfl
/-- a loop that may hand back -/
theorem forL_ret {f : List Sl → D → Option Out} (P : Nat → List Sl → Prop) (b : Nat → Bool) (v : D) : ∀ (ds : List D) (k : Nat) (ρ : List Sl), P k ρ →
    (∀ i d ρ, ds[i]? = some d → P (k + i) ρ → (b (k + i) = true → ∃ ρ', f ρ d = some (.nx ρ') ∧ P (k + i + 1) ρ') ∧ (b (k + i) = false → f ρ d = some (.rt v))) →
    (∃ ρ', forL f ds ρ = some (.nx ρ') ∧ P (k + ds.length) ρ' ∧ ∀ i, i < ds.length → b (k + i) = true) ∨ (forL f ds ρ = some (.rt v) ∧ ∃ i, i < ds.length ∧ b (k + i) = false)
  | [], k, ρ, h, _ => .inl ⟨ρ, rfl, h, fun i hi => absurd hi (Nat.not_lt_zero i)⟩
  | d :: r, k, ρ, h, H => by
    obtain ⟨h1, h2⟩ := H 0 d ρ rfl h
    cases q : b (k + 0) with
    | false => exact .inr ⟨by simp only [forL, h2 q], 0, by simp, q⟩
    | true =>
      obtain ⟨ρ1, e1, p1⟩ := h1 q
      have := forL_ret P b v r (k + 1) ρ1 p1 fun i e ρ' he hp => by
        have := H (i + 1) e ρ' (by simpa using he) (by rw [show k + (i + 1) = k + 1 + i by omega]; exact hp)
        rw [show k + (i + 1) = k + 1 + i by omega] at this
        exact this
      rcases this with ⟨ρ2, e2, p2, a2⟩ | ⟨e2, i, hi, a2⟩
      · refine .inl ⟨ρ2, by simp only [forL, e1, e2], ?_, fun i hi => ?_⟩
        · rw [List.length_cons, show k + (r.length + 1) = k + 1 + r.length by omega]; exact p2
        · cases i with
          | zero => exact q
          | succ i => rw [show k + (i + 1) = k + 1 + i by omega]; exact a2 i (by simpa using hi)
      · exact .inr ⟨by simp only [forL, e1, e2], i + 1, by simpa using hi, by rw [show k + (i + 1) = k + 1 + i by omega]; exact a2⟩
theorem rngL_len (c : Int) : ∀ (n : Nat) (a : Int), (rngL a c n).length = n
  | 0, _ => rfl
  | n + 1, a => by simp [rngL, rngL_len c n]
theorem rngL_at : ∀ (n : Nat) (a : Int) (i : Nat) (d : D), (rngL a 1 n)[i]? = some d → d = .int (a + i) ∧ i < n
  | 0, _, _, _, h => by simp [rngL] at h
  | n + 1, a, 0, d, h => by simp [rngL] at h; exact ⟨by rw [← h]; simp, by omega⟩
  | n + 1, a, i + 1, d, h => by
    simp only [rngL, List.getElem?_cons_succ] at h
    obtain ⟨h1, h2⟩ := rngL_at n (a + 1) i d h
    exact ⟨by rw [h1]; congr 1; omega, by omega⟩
end Ad
set_option Elab.async false
set_option linter.all false
set_option maxRecDepth 100000
set_option maxHeartbeats 4000000
/-! A book's keep: its statements by the evaluator. -/
namespace Ad
open PySem
def cSmall : D := .str "abcdefghijklmnopqrstuvwxyz"
def kS1 : S := .ifs (.bop .Or [.not (.isi (.var 1) .str), .not (.chn .LtE .LtE (.lit (.int 1)) (.pr .len [.var 1]) (.gl "MOST_LETTERS" (.int 12))), .cmp .In (.var 1) (.fld 0 "rows")]) [.raise "BadName" ["name"] [.var 1]] []
def kS2 : S := .ifs (.lc (.var 4) (.nm 4) (.seq (.var 1)) [.cmp .NotIn (.var 4) (.gl "SMALL" cSmall)] [4]) [.raise "BadName" ["name"] [.var 1]] []
def kS3 (fl : Nat) : S := .expr (.call fl [.var 2, .var 3] [])
def kS4 (fj : Nat) : S := .ifs (.cmp .NotEq (.call fj [.var 2, .var 3] []) (.lit (.str "yes"))) [.raise "NotSo" [] []] []
def kE1 : E := .tup [.lit (.str "keep"), .var 1]
def kE2 (fw : Nat) : E := .call fw [.fld 0 "rows", .var 1, .tup [.var 2, .var 3]] []
def kRho (z : Str) (p c : D) : List Sl := [.fn 9999, .fz (.str z), .fz p, .fz c, .un]
section
variable (cl : Nat → List D → List (Str × D) → R D) (z : Str) (p c : D)
theorem k_fld (m : Md) : ev cl (kRho z p c) m (.fld 0 "rows") = m.fin (.dict []) := by
  simp only [ev, if_true]; rfl
theorem k1_ev (hz : z.length ≤ 1000) : evS cl (kRho z p c) kS1 = if decide (1 ≤ z.length) && decide (z.length ≤ 12) then some (.nx (kRho z p c)) else some (.ex "BadName" [("name", .str z)] (kRho z p c)) := by
  have h1 : ev cl (kRho z p c) .t (.not (.isi (.var 1) .str)) = .ok (.bool false) := n_not (b := true) rfl
  have h2 : ev cl (kRho z p c) .t (.not (.chn .LtE .LtE (.lit (.int 1)) (.pr .len [.var 1]) (.gl "MOST_LETTERS" (.int 12)))) = .ok (.bool (!(decide (1 ≤ z.length) && decide (z.length ≤ 12)))) := by
    refine n_not ?_
    rw [n_chn (x := .int 1) (y := .int z.length) (z := .int 12) rfl (by
      rw [n_pr1 (x := .str z) rfl]
      simp only [prD, lenD]
      rw [if_pos (by unfold line; omega)]; rfl) rfl (n_le 1 _) (n_le _ 12)]
    congr 3
    · rw [Bool.eq_iff_iff]; simp; omega
    · rw [Bool.eq_iff_iff]; simp; omega
  have h3 : ev cl (kRho z p c) .t (.cmp .In (.var 1) (.fld 0 "rows")) = .ok (.bool false) := by
    rw [n_cmp (x := .str z) (y := .dict []) rfl (k_fld cl z p c .r), n_in]; rfl
  unfold kS1
  cases q : (decide (1 ≤ z.length) && decide (z.length ≤ 12)) with
  | true =>
    rw [q] at h2
    rw [n_if0 (n_bop (by rw [n_or0 (m := .t) h1, n_or0 (m := .t) h2]; exact n_b1 (m := .t) h3))]
    rfl
  | false =>
    rw [q] at h2
    rw [n_if1 (n_bop (by rw [n_or0 (m := .t) h1]; exact n_or1 (m := .t) h2))]
    rfl
def smD : D → Bool
  | .str ⟨⟨[c]⟩⟩ => decide (c ∈ ("abcdefghijklmnopqrstuvwxyz" : Str).cps.toList)
  | _ => false
theorem smD_all : ∀ l : List Nat, (((l.map fun c => PyData.str ⟨#[c]⟩).filter fun d => !smD d).isEmpty) = l.all fun c => decide (c ∈ ("abcdefghijklmnopqrstuvwxyz" : Str).cps.toList)
  | [] => rfl
  | c :: r => by
    rw [List.map_cons, List.filter_cons, List.all_cons, ← smD_all r]
    have e : smD (.str ⟨#[c]⟩) = decide (c ∈ ("abcdefghijklmnopqrstuvwxyz" : Str).cps.toList) := rfl
    rw [e]
    cases decide (c ∈ ("abcdefghijklmnopqrstuvwxyz" : Str).cps.toList) <;> simp
theorem k2_ev (hz : z.length ≤ 1000) : evS cl (kRho z p c) kS2 = if smallB z then some (.nx (kRho z p c)) else some (.ex "BadName" [("name", .str z)] (kRho z p c)) := by
  have h : ev cl (kRho z p c) .t (.lc (.var 4) (.nm 4) (.seq (.var 1)) [.cmp .NotIn (.var 4) (.gl "SMALL" cSmall)] [4]) = .ok (.bool (!smallB z)) := by
    rw [n_lc (ds := z.cps.toList.map fun c => .str ⟨#[c]⟩) (fun d => !smD d) id rfl]
    · rw [n_ft, n_tokl, if_pos rfl, n_trl, List.map_id, smD_all]
      rfl
    · intro d hd
      obtain ⟨x, _, rfl⟩ := List.mem_map.mp hd
      refine ⟨[.fn 9999, .fz (.str z), .fz p, .fz c, .fz (.str ⟨#[x]⟩)], rfl, ?_, fun _ => rfl⟩
      simp only [evFs]
      rw [n_cmp (x := .str ⟨#[x]⟩) (y := cSmall) rfl rfl, n_nin]
      rfl
    · rw [List.length_map]
      have : z.cps.toList.length = z.length := Array.length_toList
      rw [this]; unfold line; omega
  unfold kS2
  cases q : smallB z with
  | true => rw [q] at h; rw [n_if0 h]; rfl
  | false => rw [q] at h; rw [n_if1 h]; rfl
theorem k3_ev {fl : Nat} {d : D} (h : cl fl [p, c] [] = .ok d) : evS cl (kRho z p c) (kS3 fl) = some (.nx (kRho z p c)) := by
  unfold kS3
  simp only [evS]
  rw [n_call (ds := [p, c]) rfl rfl rfl h]; rfl
theorem k4_ev {fj : Nat} (h : cl fj [p, c] [] = .ok (.str "yes")) : evS cl (kRho z p c) (kS4 fj) = some (.nx (kRho z p c)) := by
  unfold kS4
  rw [n_if0 (by rw [n_cmp (x := .str "yes") (y := .str "yes") (by rw [n_call (ds := [p, c]) rfl rfl rfl h]; rfl) rfl, n_ne _ _ (by decide +kernel) (by decide +kernel), show PyData.eqv (.str ("yes" : Str)) (.str ("yes" : Str)) = true by decide +kernel]; rfl)]
  rfl
theorem k5_ev {fw : Nat} {d : D} (h : cl fw [.dict [], .str z, .tuple [p, c]] [] = .ok d) : evs cl (kRho z p c) .v [kE1, kE2 fw] = .ok [.tuple [.str "keep", .str z], d] := by
  have h2 : ev cl (kRho z p c) .v (kE2 fw) = .ok d := by
    unfold kE2
    rw [n_call (ds := [.dict [], .str z, .tuple [p, c]]) rfl rfl (by
      rw [evs, k_fld, n_fr, n_ok]; rfl) h]
    rfl
  rw [evs, evs, h2]
  rfl
end
end Ad
set_option Elab.async false
set_option linter.all false
set_option maxRecDepth 100000
set_option maxHeartbeats 4000000
/-! The class Book: __init__, put. -/
namespace Ad
open PySem PySem.Spec PyProof.Rows L2
/-- what the class has -/
structure BkC (K : Fr) (C : Addr) : Prop where
  cl : Cls K C
  nR : NoAttr K C "rows"
  nC : NoAttr K C "calls"
  nB : NoAttr K C "before"
theorem putF_len (f : Str) (v : V) : ∀ fs : List (Str × V), (putF f v fs).length ≤ fs.length + 1
  | [] => Nat.le_refl _
  | (g, x) :: r => by
    unfold putF
    split
    · simp
    · simp only [List.length_cons]; have := putF_len f v r; omega
theorem bk_len (r : V) (l1 l2 : Addr) : (bkFs r l1 l2).length ≤ 3 := by
  unfold bkFs
  have h1 := putF_len "rows" r []
  have h2 := putF_len "calls" (.ref l1) (putF "rows" r [])
  have h3 := putF_len "before" (.ref l2) (putF "calls" (.ref l1) (putF "rows" r []))
  simp only [List.length_nil] at h1
  omega
theorem putF_rows (r v : V) (l1 l2 : Addr) : putF "rows" v (bkFs r l1 l2) = bkFs v l1 l2 := by
  have h0 : ∀ v : V, putF "rows" v [] = [(("rows" : Str), v)] := fun _ => rfl
  unfold bkFs
  rw [h0, h0]
  simp only [putF]
  rw [if_neg (fun z => sne1 z), if_neg (fun z => sne1 z)]
  simp only [putF]
  rw [if_neg (fun z => sne2 z), if_neg (fun z => sne2 z)]
  simp only [putF]
  rw [if_neg (fun z => sne3 z), if_pos trivial]
def bInitB (body : List Stmt) : Bool := match body with
  | [.Assign [.Attribute (.Name s1 _) f1 _] (.Dict [] [] _) _, .Assign [.Attribute (.Name s2 _) f2 _] (.List [] _) _, .Assign [.Attribute (.Name s3 _) f3 _] (.List [] _) _] =>
    decide (s1 = "self") && decide (s2 = "self") && decide (s3 = "self") && decide (f1 = "rows") && decide (f2 = "calls") && decide (f3 = "before")
  | _ => false
def bPutB (body : List Stmt) : Bool := match body with
  | [.Expr (.Call (.Attribute (.Attribute (.Name s1 _) f1 _) m1 a1) [.Attribute (.Name s2 _) f2 _] [] c1) _, .Expr (.Call (.Attribute (.Attribute (.Name s3 _) f3 _) m3 a3) [.Name x3 _] [] c3) _, .Assign [.Attribute (.Name s4 _) f4 _] (.Name x4 _) _] =>
    decide (s1 = "self") && decide (s2 = "self") && decide (s3 = "self") && decide (s4 = "self") && decide (f1 = "before") && decide (f2 = "rows") && decide (f3 = "calls") && decide (f4 = "rows") && decide (m1 = "append") && decide (m3 = "append") && decide (x3 = "call") && decide (x4 = "rows") && (a1.endLine == c1.line) && (a3.endLine == c3.line)
  | _ => false
section
variable {P : Program} {w : World} {K : Fr} {mg : Str → Option Value} {base : Heap} {C : Addr}
theorem ok_binit {nm qual : Str} {params : Arguments} {body : List Stmt} {scope : Scope} {kws : List (Str × V)} {fI : Addr} {fd : FuncData} (F : FunD K nm qual params body scope [] kws fI fd) (S : FnScope ["self"] ["self"] scope) (hb : bInitB body = true) (T : BkC K C) (k : Nat) :
    FnOk P w K mg base (CX P w) (k + 1) fI fd ["self"] (spBI C) := by
  unfold bInitB at hb
  split at hb
  · rename_i s1 p1 f1 p2 p3 p4 s2 p5 f2 p6 p7 p8 s3 p9 f3 p10 p11 p12
    simp only [Bool.and_eq_true, decide_eq_true_eq] at hb
    obtain ⟨⟨⟨⟨⟨rfl, rfl⟩, rfl⟩, rfl⟩, rfl⟩, rfl⟩ := hb
    have main : ∀ X : Cx, X.N = ([("self" : Str)] : List Str) → X.env.scope = scope → X.K = K → PSs X [.Assign [.Attribute (.Name "self" p1) "rows" p2] (.Dict [] [] p3) p4, .Assign [.Attribute (.Name "self" p5) "calls" p6] (.List [] p7) p8, .Assign [.Attribute (.Name "self" p9) "before" p10] (.List [] p11) p12]
        (tSeq (sFld K (tVar 0) tDNew "rows") (tSeq (sFld K (tVar 0) (tLst tNil) "calls") (sFld K (tVar 0) (tLst tNil) "before"))) := fun X e1 e2 e3 => by
      subst e3
      have v0 : ∀ p, PE X (.Name "self" p) (tVar 0) := fun p => pe_var (by rw [e1]; rfl) (by rw [e2]; exact (S.par _ List.mem_cons_self).elim .inl fun z => .inr (.inl z))
      exact pss_cons (ps_fld (v0 _) pe_dnew rfl) (pss_cons (ps_fld (v0 _) (pe_lst pa_nil) rfl) (pss_one (ps_fld (v0 _) (pe_lst pa_nil) rfl)))
    refine F.ok S (fun vs H Q E z => by obtain ⟨p, dx, rfl, _⟩ := z; rfl) (fun cdv A outer s H vs Q E hr z => ?_)
    obtain ⟨p, dx, rfl, hp, q⟩ := z
    refine ⟨_, main _ rfl rfl rfl, ?_⟩
    intro r nr hsm
    have pr : p ≠ r := ne_of_none hp nr
    refine ⟨_, rfl, p, C, dx, [], rfl, by rw [upd_ne pr]; exact hp, T.cl, T.nR, by decide, ?_⟩
    refine ⟨Nat.zero_le _, fun l1 n1 => ?_⟩
    have l1p : l1 ≠ p := fun z => by subst z; rw [upd_same] at n1; cases n1
    rw [upd_ne l1p] at n1
    have l1r : l1 ≠ r := fun z => by subst z; rw [upd_same] at n1; cases n1
    rw [upd_ne l1r] at n1
    refine ⟨_, rfl, p, C, dx, _, rfl, by rw [upd_ne (Ne.symm l1p), upd_same], T.cl, T.nC, Nat.lt_of_le_of_lt (putF_len _ _ _) (by decide), ?_⟩
    refine ⟨Nat.zero_le _, fun l2 n2 => ?_⟩
    have l2p : l2 ≠ p := fun z => by subst z; rw [upd_same] at n2; cases n2
    rw [upd_ne l2p] at n2
    have l21 : l2 ≠ l1 := fun z => by subst z; rw [upd_same] at n2; cases n2
    rw [upd_ne l21, upd_ne l2p] at n2
    have l2r : l2 ≠ r := fun z => by subst z; rw [upd_same] at n2; cases n2
    rw [upd_ne l2r] at n2
    refine ⟨_, rfl, p, C, dx, _, rfl, by rw [upd_ne (Ne.symm l2p), upd_same], T.cl, T.nB, Nat.lt_of_le_of_lt (putF_len _ _ _) (Nat.lt_of_le_of_lt (Nat.succ_le_succ (putF_len _ _ _)) (by decide)), ?_⟩
    refine q r l1 l2 _ nr n1 n2 (Ne.symm l1r) (Ne.symm l2r) (Ne.symm l21) hsm upd_same ?_ ?_ ?_ fun a o e ha => ?_
    · rw [upd_ne (Ne.symm pr), upd_ne (Ne.symm l2r), upd_ne (Ne.symm pr), upd_ne (Ne.symm l1r), upd_ne (Ne.symm pr), upd_same]
    · rw [upd_ne l1p, upd_ne (Ne.symm l21), upd_ne l1p, upd_same]
    · rw [upd_ne l2p, upd_same]
    · rw [upd_ne ha, upd_ne (ne_of_none e n2), upd_ne ha, upd_ne (ne_of_none e n1), upd_ne ha, upd_ne (ne_of_none e nr)]
      exact e
  · cases hb
def spPut (C : Addr) : Sp := fun vs H Q _ => ∃ (b dx : Addr) (r : V) (l1 l2 : Addr) (v1 v2 : V), vs = [.ref b, v1, v2] ∧ H b = some (.ins C dx (bkFs r l1 l2)) ∧ H l1 = some (.lst []) ∧ H l2 = some (.lst []) ∧ l1 ≠ l2 ∧
  ∀ H', (∀ a o, H a = some o → a ≠ b → a ≠ l1 → a ≠ l2 → H' a = some o) → H' b = some (.ins C dx (bkFs v2 l1 l2)) → Q .non H'
theorem ok_bput {nm qual : Str} {params : Arguments} {body : List Stmt} {scope : Scope} {kws : List (Str × V)} {fP : Addr} {fd : FuncData} (F : FunD K nm qual params body scope [] kws fP fd) (S : FnScope ["self", "call", "rows"] ["self", "call", "rows"] scope) (hb : bPutB body = true) (T : BkC K C) (k : Nat) :
    FnOk P w K mg base (CX P w) (k + 1) fP fd ["self", "call", "rows"] (spPut C) := by
  unfold bPutB at hb
  split at hb
  · rename_i s1 p1 f1 p2 m1 a1 s2 p3 f2 p4 c1 p5 s3 p6 f3 p7 m3 a3 x3 p8 c3 p9 s4 p10 f4 p11 x4 p12 p13
    simp only [Bool.and_eq_true, decide_eq_true_eq] at hb
    obtain ⟨⟨⟨⟨⟨⟨⟨⟨⟨⟨⟨⟨⟨rfl, rfl⟩, rfl⟩, rfl⟩, rfl⟩, rfl⟩, rfl⟩, rfl⟩, rfl⟩, rfl⟩, rfl⟩, rfl⟩, hl1⟩, hl3⟩ := hb
    have main : ∀ X : Cx, X.N = ([("self" : Str), "call", "rows"] : List Str) → X.env.scope = scope → X.K = K → PSs X [.Expr (.Call (.Attribute (.Attribute (.Name "self" p1) "before" p2) "append" a1) [.Attribute (.Name "self" p3) "rows" p4] [] c1) p5, .Expr (.Call (.Attribute (.Attribute (.Name "self" p6) "calls" p7) "append" a3) [.Name "call" p8] [] c3) p9, .Assign [.Attribute (.Name "self" p10) "rows" p11] (.Name "rows" p12) p13]
        (tSeq (tDrop (tBM K "list" rAppend (tFld K (tVar 0) "before") (tCons (tFld K (tVar 0) "rows") tNil))) (tSeq (tDrop (tBM K "list" rAppend (tFld K (tVar 0) "calls") (tCons (tVar 1) tNil))) (sFld K (tVar 0) (tVar 2) "rows"))) := fun X e1 e2 e3 => by
      subst e3
      have vis : ∀ x ∈ ([("self" : Str), "call", "rows"] : List Str), Vis X.env.scope x := fun x hx => by rw [e2]; exact (S.par x hx).elim .inl fun z => .inr (.inl z)
      have v0 : ∀ p, PE X (.Name "self" p) (tVar 0) := fun p => pe_var (by rw [e1]; rfl) (vis _ (by simp))
      have v1 : ∀ p, PE X (.Name "call" p) (tVar 1) := fun p => pe_var (by rw [e1]; rfl) (vis _ (by simp))
      have v2 : ∀ p, PE X (.Name "rows" p) (tVar 2) := fun p => pe_var (by rw [e1]; rfl) (vis _ (by simp))
      refine pss_cons (ps_expr (pe_bm PySem.F.plainAttrs_list PySem.F.slot_list_append PySem.F.type_list_append mt_append (pe_fld (v0 _) rfl) (pa_cons (pe_fld (v0 _) rfl) pa_nil) rfl rfl hl1)) (pss_cons (ps_expr (pe_bm PySem.F.plainAttrs_list PySem.F.slot_list_append PySem.F.type_list_append mt_append (pe_fld (v0 _) rfl) (pa_cons (v1 _) pa_nil) rfl rfl hl3)) (pss_one (ps_fld (v0 _) (v2 _) ?_)))
      rfl
    refine F.ok S (fun vs H Q E z => by obtain ⟨b, dx, r, l1, l2, v1, v2, rfl, _⟩ := z; rfl) (fun cdv A outer s H vs Q E hr z => ?_)
    obtain ⟨b, dx, r, l1, l2, v1, v2, rfl, hB, h1, h2, hne, q⟩ := z
    refine ⟨_, main _ rfl rfl rfl, ?_⟩
    have b1 : b ≠ l1 := ne_of hB h1 (by intro z; cases z)
    have b2 : b ≠ l2 := ne_of hB h2 (by intro z; cases z)
    have s0 : (0 : Nat) < sizeLine := by rw [sizeLine_eq]; decide
    refine ⟨_, rfl, b, C, dx, _, _, rfl, hB, T.cl, T.nB, bk_before _ _ _, .inl ⟨rfl, [], .inl (.inl h2)⟩, ?_⟩
    refine ⟨_, rfl, b, C, dx, _, _, rfl, hB, T.cl, T.nR, bk_rows _ _ _, l2, [], r, rfl, rfl, h2, s0, ?_⟩
    have hB1 : ∀ o, (upd H l2 o) b = some (.ins C dx (bkFs r l1 l2)) := fun o => by rw [upd_ne b2]; exact hB
    have h11 : ∀ o, (upd H l2 o) l1 = some (.lst []) := fun o => by rw [upd_ne hne]; exact h1
    refine ⟨_, rfl, b, C, dx, _, _, rfl, hB1 _, T.cl, T.nC, bk_calls _ _ _, .inl ⟨rfl, [], .inl (.inl (h11 _))⟩, ?_⟩
    refine ⟨v1, rfl, l1, [], v1, rfl, rfl, h11 _, s0, ?_⟩
    refine ⟨v2, rfl, .ref b, rfl, b, C, dx, _, rfl, by rw [upd_ne b1]; exact hB1 _, T.cl, T.nR, Nat.lt_of_le_of_lt (bk_len _ _ _) (by decide), ?_⟩
    refine q _ (fun a o e n1 n2 n3 => ?_) (by rw [upd_same, putF_rows])
    rw [upd_ne n1, upd_ne n2, upd_ne n3]
    exact e
  · cases hb
end
end Ad
set_option Elab.async false
set_option linter.all false
set_option maxRecDepth 100000
set_option maxHeartbeats 400000
/-! The class Book: keep. -/
namespace Ad
open PySem PySem.Spec PyProof.Rows L2
theorem two_of {vs : List V} (h : vs.length = 2) : ∃ v1 v2, vs = [v1, v2] := by
  match vs, h with
  | [a, b], _ => exact ⟨a, b, rfl⟩
def kN : List Str := ["self", "name", "plan", "claim", "sign"]
def bKeepB (g : Gc) (sc : Scope) (i : Nat) (body : List Stmt) : Bool := match body with
  | [s1, s2, s3, s4, .Expr (.Call (.Attribute (.Name v _) m ap) [e1, e2] [] cp) _] => (ap.endLine == cp.line) && chkS g sc kS1 s1 && chkS g sc kS2 s2 && chkS g sc (kS3 (i / 1000000)) s3 && chkS g sc (kS4 (i / 1000 % 1000)) s4 && decide (v = "self") && decide (m = "put") && chkEs g sc [kE1, kE2 (i % 1000)] [e1, e2]
  | _ => false
theorem put_no (r : V) (l1 l2 : Addr) : (bkFs r l1 l2).lookup ("put" : Str) = none := bk_no r l1 l2 (by decide +kernel) (by decide +kernel) (by decide +kernel)
theorem ok_book {w : World} {K : Fr} {M : Pm} {F H : Hp} {b C dx l1 l2 : Addr} {r : V} {z : Str} {vp vc : V} {p c : D} (hF : Sub F H) (hZ : M.Z = ⟨F, H⟩) (hM : M.fn 9999 = some b) (T : BkC K C) (hB : H b = some (.ins C dx (bkFs r l1 l2))) (hR : Rep w K F r (.dict [])) (rp : Rep w K F vp p) (rc : Rep w K F vc c) :
    Ok w K M F H [some (.ref b), some (.str z), some vp, some vc, none] (kRho z p c) where
  sub := hF
  base := by rw [hZ]; exact .refl
  baseF := by rw [hZ]; exact .refl
  grow := fun a h => .inl (by rw [hZ]; exact h)
  len := rfl
  slot := fun i s e => by
    match i, e with
    | 0, e => cases e; exact ⟨b, rfl, hM, C, dx, _, r, hB, T.cl, T.nR, bk_rows _ _ _, hR⟩
    | 1, e => cases e; exact ⟨.str z, rfl, by simp only [Rep]⟩
    | 2, e => cases e; exact ⟨vp, rfl, rp⟩
    | 3, e => cases e; exact ⟨vc, rfl, rc⟩
    | 4, e => cases e; trivial
    | n + 5, e => cases e
  sep := fun i j s t p q hij e1 e2 h1 h2 e3 e4 => by
    exfalso
    match i, e1 with
    | 0, e => cases e; cases h1
    | 1, e => cases e; cases h1
    | 2, e => cases e; cases h1
    | 3, e => cases e; cases h1
    | 4, e => cases e; cases h1
    | n + 5, e => cases e
section
variable {P : Program} {w : World} {K : Fr} {mg : Str → Option Value} {base : Heap} {g : Gc} {Γ : List Fn} {fa : Nat → Option Addr} {cls : Str → Option Addr} {C : Addr}
theorem ok_bkeep (ht : P.given.tree = none) (mf : ModF w K mg g Γ fa cls) {n : Nat} (FA : FnAll P w K mg base g Γ fa cls n) {nm qual : Str} {params : Arguments} {body : List Stmt} {scope : Scope} {kws : List (Str × V)} {fK : Addr} {fd : FuncData} (D0 : FunD K nm qual params body scope [] kws fK fd) (S : FnScope kN kP scope) {i : Nat}
    (hb : bKeepB { g with N := kN, calm := true, slf := true, bk := none } scope i body = true) (T : BkC K C) {fP : Addr} {fdP : FuncData} (mP : Meth K C "put" fP) (FP : FnOk P w K mg base (CX P w) 1 fP fdP ["self", "call", "rows"] (spPut C)) (bP : Binds K fdP ["self", "call", "rows"] []) (hfa : fa 9999 = none) :
    FnOk P w K mg base (CX P w) (4 * n + 43) fK fd kP (spKeep w K cls C (callF Γ n) i) := by
  unfold bKeepB at hb
  split at hb
  · rename_i s1 s2 s3 s4 v q1 m q2 e1 e2 q3 q4
    simp only [Bool.and_eq_true, decide_eq_true_eq] at hb
    obtain ⟨⟨⟨⟨⟨⟨⟨c0, c1⟩, c2⟩, c3⟩, c4⟩, rfl⟩, rfl⟩, c5⟩ := hb
    refine D0.ok S (fun vs H Q E z => by obtain ⟨F, b, l1, l2, z, vp, vc, p, c, rfl, _⟩ := z; rfl) (fun cdv A outer s H vs Q E hr z => ?_)
    obtain ⟨F, b, l1, l2, z, vp, vc, p, c, rfl, hF, B, rp, rc, kz⟩ := z
    obtain ⟨⟨dx, r, hB, hR⟩, h1, h2, hne, f0, f1, f2⟩ := B
    have hs := hs_of (A := A) (qual := qual) (a := fK) (cdv := cdv) (outer := outer) (s := s) (H := H) (E := E) (Z := ⟨F, H⟩) (mfn := fun k => if k = 9999 then some b else fa k) (sl := true) (bo := none) ht mf FA S hr (fun f x hx => by
      by_cases h : f = 9999
      · subst h; rw [hfa] at hx; cases hx
      · rw [if_neg h]; exact hx) (fun i hi => by cases hi)
    have ok0 := ok_book (w := w) (M := ⟨⟨F, H⟩, fun k => if k = 9999 then some b else fa k, cls, none⟩) (z := z) hF rfl (by show (if (9999 : Nat) = 9999 then some b else fa 9999) = some b; rfl) T hB hR rp rc
    have vis : Vis scope "self" := (S.par "self" (by simp [kP])).elim .inl fun z => .inr (.inl z)
    have hse := sEs _ _ _ _ _ _ hs.x c5
    obtain ⟨hp1, hr1⟩ := hse.uncons
    refine ⟨_, pss_cons (sS _ _ _ _ _ _ _ hs c1) (pss_cons (sS _ _ _ _ _ _ _ hs c2) (pss_cons (sS _ _ _ _ _ _ _ hs c3) (pss_cons (sS _ _ _ _ _ _ _ hs c4) (pss_one (ps_expr (pe_methSD (pe_var (i := 0) rfl vis) T.cl mP FP (hr.mono (by omega)) bP .nil (fun σ => passAt hs.x.tk σ) (s_args hse) (star_plain hp1) (hr1.plain _) rfl (few_of (hse.plain _) (by simp)) c0)))))), ?_⟩
    have fx : ∀ {F' H' : Hp} {σ : L2.St} {ρ : List Sl}, Ok w K ⟨⟨F, H⟩, fun k => if k = 9999 then some b else fa k, cls, none⟩ F' H' σ ρ → Sub F F' → Ext F H F' H' := fun ok s' => ok.fin.ext rfl s'
    have bad : ∀ {Ds : Ends}, (∀ F' H' C dA, Ext F H F' H' → cls "BadName" = some C → XD w K F' dA [("name", .str z)] → E (.ref C) dA H') → AfterS (cxOf (CX P w) P w K mg base kN qual scope fK cdv A outer s H E) ⟨⟨F, H⟩, fun k => if k = 9999 then some b else fa k, cls, none⟩ (fun c d _ H => E c d H) F Ds (some (.ex "BadName" [("name", .str z)] (kRho z p c))) := fun hq σ F' H' C dA ok s' hC hD => hq F' H' C dA (fx ok s') hC hD
    unfold keepD at kz
    cases hg : (decide (1 ≤ z.length) && decide (z.length ≤ 12) && smallB z) with
    | false =>
      rw [hg] at kz
      simp only [Bool.false_eq_true, if_false] at kz
      by_cases hl : z.length ≤ 1000
      · rw [if_pos hl] at kz
        refine ⟨kRho z p c, F, ok0, ?_⟩
        rw [k1_ev _ _ _ _ hl]
        cases hg1 : (decide (1 ≤ z.length) && decide (z.length ≤ 12)) with
        | false =>
          rw [if_neg Bool.false_ne_true]
          exact bad kz
        | true =>
          rw [if_pos rfl]
          intro σ F1 H1 ok1 s1'
          refine ⟨kRho z p c, F1, ok1, ?_⟩
          rw [k2_ev _ _ _ _ hl]
          rw [hg1, Bool.true_and] at hg
          rw [hg, if_neg Bool.false_ne_true]
          exact fun σ F' H' C dA ok s' hC hD => kz F' H' C dA (fx ok (s1'.trans s')) hC hD
      · rw [if_neg hl] at kz; exact kz.elim
    | true =>
      rw [hg] at kz
      simp only [if_true] at kz
      simp only [Bool.and_eq_true, decide_eq_true_eq] at hg
      obtain ⟨⟨g1, g2⟩, g3⟩ := hg
      have hl : z.length ≤ 1000 := by omega
      cases w1 : callF Γ n (i / 1000000) [p, c] [] with
      | bad => rw [w1] at kz; exact kz.elim
      | ex x fs => rw [w1] at kz; exact kz.elim
      | ok d1 =>
      rw [w1] at kz
      cases w2 : callF Γ n (i / 1000 % 1000) [p, c] [] with
      | bad => rw [w2] at kz; exact kz.elim
      | ex x fs => rw [w2] at kz; exact kz.elim
      | ok d2 =>
      rw [w2] at kz
      cases d2 with
      | str y =>
        simp only at kz
        cases w3 : (y == ("yes" : Str)) with
        | false => rw [w3] at kz; exact kz.elim
        | true =>
        have ey : y = ("yes" : Str) := eq_of_beq w3
        subst ey
        rw [w3] at kz
        simp only [if_true] at kz
        cases w4 : callF Γ n (i % 1000) [.dict [], .str z, .tuple [p, c]] [] with
        | bad => rw [w4] at kz; exact kz.elim
        | ex x fs => rw [w4] at kz; exact kz.elim
        | ok d3 =>
        rw [w4] at kz
        refine ⟨kRho z p c, F, ok0, ?_⟩
        rw [k1_ev _ _ _ _ hl, decide_eq_true g1, decide_eq_true g2, Bool.and_self, if_pos rfl]
        intro σ1 F1 H1 ok1 s1'
        refine ⟨kRho z p c, F1, ok1, ?_⟩
        rw [k2_ev _ _ _ _ hl, g3, if_pos rfl]
        intro σ2 F2 H2 ok2 s2'
        refine ⟨kRho z p c, F2, ok2, ?_⟩
        rw [k3_ev _ _ _ _ w1]
        intro σ3 F3 H3 ok3 s3'
        refine ⟨kRho z p c, F3, ok3, ?_⟩
        rw [k4_ev _ _ _ _ w2]
        intro σ4 F4 H4 ok4 s4'
        have sF4 : Sub F F4 := s1'.trans (s2'.trans (s3'.trans s4'))
        have x4 := fx ok4 sF4
        obtain ⟨b', k1, k2, _⟩ := ok4.slot 0 (.fn 9999) rfl
        have eb : b = b' := Option.some.inj (show some b = some b' from k2)
        subst eb
        refine ⟨.ref b, k1, b, dx, _, rfl, x4.sub _ _ hB, put_no _ _ _, kRho z p c, F4, ok4, ?_⟩
        rw [k5_ev _ _ _ _ w4]
        intro F5 H5 x5 vs rv
        obtain ⟨v1, v2, rfl⟩ := two_of rv.length
        · have x := x4.trans x5
          refine ⟨b, dx, r, l1, l2, v1, v2, rfl, x.sub _ _ hB, x.sub _ _ h1, x.sub _ _ h2, hne, fun H' hk hb' => ?_⟩
          have no : ∀ {a : Addr}, F a = none → H a ≠ none → F5 a = none := fun ha hh => x.stays ha hh
          have rv2 : Rep w K F5 v2 d3 := by simp only [RepL] at rv; exact rv.2.1
          refine kz F5 H' dx v2 ⟨fun a o e n1 n2 n3 => hk a o (x.sub _ _ e) n1 n2 n3, x.subF, fun a o e => hk a o (x.inn _ _ e) ?_ ?_ ?_, fun a h => (x.grow a h).imp id .inl⟩ hb' rv2
          · intro z; subst z; rw [no f0 (by rw [hB]; intro z; cases z)] at e; cases e
          · intro z; subst z; rw [no f1 (by rw [h1]; intro z; cases z)] at e; cases e
          · intro z; subst z; rw [no f2 (by rw [h2]; intro z; cases z)] at e; cases e
      | none => simp only at kz
      | bool _ => simp only at kz
      | int _ => simp only at kz
      | list _ => simp only at kz
      | tuple _ => simp only at kz
      | dict _ => simp only at kz
  · cases hb
end
end Ad
set_option Elab.async false
set_option linter.all false
set_option maxRecDepth 100000
set_option maxHeartbeats 400000
/-! The class Book: known_row, used, back. -/
namespace Ad
open PySem PySem.Spec PyProof.Rows L2
def rN : List Str := ["self", "name"]
def uN : List Str := ["self", "name", "plan", "picks", "kept", "claim", "one", "number", "step"]
/-- the row of a kept name -/
def spRow (w : World) (K : Fr) (C : Addr) : Sp := fun vs H Q _ => ∃ (F : Hp) (b dx l1 l2 : Addr) (r : V) (z : Str) (kvs : List (D × D)) (d : D), vs = [.ref b, .str z] ∧ Sub F H ∧ H b = some (.ins C dx (bkFs r l1 l2)) ∧ Rep w K F r (.dict kvs) ∧ okK (.str z) kvs = true ∧ findK (.str z) kvs = some d ∧
  ∀ v F' H', Ext F H F' H' → Rep w K F' v d → Q v H'
def rE : E := .not (.isi (.var 1) .str)
def bRowB (g : Gc) (sc : Scope) (body : List Stmt) : Bool := match body with
  | [.If (.BoolOp .Or [e1, .Compare (.Name x1 _) [.NotIn] [.Attribute (.Name s1 _) f1 _] _] _) _ [] _, .Return (some (.Subscript (.Attribute (.Name s2 _) f2 _) (.Name x2 _) _)) _] =>
    chkE g sc rE e1 && decide (x1 = "name") && decide (x2 = "name") && decide (s1 = "self") && decide (s2 = "self") && decide (f1 = "rows") && decide (f2 = "rows")
  | _ => false
section
variable {P : Program} {w : World} {K : Fr} {mg : Str → Option Value} {base : Heap} {g : Gc} {Γ : List Fn} {fa : Nat → Option Addr} {cls : Str → Option Addr} {C : Addr}
theorem ok_some {w : World} {K : Fr} {M : Pm} {F H : Hp} {b : Addr} (hF : Sub F H) (hZ : M.Z = ⟨F, H⟩) : ∀ {vs : List V} {ds : List D}, RepL w K F vs ds → ∀ (n : Nat), Ok w K M F H (some (.ref b) :: (vs.map some ++ List.replicate n none)) (.un :: (ds.map .fz ++ List.replicate n .un)) := fun {vs ds} r n => {
  sub := hF
  base := by rw [hZ]; exact .refl
  baseF := by rw [hZ]; exact .refl
  grow := fun a h => .inl (by rw [hZ]; exact h)
  len := by simp [r.length]
  slot := fun i s e => by
    cases i with
    | zero => cases e; trivial
    | succ i =>
      rw [List.getElem?_cons_succ] at e ⊢
      by_cases h : i < ds.length
      · rw [List.getElem?_append_left (by simpa using h), List.getElem?_map, List.getElem?_eq_getElem h] at e
        cases e
        obtain ⟨v, e1, r1⟩ := r.get (i := i) (d := ds[i]) (List.getElem?_eq_getElem h)
        refine ⟨v, ?_, r1⟩
        rw [List.getElem?_append_left (by rw [List.length_map, r.length]; exact h), List.getElem?_map, e1]
        rfl
      · rw [List.getElem?_append_right (by simpa using h), List.getElem?_replicate] at e
        split at e
        · cases e; trivial
        · cases e
  sep := fun i j s t p q hij e1 e2 h1 h2 e3 e4 => by
    exfalso
    cases i with
    | zero => cases e1; cases h1
    | succ i =>
      rw [List.getElem?_cons_succ] at e1
      by_cases h : i < ds.length
      · rw [List.getElem?_append_left (by simpa using h), List.getElem?_map, List.getElem?_eq_getElem h] at e1
        cases e1; cases h1
      · rw [List.getElem?_append_right (by simpa using h), List.getElem?_replicate] at e1
        split at e1
        · cases e1; cases h1
        · cases e1 }
theorem ok_brow (ht : P.given.tree = none) (mf : ModF w K mg g Γ fa cls) {n : Nat} (FA : FnAll P w K mg base g Γ fa cls n) {nm qual : Str} {params : Arguments} {body : List Stmt} {scope : Scope} {kws : List (Str × V)} {fK : Addr} {fd : FuncData} (D0 : FunD K nm qual params body scope [] kws fK fd) (S : FnScope rN rN scope)
    (hb : bRowB { g with N := rN, calm := true, slf := false, bk := none } scope body = true) (T : BkC K C) : FnOk P w K mg base (CX P w) (4 * n + 43) fK fd rN (spRow w K C) := by
  unfold bRowB at hb
  split at hb
  · rename_i e1 x1 q1 s1 q2 f1 q3 q4 q5 bd q6 s2 q7 f2 q8 x2 q9 q10 q11
    simp only [Bool.and_eq_true, decide_eq_true_eq] at hb
    obtain ⟨⟨⟨⟨⟨⟨c1, rfl⟩, rfl⟩, rfl⟩, rfl⟩, rfl⟩, rfl⟩ := hb
    refine D0.ok S (fun vs H Q E z => by obtain ⟨F, b, dx, l1, l2, r, z, kvs, d, rfl, _⟩ := z; rfl) (fun cdv A outer s H vs Q E hr z => ?_)
    obtain ⟨F, b, dx, l1, l2, r, z, kvs, d, rfl, hF, hB, hR, hk, hf, q⟩ := z
    have hs := hs_of (A := A) (qual := qual) (a := fK) (cdv := cdv) (outer := outer) (s := s) (H := H) (E := E) (Z := ⟨F, H⟩) (mfn := fa) (sl := false) (bo := none) ht mf FA S hr (fun _ _ z => z) (fun i hi => by cases hi)
    have ok0 := ok_some (w := w) (K := K) (M := ⟨⟨F, H⟩, fa, cls, none⟩) (b := b) hF rfl (vs := [.str z]) (ds := [.str z]) (by simp only [RepL, Rep]; exact ⟨trivial, trivial⟩) 0
    have vis : ∀ x ∈ rN, Vis scope x := fun x hx => (S.par x hx).elim .inl fun z => .inr (.inl z)
    have hv0 : ∀ p, PE (cxOf (CX P w) P w K mg base rN qual scope fK cdv A outer s H E) (.Name "self" p) (tVar 0) := fun p => pe_var rfl (vis _ (by simp [rN]))
    have hv1 : ∀ p, PE (cxOf (CX P w) P w K mg base rN qual scope fK cdv A outer s H E) (.Name "name" p) (tVar 1) := fun p => pe_var rfl (vis _ (by simp [rN]))
    have hu := hs.x.un
    refine ⟨_, pss_cons (ps_if (pw_or (sE _ _ _ _ _ _ hs.x c1).t (pw_or1 (pt_cmpR (op_cmpD (by omega) hs.x.dr.inn .NotIn) (hv1 _) (pe_fld (hv0 _) rfl) rfl))).pt pss_any pss_nil) (pss_one (ps_ret (pe_ix (ix_D hs.x.dr.ix) (pe_fld (hv0 _) rfl) (hv1 _) (fun _ _ => rfl)))), ?_⟩
    refine ⟨_, F, ok0, ?_⟩
    have e0 : ev (callF Γ n) (.un :: (List.map Sl.fz [.str z] ++ List.replicate 0 .un)) .t rE = .ok (.bool false) := rfl
    rw [e0]
    intro F1 H1 x1
    have hB1 := x1.sub _ _ hB
    have hR1 : Rep w K F1 r (.dict kvs) := Rep.sub x1.subF _ _ hR
    show if truth (.bool false) = true then _ else _
    rw [if_neg (by decide)]
    refine ⟨.str z, rfl, .ref b, rfl, b, C, dx, _, r, rfl, hB1, T.cl, T.nR, bk_rows _ _ _, F1, .str z, .dict kvs, x1.inn, .inl (by simp only [Rep]), .inl hR1, false, ?_, false, rfl, ?_⟩
    · simp only [cmpD, inD]
      rw [if_pos hk, hf]; rfl
    · refine (if_neg Bool.false_ne_true).mpr ?_
      refine ⟨.ref b, rfl, b, C, dx, _, r, rfl, hB1, T.cl, T.nR, bk_rows _ _ _, .str z, rfl, F1, .dict kvs, .str z, x1.inn, .inl hR1, .inl (by simp only [Rep]), ?_⟩
      show Res w K F1 H1 (idxD (.dict kvs) (.str z)) _
      have e : idxD (.dict kvs) (.str z) = .ok d := by
        unfold idxD; simp only; rw [if_pos hk, hf]; rfl
      rw [e]
      exact fun v F2 H2 x2 rv => q v F2 H2 (x1.trans x2) rv
  · cases hb
def uS2 (gl : Nat) : S := .expr (.call gl [.var 2] [])
def uS3 : S := .ifs (.bop .Or [.not (.isi (.var 3) .list), .cmp .NotEq (.pr .len [.var 3]) (.pr .len [.var 4])]) [.raise "BadPicks" [] []] []
def uRho (z : Str) (p : D) (xs ks : List D) (c : D) : List Sl := [.un, .fz (.str z), .fz p, .fz (.list xs), .fz (.tuple ks), .fz c, .un, .un, .un]
theorem uS2_ev {cl : Cl} {gl : Nat} {z : Str} {p c d : D} {xs ks : List D} (h : cl gl [p] [] = .ok d) : evS cl (uRho z p xs ks c) (uS2 gl) = some (.nx (uRho z p xs ks c)) := by
  have e : ev cl (uRho z p xs ks c) .v (.call gl [.var 2] []) = .ok d := by
    simp only [ev]
    show (if false = true then R.bad else R.bind (R.ok [p]) fun ds => (evK cl _ []).bind fun kd => (cutR false (cl gl ds kd)).bind _) = _
    simp only [Bool.false_eq_true, if_false, bind_ok, evK, h]
    rfl
  show lift _ (ev cl (uRho z p xs ks c) .v (.call gl [.var 2] [])) _ = _
  rw [e]; rfl
theorem uS3_ev {cl : Cl} {z : Str} {p c : D} {xs ks : List D} (h : xs.length ≠ ks.length) : evS cl (uRho z p xs ks c) uS3 = some (.ex "BadPicks" [] (uRho z p xs ks c)) := by
  have h1 : ev cl (uRho z p xs ks c) .t (.not (.isi (.var 3) .list)) = .ok (.bool false) := n_not (b := true) rfl
  have h2 : ev cl (uRho z p xs ks c) .t (.cmp .NotEq (.pr .len [.var 3]) (.pr .len [.var 4])) = .ok (.bool true) := by
    rw [n_cmp (x := .int xs.length) (y := .int ks.length) rfl rfl]
    have e : cmpD .NotEq (.int xs.length) (.int ks.length) = .ok true := by
      have e1 : ∀ i : Int, eqOk (.int i) = true := fun _ => rfl
      have e2 : PyData.eqv (.int (xs.length : Int)) (.int (ks.length : Int)) = false := by
        show decide ((xs.length : Int) = (ks.length : Int)) = false
        exact decide_eq_false (by omega)
      simp only [cmpD, e1, e2]
      rfl
    rw [e]; rfl
  unfold uS3
  rw [n_if1 (n_bop (by rw [n_or0 (m := .t) h1]; exact n_b1 (m := .t) h2))]
  rfl
def bUsedB (g : Gc) (sc : Scope) (gl : Nat) (body : List Stmt) : Bool := match body with
  | .Assign [tg] (.Call (.Attribute (.Name v _) m ap) [.Name x p1] [] cp) _ :: s2 :: s3 :: _ => (ap.endLine == cp.line) && plainB tg && chkT g sc (.tp [.nm 4, .nm 5]) tg && decide (v = "self") && decide (m = "known_row") && chkE g sc (.var 1) (.Name x p1) && chkS g sc (uS2 gl) s2 && chkS g sc uS3 s3
  | _ => false
theorem row_no (r : V) (l1 l2 : Addr) : (bkFs r l1 l2).lookup ("known_row" : Str) = none := bk_no r l1 l2 (by decide +kernel) (by decide +kernel) (by decide +kernel)
theorem ok_bused (ht : P.given.tree = none) (mf : ModF w K mg g Γ fa cls) {n : Nat} (FA : FnAll P w K mg base g Γ fa cls n) {nm qual : Str} {params : Arguments} {body : List Stmt} {scope : Scope} {kws : List (Str × V)} {fU : Addr} {fd : FuncData} (D0 : FunD K nm qual params body scope [] kws fU fd) (S : FnScope uN uP scope) {gl : Nat}
    (hb : bUsedB { g with N := uN, calm := true, slf := false, bk := none } scope gl body = true) (T : BkC K C) {fR : Addr} {fdR : FuncData} (mR : Meth K C "known_row" fR) (FR : FnOk P w K mg base (CX P w) (4 * n + 43) fR fdR rN (spRow w K C)) (bR : Binds K fdR rN []) :
    FnOk P w K mg base (CX P w) (4 * n + 44) fU fd uP (spUsed w K cls C (callF Γ n) gl) := by
  unfold bUsedB at hb
  split at hb
  · rename_i tg v q1 m ap x p1 cp q2 s2 s3 rest
    simp only [Bool.and_eq_true, decide_eq_true_eq] at hb
    obtain ⟨⟨⟨⟨⟨⟨⟨c0, c1⟩, c2⟩, rfl⟩, rfl⟩, c3⟩, c4⟩, c5⟩ := hb
    refine D0.ok S (fun vs H Q E z => by obtain ⟨F, b, dx, l1, l2, r, z, vp, vx, kvs, p, c, ks, xs, d, rfl, _⟩ := z; rfl) (fun cdv A outer s H vs Q E hr z => ?_)
    obtain ⟨F, b, dx, l1, l2, r, z, vp, vx, kvs, p, c, ks, xs, d, rfl, hF, hB, hR, rp, rx, hk, hf, hd, hne, q⟩ := z
    have hs := hs_of (A := A) (qual := qual) (a := fU) (cdv := cdv) (outer := outer) (s := s) (H := H) (E := E) (Z := ⟨F, H⟩) (mfn := fa) (sl := false) (bo := none) ht mf FA S (hr.mono (by omega)) (fun _ _ z => z) (fun i hi => by cases hi)
    have ok0 := ok_some (w := w) (K := K) (M := ⟨⟨F, H⟩, fa, cls, none⟩) (b := b) hF rfl (vs := [.str z, vp, vx]) (ds := [.str z, p, .list xs]) (by simp only [RepL]; exact ⟨by simp only [Rep], rp, rx, trivial⟩) 5
    have vis : Vis scope "self" := (S.par "self" (by simp [uP])).elim .inl fun z => .inr (.inl z)
    have hse : SEs (cxOf (CX P w) P w K mg base uN qual scope fU cdv A outer s H E) ⟨⟨F, H⟩, fa, cls, none⟩ (fun c d _ H => E c d H) (callF Γ n) [.var 1] [.Name x p1] := .cons rfl (sE _ _ _ _ _ _ hs.x c3) .nil
    obtain ⟨hp1, hr1⟩ := hse.uncons
    refine ⟨_, pss_cons (ps_asg (pe_methSD (pe_var (i := 0) rfl vis) T.cl mR FR hr bR .nil (fun σ => passAt hs.x.tk σ) (s_args hse) (star_plain hp1) (hr1.plain _) rfl (few_of (hse.plain _) (by simp)) c0) (s_tg hs.hg (hs.x.calm.trans rfl) _ _ c2) (sws_plain rfl) (sst_plain rfl) (by rw [assign_plain c1]; rfl)) (pss_cons (sS _ _ _ _ _ _ _ hs c4) (pss_cons (sS _ _ _ _ _ _ _ hs c5) pss_any)), ?_⟩
    refine ⟨.ref b, rfl, b, dx, _, rfl, hB, row_no _ _ _, _, F, ok0, ?_⟩
    have e0 : evs (callF Γ n) (.un :: (List.map Sl.fz [.str z, p, .list xs] ++ List.replicate 5 .un)) .v [.var 1] = .ok [.str z] := rfl
    rw [e0]
    intro F1 H1 x1 us ru
    obtain ⟨u1, rfl⟩ : ∃ u1, us = [u1] := by
      match us, ru.length with
      | [a1], _ => exact ⟨a1, rfl⟩
    simp only [RepL, Rep] at ru
    obtain ⟨ru1, _⟩ := ru
    subst ru1
    refine ⟨F1, b, dx, l1, l2, r, z, kvs, _, rfl, x1.inn, x1.sub _ _ hB, Rep.sub x1.subF _ _ hR, hk, hf, fun v F2 H2 x2 rv => ?_⟩
    have ok2 := ok0.ext (x1.trans x2)
    refine ⟨_, _, F2, _, uRho z p xs ks c, ok2, .inl rv, rfl, fun σ' ok' _ => ?_⟩
    refine ⟨_, F2, ok', ?_⟩
    rw [uS2_ev hd]
    intro σ3 F3 H3 ok3 s3'
    refine ⟨_, F3, ok3, ?_⟩
    rw [uS3_ev hne]
    intro σ4 F4 H4 C4 dA ok4 s4' hC hD
    exact q F4 H4 C4 dA (ok4.fin.ext rfl ((x1.trans x2).subF.trans (s3'.trans s4'))) hC hD
  · cases hb
def bBackB (g : Gc) (sc : Scope) (body : List Stmt) : Bool := match body with
  | .If (.UnaryOp .Not (.Attribute (.Name v _) f _) _) [s1] [] _ :: _ => decide (v = "self") && decide (f = "calls") && chkS g sc (.raise "Nothing" [] []) s1
  | _ => false
theorem ok_bback (ht : P.given.tree = none) (mf : ModF w K mg g Γ fa cls) {n : Nat} (FA : FnAll P w K mg base g Γ fa cls n) {nm qual : Str} {params : Arguments} {body : List Stmt} {scope : Scope} {kws : List (Str × V)} {fB : Addr} {fd : FuncData} (D0 : FunD K nm qual params body scope [] kws fB fd) (S : FnScope ["self"] ["self"] scope)
    (hb : bBackB { g with N := ["self"], calm := true, slf := false, bk := none } scope body = true) (T : BkC K C) :
    FnOk P w K mg base (CX P w) (4 * n + 43) fB fd ["self"] (spBack w K cls C) := by
  unfold bBackB at hb
  split at hb
  · rename_i v q1 f q2 q3 s1 q4 rest
    simp only [Bool.and_eq_true, decide_eq_true_eq] at hb
    obtain ⟨⟨rfl, rfl⟩, c1⟩ := hb
    refine D0.ok S (fun vs H Q E z => by obtain ⟨F, b, dx, l1, l2, r, rfl, _⟩ := z; rfl) (fun cdv A outer s H vs Q E hr z => ?_)
    obtain ⟨F, b, dx, l1, l2, r, rfl, hF, hB, h1, q⟩ := z
    have hs := hs_of (A := A) (qual := qual) (a := fB) (cdv := cdv) (outer := outer) (s := s) (H := H) (E := E) (Z := ⟨F, H⟩) (mfn := fa) (sl := false) (bo := none) ht mf FA S hr (fun _ _ z => z) (fun i hi => by cases hi)
    have ok0 := ok_some (w := w) (K := K) (M := ⟨⟨F, H⟩, fa, cls, none⟩) (b := b) hF rfl (vs := []) (ds := []) (by simp only [RepL]) 0
    have vis : Vis scope "self" := (S.par "self" (by simp)).elim .inl fun z => .inr (.inl z)
    refine ⟨_, pss_cons (ps_if (pt_not (pt_plain (pe_fld (pe_var (i := 0) rfl vis) rfl) (tru_ok) (fun _ => rfl))) (pss_one (sS _ _ _ _ _ _ _ hs c1)) pss_nil) pss_any, ?_⟩
    refine ⟨.ref b, rfl, b, C, dx, _, _, rfl, hB, T.cl, T.nC, bk_calls _ _ _, ?_⟩
    refine ⟨false, .inl ⟨[], .inl (.inl h1), rfl⟩, ?_⟩
    refine (if_pos (c := (!false) = true) rfl).mpr ?_
    refine ⟨_, F, ok0, ?_⟩
    intro σ' F' H' C' dA ok' s' hC hD
    exact q F' H' C' dA (ok'.fin.ext rfl s') hC hD
  · cases hb
end
end Ad
set_option Elab.async false
set_option linter.all false
set_option maxRecDepth 100000
set_option maxHeartbeats 1000000
/-! A deed of a book. -/
namespace Ad
open PySem PySem.Spec PyProof.Rows L2
def dC : E := .cmp .Eq (.idx (.var 1) (.lit (.int 0))) (.lit (.str "keep"))
def dA : List E := [.idx (.var 1) (.lit (.int 1)), .idx (.var 1) (.lit (.int 2)), .idx (.var 1) (.lit (.int 3))]
def dH : List S := [.ret (.lst [.lit (.str "name"), .fld 2 "name"])]
def dN : List Str := ["book", "deed", "e"]
def dP : List Str := ["book", "deed"]
def dRho (d : D) : List Sl := [.un, .fz d, .un]
section
variable (cl : Nat → List D → List (Str × D) → R D) (z : Str) (p c : D)
theorem dC_ev : ev cl (dRho (.tuple [.str "keep", .str z, p, c])) .t dC = .ok (.bool true) := by
  unfold dC
  rw [n_cmp (x := .str "keep") (y := .str "keep") rfl rfl, n_eq _ _ (by decide +kernel) (by decide +kernel), show PyData.eqv (.str ("keep" : Str)) (.str ("keep" : Str)) = true by decide +kernel]; rfl
theorem dA_ev : evs cl (dRho (.tuple [.str "keep", .str z, p, c])) .v dA = .ok [.str z, p, c] := rfl
theorem dH_ev (d : D) (cs : List Str) (r : List (List Str × Option Nat × List S)) (h : cs.contains ("BadName" : Str) = true) : evH cl (dRho d) "BadName" [("name", .str z)] ((cs, some 2, dH) :: r) = some (.rt (.list [.str "name", .str z])) := by
  rw [evH_cons, if_pos h]
  have e : ev cl [.un, .fz d, .ex "BadName" [("name", .str z)]] .v (.fld 2 "name") = .ok (.str z) := by
    simp only [ev]
    rw [if_neg (by decide +kernel)]
    show (R.of (List.lookup ("name" : Str) [(("name" : Str), PyData.str z)])).bind _ = _
    simp [List.lookup, R.of, R.bind, Md.fin]
  have e2 : evSs cl [.un, .fz d, .ex "BadName" [("name", .str z)]] dH = some (.rt (.list [.str "name", .str z])) := by
    unfold dH
    rw [n_rt (by intro i z; cases z) (n_ret (d := .list [.str "name", .str z]) (by
      rw [n_lst (xs := [.str "name", .str z]) (by rw [evs, evs, e]; rfl)]; rfl))]
  show (if 2 < 3 then unEx 2 (evSs cl [.un, .fz d, .ex "BadName" [("name", .str z)]] dH) else none) = _
  rw [e2]; rfl
theorem keepD_ex {i : Nat} {x : Str} {fs : List (Str × D)} (h : keepD cl i z p c = .ex x fs) : x = "BadName" ∧ fs = [(("name" : Str), PyData.str z)] := by
  unfold keepD at h
  repeat' split at h
  all_goals first | cases h | skip
  all_goals exact ⟨rfl, rfl⟩
end
theorem bkD_shape {cl : Cl} {i : Nat} {d d' : D} (h : bkD cl i [d] = .ok d') : ∃ z p c, d = .tuple [.str "keep", .str z, p, c] ∧ (((∃ dd, keepD cl i z p c = .ok dd) ∧ d' = .none) ∨ (keepD cl i z p c = .ex "BadName" [("name", .str z)] ∧ d' = .list [.str "name", .str z])) := by
  unfold bkD at h
  split at h
  · rename_i k z p c e
    cases hk : (k == ("keep" : Str)) with
    | false => rw [hk] at h; cases h
    | true =>
      rw [hk] at h
      simp only [if_true] at h
      have ek : k = ("keep" : Str) := eq_of_beq hk
      subst ek
      have e : d = .tuple [.str "keep", .str z, p, c] := by injection e
      refine ⟨z, p, c, e, ?_⟩
      cases q : keepD cl i z p c with
      | ok dd =>
        rw [q] at h
        cases h
        exact .inl ⟨⟨dd, rfl⟩, rfl⟩
      | ex x fs =>
        rw [q] at h
        obtain ⟨rfl, rfl⟩ := keepD_ex cl z p c q
        cases h
        exact .inr ⟨rfl, rfl⟩
      | bad => rw [q] at h; cases h
  · cases h
def bDeedB (g : Gc) (sc : Scope) (hds : List (List Str × Option Nat × List S)) (body : List Stmt) : Bool := match body with
  | [.Try (.If cnd [.Return (some (.Call (.Attribute (.Name v _) m ap) [e1, e2, e3] [] cp)) _] [] _ :: rest) (h0 :: hr) [] [] _] => (ap.endLine == cp.line) && decide (v = "book") && decide (m = "keep") && chkE g sc dC cnd && chkEs g sc dA [e1, e2, e3] && chkH g sc hds (h0 :: hr)
  | _ => false
theorem keep_no (r : V) (l1 l2 : Addr) : (bkFs r l1 l2).lookup ("keep" : Str) = none := bk_no r l1 l2 (by decide +kernel) (by decide +kernel) (by decide +kernel)
theorem ExtB.pre {b l1 l2 : Addr} {F H F2 H2 F' H' : Hp} (x : Ext F H F2 H2) (xb : ExtB b l1 l2 F2 H2 F' H') : ExtB b l1 l2 F H F' H' where
  sub := fun a o e n1 n2 n3 => xb.sub a o (x.sub _ _ e) n1 n2 n3
  subF := x.subF.trans xb.subF
  inn := xb.inn
  grow := fun a h => by
    rcases xb.grow a h with h | h | h
    · rcases x.grow a h with h | h
      · exact .inl h
      · exact .inr (.inl h)
    · right; left
      cases e : H a with
      | none => rfl
      | some o => rw [x.sub _ _ e] at h; cases h
    · exact .inr (.inr h)
/-- the heap without the book -/
def hid (b l1 l2 : Addr) (H : Hp) : Hp := fun a => if a = b ∨ a = l1 ∨ a = l2 then none else H a
theorem hid_sub {b l1 l2 : Addr} {H : Hp} : Sub (hid b l1 l2 H) H := fun a o e => by
  unfold hid at e
  split at e
  · cases e
  · exact e
theorem ok_deed0 {w : World} {K : Fr} {F H : Hp} {b l1 l2 : Addr} {fa : Nat → Option Addr} {cls : Str → Option Addr} {v : V} {d : D} (hF : Sub F H) (rv : Rep w K F v d) : Ok w K ⟨⟨F, hid b l1 l2 H⟩, fa, cls, none⟩ F H [some (.ref b), some v, none] (dRho d) where
  sub := hF
  base := hid_sub
  baseF := .refl
  grow := fun a h => .inl h
  len := rfl
  slot := fun i s e => by
    match i, e with
    | 0, e => cases e; trivial
    | 1, e => cases e; exact ⟨v, rfl, rv⟩
    | 2, e => cases e; trivial
    | n + 3, e => cases e
  sep := fun i j s t p q hij e1 e2 h1 h2 e3 e4 => by
    exfalso
    match i, e1 with
    | 0, e => cases e; cases h1
    | 1, e => cases e; cases h1
    | 2, e => cases e; cases h1
    | n + 3, e => cases e
theorem three_of {vs : List V} (h : vs.length = 3) : ∃ v1 v2 v3, vs = [v1, v2, v3] := by
  match vs, h with
  | [a, b, c], _ => exact ⟨a, b, c, rfl⟩
section
variable {P : Program} {w : World} {K : Fr} {mg : Str → Option Value} {base : Heap} {g : Gc} {Γ : List Fn} {fa : Nat → Option Addr} {cls : Str → Option Addr} {C : Addr}
theorem ok_bdeed (ht : P.given.tree = none) (mf : ModF w K mg g Γ fa cls) {n : Nat} (FA : FnAll P w K mg base g Γ fa cls n) {nm qual : Str} {params : Arguments} {body : List Stmt} {scope : Scope} {kws : List (Str × V)} {a : Addr} {fd : FuncData} (D0 : FunD K nm qual params body scope [] kws a fd) (Sc : FnScope dN dP scope) {i : Nat}
    {cs : List Str} {hr0 : List (List Str × Option Nat × List S)} (hcs : cs.contains ("BadName" : Str) = true) (hb : bDeedB { g with N := dN, calm := true, slf := false, bk := none } scope ((cs, some 2, dH) :: hr0) body = true) (T : BkC K C) {fK : Addr} {fdK : FuncData} (mK : Meth K C "keep" fK) (FK : FnOk P w K mg base (CX P w) (4 * n + 43) fK fdK kP (spKeep w K cls C (callF Γ n) i)) (bK : Binds K fdK kP []) :
    FnOk P w K mg base (CX P w) (4 * n + 44) a fd dP (spDeed w K C (bkD (callF Γ n) i)) := by
  unfold bDeedB at hb
  split at hb
  · rename_i cnd v0 q1 m ap e1 e2 e3 cp q2 q3 rest h0 hr1 q4
    simp only [Bool.and_eq_true, decide_eq_true_eq] at hb
    obtain ⟨⟨⟨⟨⟨c0, rfl⟩, rfl⟩, c1⟩, c2⟩, c3⟩ := hb
    refine D0.ok Sc (fun vs H Q E z => by obtain ⟨F, b, l1, l2, v, d, rfl, _⟩ := z; rfl) (fun cdv A outer s H vs Q E hr z => ?_)
    obtain ⟨F, b, l1, l2, v, d, rfl, hF, B, rv, kz⟩ := z
    obtain ⟨⟨dx, r, hB, hR⟩, h1, h2, hne, f0, f1, f2⟩ := B
    have hs := hs_of (A := A) (qual := qual) (a := a) (cdv := cdv) (outer := outer) (s := s) (H := H) (E := E) (Z := ⟨F, hid b l1 l2 H⟩) (mfn := fa) (sl := false) (bo := none) ht mf FA Sc (hr.mono (by omega)) (fun _ _ z => z) (fun i hi => by cases hi)
    have vis : Vis scope "book" := (Sc.par "book" (by simp [dP])).elim .inl fun z => .inr (.inl z)
    obtain ⟨l, k1, k2⟩ := wish_mix hs rfl (sH _ _ _ _ _ _ c3)
    cases q : bkD (callF Γ n) i [d] with
    | bad => rw [q] at kz; exact kz.elim
    | ex x fs => exact absurd q (bkD_no _ _ _)
    | ok d' =>
    rw [q] at kz
    obtain ⟨z, p, c, rfl, hz⟩ := bkD_shape q
    have ok0 := ok_deed0 (w := w) (K := K) (b := b) (l1 := l1) (l2 := l2) (fa := fa) (cls := cls) hF rv
    refine ⟨_, pss_one (ps_try_mix (tb := fun W' D σ H' => σ = [some (.ref b), some v, none] ∧ H' = H ∧ (((∃ dd, keepD (callF Γ n) i z p c = .ok dd) ∧ ∀ F' H', ExtB b l1 l2 F H F' H' → D.rt .non H') ∨
      (keepD (callF Γ n) i z p c = .ex "BadName" [("name", .str z)] ∧ ∀ F' H' C dA, Ext F H F' H' → cls "BadName" = some C → XD w K F' dA [("name", .str z)] → W' (.ref C) dA σ H'))) hs.stk hs.frm Sc.nd hs.x.tk (fun W' pn xe tk po => ?_) k1), ?_⟩
    · have hs' := hs.tr rfl tk po
      have hse := sEs _ _ _ _ _ _ hs'.x c2
      obtain ⟨hp1, hr1⟩ := hse.uncons
      refine PSs.weak (pss_cons (ps_if (sE _ _ _ _ _ _ hs'.x c1).t (pss_one (ps_ret (pe_methSD (pe_var (i := 0) rfl vis) T.cl mK FK hr bK .nil (fun σ => passAt hs'.x.tk σ) (s_args hse) (star_plain hp1) (hr1.plain _) rfl (few_of (hse.plain _) (by simp)) c0))) pss_nil) pss_any) fun D σ H' ⟨e1, e2, h⟩ => ?_
      subst e1 e2
      refine ⟨_, F, ok0, ?_⟩
      rw [dC_ev]
      intro F1 H1 x1
      refine iteT ?_
      refine ⟨.ref b, rfl, b, dx, _, rfl, x1.sub _ _ hB, keep_no _ _ _, _, F1, ok0.ext x1, ?_⟩
      rw [dA_ev]
      intro F2 H2 x2 vs rs
      obtain ⟨v1, v2, v3, rfl⟩ := three_of rs.length
      have x := x1.trans x2
      simp only [RepL] at rs
      obtain ⟨r1, r2, r3, _⟩ := rs
      simp only [Rep] at r1
      subst r1
      have no : ∀ {a : Addr}, F a = none → H' a ≠ none → F2 a = none := fun ha hh => x.stays ha hh
      refine ⟨F2, b, l1, l2, z, v2, v3, p, c, rfl, x2.inn, ⟨⟨dx, r, x.sub _ _ hB, Rep.sub x.subF _ _ hR⟩, x.sub _ _ h1, x.sub _ _ h2, hne, no f0 (by rw [hB]; intro z; cases z), no f1 (by rw [h1]; intro z; cases z), no f2 (by rw [h2]; intro z; cases z)⟩, r2, r3, ?_⟩
      rcases h with ⟨⟨dd, e⟩, h⟩ | ⟨e, h⟩
      · rw [e]
        exact fun F' H'' _ _ xb _ _ => h F' H'' (xb.pre x)
      · rw [e]
        exact fun F' H'' C dA x' hC hD => h F' H'' C dA (x.trans x') hC hD
    · refine ⟨rfl, rfl, ?_⟩
      rcases hz with ⟨e, rfl⟩ | ⟨e, rfl⟩
      · exact .inl ⟨e, fun F' H' xb => kz .non F' H' xb (by simp only [Rep])⟩
      · refine .inr ⟨e, fun F' H' C dA x' hC hD => ?_⟩
        refine k2 F _ "BadName" _ (dRho _) ?_ _ F' H' C dA (ok0.ext x') x'.subF hC hD
        rw [dH_ev _ _ _ _ _ hcs]
        intro v' F2 H2 fin s' rv'
        refine kz v' F2 H2 ⟨fun a o e n1 n2 n3 => fin.base a o (by show hid b l1 l2 H a = _; unfold hid; rw [if_neg (by simp [n1, n2, n3])]; exact e), s', fin.sub, fun a h => ?_⟩ rv'
        rcases fin.grow a h with h | h
        · exact .inl h
        · have h : hid b l1 l2 H a = none := h
          unfold hid at h
          split at h
          · rename_i ha; exact .inr (.inr ha)
          · exact .inr (.inl h)
  · cases hb
end
end Ad
set_option Elab.async false
set_option linter.all false
set_option maxRecDepth 100000
set_option maxHeartbeats 4000000
/-! The head: what the module's top has left, read by a Hook. -/
namespace Ad
open PySem PySem.Spec PyProof.Rows L2
theorem ba {a b : Bool} (h : (a && b) = true) : a = true ∧ b = true := Bool.and_eq_true_iff.mp h
mutual
/-- data without lists and dicts, in the written part -/
def repB (K : Fr) : D → Value → Bool
  | .none, .none => true
  | .bool b, .bool c => b == c
  | .int i, .int j _ => decide (i = j)
  | .str x, .str y _ => decide (x = y)
  | .tuple ds, .ref a => (match K.lookup a with
    | some ⟨.type c, none, .seq its _, _⟩ => decide (c = "tuple") && (decide (its.size ≤ sizeLine) && repBs K ds its.toList)
    | _ => false)
  | _, _ => false
def repBs (K : Fr) : List D → List Value → Bool
  | [], [] => true
  | d :: ds, u :: us => repB K d u && repBs K ds us
  | _, _ => false
end
def noH : Hp := fun _ => none
mutual
theorem repB_ok {w : World} {K : Fr} : ∀ (d : D) (u : Value), repB K d u = true → ∃ v, RelV v u ∧ Rep w K noH v d
  | .none, u, h => by cases u <;> first | exact ⟨.non, rfl, by simp only [Rep]⟩ | (simp only [repB] at h; cases h)
  | .bool b, u, h => by
    cases u <;> first | (simp only [repB] at h; cases h; done) | skip
    rename_i c
    simp only [repB] at h
    have e : b = c := eq_of_beq h
    subst e
    exact ⟨.bl b, rfl, by simp only [Rep]⟩
  | .int i, u, h => by
    cases u <;> first | (simp only [repB] at h; cases h; done) | skip
    rename_i j t
    simp only [repB, decide_eq_true_eq] at h
    subst h
    exact ⟨.int i, ⟨t, rfl⟩, by simp only [Rep]⟩
  | .str x, u, h => by
    cases u <;> first | (simp only [repB] at h; cases h; done) | skip
    rename_i y t
    simp only [repB, decide_eq_true_eq] at h
    subst h
    exact ⟨.str x, ⟨t, rfl⟩, by simp only [Rep]⟩
  | .tuple ds, u, h => by
    cases u <;> first | (simp only [repB] at h; cases h; done) | skip
    rename_i a
    simp only [repB] at h
    split at h
    · rename_i c its n sl q
      obtain ⟨h1, h2⟩ := ba h
      obtain ⟨h2, h3⟩ := ba h2
      obtain ⟨xs, r1, r2⟩ := repBs_ok (w := w) ds its.toList h3
      refine ⟨.ref a, rfl, ?_⟩
      simp only [Rep]
      exact ⟨a, xs, rfl, .inr ⟨_, its, n, rfl, q, congrArg Value.type (of_decide_eq_true h1), rfl, of_decide_eq_true h2, r1⟩, r2⟩
    · cases h
  | .list _, u, h => by simp only [repB] at h; cases h
  | .dict _, u, h => by simp only [repB] at h; cases h
theorem repBs_ok {w : World} {K : Fr} : ∀ (ds : List D) (us : List Value), repBs K ds us = true → ∃ vs, Vals vs us ∧ RepL w K noH vs ds
  | [], [], _ => ⟨[], .nil, by simp only [RepL]⟩
  | [], _ :: _, h => by simp only [repBs] at h; cases h
  | _ :: _, [], h => by simp only [repBs] at h; cases h
  | d :: ds, u :: us, h => by
    simp only [repBs] at h
    obtain ⟨h1, h2⟩ := ba h
    obtain ⟨v, r1, r2⟩ := repB_ok (w := w) d u h1
    obtain ⟨vs, r3, r4⟩ := repBs_ok (w := w) ds us h2
    exact ⟨v :: vs, .cons r1 r3, by simp only [RepL]; exact ⟨r2, r4⟩⟩
end
/-- a dict, but for its hashes -/
def repP (K : Fr) : List (D × D) → List DictEntry → Bool
  | [], [] => true
  | (k, d) :: r, e :: es => repB K k e.key && (repB K d e.val && ((keyed k && r.all fun p => keyF p.1 == keyF k) && (decide (findK k r |>.isNone) && repP K r es)))
  | _, _ => false
theorem repP_ok {w : World} {K : Fr} : ∀ (kvs : List (D × D)) (es : List DictEntry), repP K kvs es = true → es.map (·.hash) = kvs.map (fun q => hashD w q.1) → RepP w K noH es kvs
  | [], [], _, _ => by simp only [RepP]
  | [], _ :: _, h, _ => by simp only [repP] at h; cases h
  | _ :: _, [], h, _ => by simp only [repP] at h; cases h
  | (k, d) :: r, e :: es, h, hh => by
    simp only [repP] at h
    obtain ⟨h1, h⟩ := ba h
    obtain ⟨h2, h⟩ := ba h
    obtain ⟨h3, h⟩ := ba h
    obtain ⟨h4, h5⟩ := ba h
    simp only [List.map_cons, List.cons.injEq] at hh
    obtain ⟨x, r1, r2⟩ := repB_ok (w := w) k e.key h1
    obtain ⟨y, r3, r4⟩ := repB_ok (w := w) d e.val h2
    simp only [RepP]
    exact ⟨⟨x, r1, r2⟩, ⟨y, r3, r4⟩, hh.1, h3, Option.isNone_iff_eq_none.mp (of_decide_eq_true h4), repP_ok r es h5 hh.2⟩
def dEnt (K : Fr) (u : Value) : List DictEntry := match u with
  | .ref a => (match K.lookup a with
    | some ⟨_, _, .dict es _, _⟩ => es.toList
    | _ => [])
  | _ => []
/-- a constant -/
def conB (K : Fr) : D → Value → Bool
  | .dict kvs, .ref a => (match K.lookup a with
    | some ⟨.type c, none, .dict es _, sl⟩ => decide (c = "dict") && (sl.isEmpty && (!(a == sysModules) && (decide (kvs.length ≤ sizeLine) && repP K kvs es.toList)))
    | _ => false)
  | d, u => repB K d u
def conH (K : Fr) (d : D) (u : Value) : List Int := match d with
  | .dict _ => (dEnt K u).map (·.hash)
  | _ => []
def conW (w : World) (d : D) : List Int := match d with
  | .dict kvs => kvs.map fun q => hashD w q.1
  | _ => []
theorem con_ok {w : World} {K : Fr} {d : D} {u : Value} (h : conB K d u = true) (hh : conH K d u = conW w d) : ∃ v, RelV v u ∧ Rep w K noH v d := by
  cases d with
  | dict kvs =>
    cases u <;> first | (simp only [conB, repB] at h; cases h; done) | skip
    rename_i a
    simp only [conB] at h
    split at h
    · rename_i c es ep sl q
      obtain ⟨h1, h⟩ := ba h
      obtain ⟨h2, h⟩ := ba h
      obtain ⟨h3, h⟩ := ba h
      obtain ⟨h4, h5⟩ := ba h
      have e1 : c = "dict" := of_decide_eq_true h1
      have e2 : sl = #[] := by simpa using h2
      subst e1 e2
      simp only [conH, conW, dEnt, q] at hh
      refine ⟨.ref a, rfl, ?_⟩
      simp only [Rep]
      exact ⟨a, es.toList, ep, rfl, ⟨by simpa using h3, .inr (by rw [q]; rfl)⟩, of_decide_eq_true h4, repP_ok kvs _ h5 hh⟩
    · cases h
  | _ => exact repB_ok _ u (by simpa only [conB] using h)
theorem repP_len {K : Fr} : ∀ (kvs : List (D × D)) (es : List DictEntry), repP K kvs es = true → es.length = kvs.length
  | [], [], _ => rfl
  | [], _ :: _, h => by simp only [repP] at h; cases h
  | _ :: _, [], h => by simp only [repP] at h; cases h
  | (k, d) :: r, e :: es, h => by
    simp only [repP] at h
    obtain ⟨h1, h⟩ := ba h
    obtain ⟨h2, h⟩ := ba h
    obtain ⟨h3, h⟩ := ba h
    obtain ⟨h4, h5⟩ := ba h
    simp [repP_len r es h5]
theorem con_len {w : World} {K : Fr} {d : D} {u : Value} (h : conB K d u = true) : (conH K d u).length = (conW w d).length := by
  cases d with
  | dict kvs =>
    cases u <;> first | (simp only [conB, repB] at h; cases h; done) | skip
    rename_i a
    simp only [conB] at h
    split at h
    · rename_i c es ep sl q
      obtain ⟨h1, h⟩ := ba h
      obtain ⟨h2, h⟩ := ba h
      obtain ⟨h3, h⟩ := ba h
      obtain ⟨h4, h5⟩ := ba h
      simp only [conH, conW, dEnt, q, List.length_map]
      exact repP_len _ _ h5
    · cases h
  | _ => rfl
/-- what the name x stands for -/
def gv (K : Fr) (x : Str) : Value := match PySem.W.nsIn K mainGlobals x with
  | some (some u) => u
  | _ => .none
def gvB (K : Fr) (x : Str) : Bool := match PySem.W.nsIn K mainGlobals x with
  | some (some _) => true
  | _ => false
theorem gv_ok {K : Fr} {h : Heap} {mg : Str → Option Value} (X : K.In h) (G : h.Ns mainGlobals mg) {x : Str} (c : gvB K x = true) : mg x = some (gv K x) := by
  unfold gvB at c
  unfold gv
  split at c
  · rename_i u q
    exact PySem.W.mg_of X G q
  · cases c
def lstB (K : Fr) : Bool := K.all fun q => match q.2 with
  | ⟨.type c, d, .seq _ _, sl⟩ => if c = "list" then d.isNone && sl.isEmpty else true
  | _ => true
theorem lookup_mem {K : Fr} {a : Addr} {o : Obj} (h : K.lookup a = some o) : (a, o) ∈ K := by
  induction K with
  | nil => cases h
  | cons q r ih =>
    obtain ⟨b, p⟩ := q
    rw [List.lookup_cons] at h
    cases e : (a == b) with
    | true => rw [e] at h; cases h; rw [beq_iff_eq.mp e]; exact List.mem_cons_self
    | false => rw [e] at h; exact List.mem_cons_of_mem _ (ih h)
theorem lstB_ok {K : Fr} (h : lstB K = true) : LstOk K := fun a o its n e hc hd => by
  obtain ⟨c, d, dt, sl⟩ := o
  simp only at hc hd
  subst hc hd
  have := List.all_eq_true.mp h _ (lookup_mem e)
  simp only [if_true] at this
  obtain ⟨h1, h2⟩ := ba this
  have e1 : d = none := by simpa using h1
  have e2 : sl = #[] := by simpa using h2
  rw [e1, e2]
/-! ### classes -/
def excB (K : Fr) (C : Addr) : Bool := decide (PySem.W.findIn K (.ref C) "__getattribute__" = some (some (.builtin "BaseException.__getattribute__"))) && (decide (PySem.W.findIn K (.ref C) "__getattr__" = some none) &&
  (decide (PySem.W.subIn K (.ref C) (.type "BaseException") = some true) && (PySem.W.hasDictIn K C && (decide (PySem.W.findIn K (.ref C) "__class__" = some (some (.builtin "object.__class__"))) &&
  (decide (PySem.W.specialIn K (.builtin "object.__class__") "__get__" = some (some (.builtin "getset_descriptor.__get__"))) && (decide (PySem.W.takesIn K (.builtin "object.__class__") = some true) && decide (PySem.W.mroIn K C (.type "object") = some true)))))))
theorem excB_ok {K : Fr} {C : Addr} (h : excB K C = true) : ExcC K C := by
  obtain ⟨h1, h⟩ := ba h
  obtain ⟨h2, h⟩ := ba h
  obtain ⟨h3, h⟩ := ba h
  obtain ⟨h4, h⟩ := ba h
  obtain ⟨h5, h⟩ := ba h
  obtain ⟨h6, h⟩ := ba h
  obtain ⟨h7, h8⟩ := ba h
  exact ⟨of_decide_eq_true h1, of_decide_eq_true h2, of_decide_eq_true h3, h4, of_decide_eq_true h5, of_decide_eq_true h6, of_decide_eq_true h7, of_decide_eq_true h8⟩
/-- a class with an __init__ of its own that has a field f; px: the class above that has none -/
def oexB (K : Fr) (C : Addr) : Bool := (match K.lookup C with
  | some ⟨.type "type", _, .cls cd, sl⟩ => (match cd.mro, sl.toList with
    | .ref C' :: bm, [_, _, _, _, some (.builtin n), _] => C' == C && n == "ValueError.__new__" && !cd.hasDel && PySem.HandSPX.refsVE bm && cd.hasDict
    | _, _ => false)
  | _ => false) && (decide (PySem.W.findIn K (.ref C) "__setattr__" = some (some (.builtin "object.__setattr__"))) && (decide (PySem.W.subIn K (.ref C) (.type "BaseException") = some true) && (decide (PySem.W.typeIn K (.ref C) = some (.type "type")) && PySem.W.keepIn K (.ref C))))
theorem oexB_ok {K : Fr} {C : Addr} (h : oexB K C = true) : OexC K C := by
  obtain ⟨q, h⟩ := ba h
  obtain ⟨h1, h⟩ := ba h
  obtain ⟨h2, h⟩ := ba h
  obtain ⟨h3, h4⟩ := ba h
  refine ⟨?_, of_decide_eq_true h1, of_decide_eq_true h2, of_decide_eq_true h3, h4⟩
  split at q
  · rename_i dd cd sl ho
    split at q
    · rename_i C' bm k0 k1 k2 k3 n k5 hm hs
      simp only [Bool.and_eq_true, beq_iff_eq, Bool.not_eq_true'] at q
      obtain ⟨⟨⟨⟨rfl, rfl⟩, hdel⟩, ht⟩, hdd⟩ := q
      obtain ⟨nm, bs, mro, ns, qn, hd, sn, sub, ab, col, del⟩ := cd
      dsimp only at hm hdel hdd
      subst hm hdel hdd
      have hsl : sl = #[k0, k1, k2, k3, some (.builtin "ValueError.__new__"), k5] := by
        obtain ⟨l⟩ := sl
        simp only at hs
        rw [hs]
      subst hsl
      exact ⟨nm, qn, ns, bs, bm, sn, sub, ab, col, dd, k0, k1, k2, k3, k5, ho, ht⟩
    · cases q
  · cases q
def iniB (K : Fr) (px x f : Str) (d : He.DefD) : Bool := d.ok K && (oexB K (He.ga K x) && (decide (PySem.W.findIn K (.ref (He.ga K x)) "__init__" = some (some (.ref (He.ma K (He.ga K x) "__init__")))) && (decide (PySem.W.typeIn K (.ref (He.ma K (He.ga K x) "__init__")) = some (.type "function")) &&
  (decide (PySem.W.findIn K (.ref (He.ga K x)) f = some none) && (PySem.W.readsIn K (He.ga K px) (.type "type") && (decide (PySem.W.specialIn K (.ref (He.ga K px)) "__getattribute__" = some (some (.builtin "type.__getattribute__"))) &&
  (match PySem.W.findCls K (.ref (He.ga K px)) (.type "type") "__init__" with
    | some (.val (.builtin b)) => b == "ValueError.__init__"
    | _ => false)))))))
/-- the class x: caught by whom, asked by whom (cs: all classes, with those below them) -/
def clsB (K : Fr) (cs : List (Str × List Str)) (x : Str) : Bool := (He.Fa.glo x).ok K && ((excB K (He.ga K x) && (decide (PySem.W.kitOne K (.ref (He.ga K x)) (.type "ValueError") = some true) && fldN.all fun f => decide (PySem.W.findIn K (.ref (He.ga K x)) f = some none))) && cs.all fun q =>
  decide (PySem.W.exmOne K (.ref (He.ga K x)) (.ref (He.ga K q.1)) = some (q.2.contains x)) && decide (PySem.W.kitOne K (.ref (He.ga K x)) (.ref (He.ga K q.1)) = some (q.2.contains x)))
/-! ### the Hook -/
structure Md0 where
  g : Gc
  fn : List He.DefD
  px : Str := ""
  ini : List (Str × Str × He.DefD) := []
  bks : List He.DefD := []
abbrev AlH : Type := Bool × List He.FnW × List Int × List He.FnW
/-- no one watches great divisions -/
def lacks : Option (Option Value) → Bool
  | some none => true
  | _ => false
theorem lacks_ok {x : Option (Option Value)} (h : lacks x = true) : x = some none := by
  match x, h with
  | some none, _ => rfl
def tyIs (v : Value) (x : String) : Bool := match v with
  | .type c => decide (c = x)
  | _ => false
theorem tyIs_ok {v : Value} {x : String} (h : tyIs v x = true) : v = .type x := by
  cases v with
  | type c => exact congrArg Value.type (of_decide_eq_true h)
  | _ => cases h
def adIs (v : Option Addr) (x : Addr) : Bool := match v with
  | some c => decide (c = x)
  | _ => false
theorem adIs_ok {v : Option Addr} {x : Addr} (h : adIs v x = true) : v = some x := by
  cases v with
  | some c => exact congrArg some (of_decide_eq_true h)
  | none => cases h
def isBm : Option Obj → Bool
  | some o => tyIs o.cls "module" && adIs o.dict builtinsNs
  | none => false
theorem isBm_ok {x : Option Obj} (h : isBm x = true) : ∃ o, x = some o ∧ o.cls = .type "module" ∧ o.dict = some builtinsNs := by
  cases x with
  | none => cases h
  | some o =>
    have h : (tyIs o.cls "module" && adIs o.dict builtinsNs) = true := h
    rw [Bool.and_eq_true] at h
    exact ⟨o, rfl, tyIs_ok h.1, adIs_ok h.2⟩
def bmOf : Option (Option Value) → Addr
  | some (some (.ref b)) => b
  | _ => mainGlobals
def bmIs : Option (Option Value) → Bool
  | some (some (.ref _)) => true
  | _ => false
theorem bmIs_ok {x : Option (Option Value)} (h : bmIs x = true) : x = some (some (.ref (bmOf x))) := by
  match x, h with
  | some (some (.ref _)), _ => rfl
def pyB (K : Fr) : Bool := PySem.W.nsOkIn K cStatics && (lacks (PySem.W.nsIn K cStatics "sys.audit-hooks") && (lacks (PySem.W.nsIn K cStatics "sys.dict") && (PySem.W.nsOkIn K sysModules && (lacks (PySem.W.nsIn K sysModules "_pylong") &&
  (bmIs (PySem.W.nsIn K mainGlobals "__builtins__") && isBm (K.lookup (bmOf (PySem.W.nsIn K mainGlobals "__builtins__"))))))))
def bkMs (n : Nat) : List Str := if n = 4 then ["__init__", "put", "keep"] else ["__init__", "put", "keep", "known_row", "used", "back"]
def bookB (n : Nat) (K : Fr) : Bool := (He.Fa.glo "Book").ok K && ((decide (n ≠ 4) || (He.Fa.glo "_law_book_deed").ok K) && (PySem.W.plainGet K (He.ga K "Book") Str.empty && (PySem.W.hasDictIn K (He.ga K "Book") && (PySem.W.plainOver K (He.ga K "Book") && (decide (PySem.W.findIn K (.ref (He.ga K "Book")) "__setattr__" = some (some (.builtin "object.__setattr__"))) &&
  (decide (PySem.W.findIn K (.ref (He.ga K "Book")) "rows" = some none) && (decide (PySem.W.findIn K (.ref (He.ga K "Book")) "calls" = some none) && (decide (PySem.W.findIn K (.ref (He.ga K "Book")) "before" = some none) && (PySem.W.makesIn K (He.ga K "Book") && (PySem.W.keepIn K (.ref (He.ga K "Book")) &&
  ((bkMs n).all fun m => decide (PySem.W.findIn K (.ref (He.ga K "Book")) m = some (some (.ref (He.ma K (He.ga K "Book") m)))) && (PySem.W.isFn K (.ref (He.ma K (He.ga K "Book") m)) && PySem.W.keepIn K (.ref (He.ma K (He.ga K "Book") m))))))))))))))
def okM (m : Md0) (K : Fr) : Bool :=
  pyB K && ((m.fn.all fun d => d.ok K && (He.Fa.glo d.name).ok K) && ((m.g.G.all fun q => gvB K q.1 && conB K q.2 (gv K q.1)) && ((builtins.all fun x => (He.Fa.free x).ok K) && (lstB K && ((m.g.xs.all fun x => (He.Fa.exc x).ok K) && ((m.g.hd.all fun q => clsB K m.g.hd q.1) && ((m.ini.all fun q => iniB K m.px q.1 q.2.1 q.2.2) && ((m.bks.all fun d => d.ok K) && (m.bks.isEmpty || bookB m.bks.length K)))))))))
def obsM (m : Md0) (K : Fr) : AlH := (okM m K, m.fn.map (fun d => He.fnW K d.at_), m.g.G.flatMap (fun q => conH K q.2 (gv K q.1)), (m.ini.map fun q => He.fnW K q.2.2.at_) ++ m.bks.map fun d => He.fnW K d.at_)
def valM (m : Md0) (w : World) : AlH := (true, m.fn.map He.DefD.val, m.g.G.flatMap (fun q => conW w q.2), (m.ini.map fun q => q.2.2.val) ++ m.bks.map He.DefD.val)
/-- what the names that are wanted reach -/
def namesM (m : Md0) : List Str := m.fn.map (·.name) ++ (m.g.G.map (·.1) ++ (m.g.hd.map (·.1) ++ (match m.bks with | [] => [] | _ => ["Book", "_law_book_deed"])))
def bmA (g : Addr → Option Obj) : Addr := bmOf (PySem.W.nsIn (He.frG g [mainGlobals]) mainGlobals "__builtins__")
def rootM (m : Md0) (g : Addr → Option Obj) : List Addr := mainGlobals :: cStatics :: sysModules :: bmA g :: (namesM m).filterMap fun x => match PySem.W.nsIn (He.frG g [mainGlobals]) mainGlobals x with
  | some (some (.ref a)) => some a
  | _ => none
/-- each address once; m: a bit for each that was seen -/
def onceA : List Addr → Nat → List Addr
  | [], _ => []
  | a :: r, m => bif Nat.beq (Nat.mod (Nat.shiftRight m a) 2) 1 then onceA r m else a :: onceA r (Nat.lor m (Nat.shiftLeft 1 a))
def growM (g : Addr → Option Obj) (as : List Addr) : List Addr := onceA (as ++ as.flatMap fun a => match a == mainGlobals || (a == cStatics || (a == sysModules || a == bmA g)) with
  | true => []
  | false => (match g a with
    | some o => He.refsD o
    | none => [])) 0
def asM (m : Md0) (g : Addr → Option Obj) : Nat → List Addr
  | 0 => rootM m g
  | n + 1 => growM g (asM m g n)
def obsMG (n : Nat) (m : Md0) (g : Addr → Option Obj) : AlH := obsM m (He.frG g (asM m g n))
def hookM (n : Nat) (m : Md0) : PySem.W.Hook where
  α := AlH
  obs := fun s => obsMG n m s.heap.get?
  val := fun w => valM m w
  says := fun w h => ∃ K : Fr, K.In h ∧ obsM m K = valM m w
  of := fun _ _ e => ⟨_, He.frG_in, e⟩
  keeps := fun _ _ _ ⟨K, hK, c⟩ k => ⟨K, PySem.W.Frag.In.keeps hK k, c⟩
theorem obsMG_eq {n : Nat} {m : Md0} {g : Addr → Option Obj} {s : Shared} (h : ∀ a, g a = s.heap.get? a) : obsMG n m g = (hookM n m).obs s := by
  have e : g = s.heap.get? := funext h
  rw [e] <;> rfl
/-! ### the run by parts -/
def okA (m : Md0) (K : Fr) : Bool := (m.fn.all fun d => d.ok K && (He.Fa.glo d.name).ok K) && (m.g.hd.all fun q => clsB K m.g.hd q.1)
def okB (m : Md0) (K : Fr) : Bool := pyB K && ((m.g.G.all fun q => gvB K q.1 && conB K q.2 (gv K q.1)) && ((builtins.all fun x => (He.Fa.free x).ok K) && (lstB K && ((m.g.xs.all fun x => (He.Fa.exc x).ok K) && ((m.ini.all fun q => iniB K m.px q.1 q.2.1 q.2.2) && ((m.bks.all fun d => d.ok K) && (m.bks.isEmpty || bookB m.bks.length K)))))))
theorem okM_of {m : Md0} {K : Fr} (h1 : okA m K = true) (h2 : okB m K = true) : okM m K = true := by
  unfold okA at h1
  unfold okB at h2
  unfold okM
  obtain ⟨a1, a2⟩ := ba h1
  obtain ⟨b1, h2⟩ := ba h2
  obtain ⟨b2, h2⟩ := ba h2
  obtain ⟨b3, h2⟩ := ba h2
  obtain ⟨b4, h2⟩ := ba h2
  obtain ⟨b5, h2⟩ := ba h2
  obtain ⟨b6, h2⟩ := ba h2
  rw [b1, a1, b2, b3, b4, b5, a2, b6, h2]; rfl
section
open PySem.W HandSHeadRun
/-- the top's end -/
noncomputable def topE (r : OpenRow) (M : Nat) (w : World) (os : OsState) : Option SharedT := HandSHeadRun.endF (stepQ (denQ tabQ) r.prog w) M r.prog w os
def frT (n : Nat) (m : Md0) (s : SharedT) : Fr := He.frG (getT s) (asM m (getT s) n)
theorem run_parts {r : OpenRow} {q : Program} {n M : Nat} {m : Md0} {loose : List PySem.Str} {w : World}
    (h1 : ∀ os, (topE r M w os).map (fun s => (looksF r.prog (boot_heap w.params) s.abs, seenQ q loose (importedModules r.prog.main.body) (fun s => xlAt q [] s && recOk r.toRowW.records s) s.abs)) = some (true, openGood q loose))
    (h2 : ∀ os, (topE r M w os).map (fun s => (okA m (frT n m s), (obsM m (frT n m s)).2)) = some (true, (valM m w).2))
    (h3 : ∀ os, (topE r M w os).map (fun s => okB m (frT n m s)) = some true) :
    RunEq r q (hookM n m) (fun s => obsMG n m (getT s)) M loose w := by
  intro os
  have g1 := h1 os
  have g2 := h2 os
  have g3 := h3 os
  show (topE r M w os).map _ = _
  cases e : topE r M w os with
  | none => rw [e] at g1; cases g1
  | some s =>
    rw [e] at g1 g2 g3
    simp only [Option.map_some, Option.some.injEq, Prod.mk.injEq] at g1 g2 g3
    have k : obsM m (frT n m s) = valM m w := by
      have k1 : (obsM m (frT n m s)).1 = true := okM_of g2.1 g3
      exact Prod.ext k1 g2.2
    show some (looksF r.prog (boot_heap w.params) s.abs, seenQ q loose (importedModules r.prog.main.body) (fun s => xlAt q [] s && recOk r.toRowW.records s) s.abs, obsM m (frT n m s)) = some (true, openGood q loose, valM m w)
    rw [k, g1.1, g1.2]
end
/-! ### the functions -/
structure DefOk (g : Gc) (fn : Fn) (d : He.DefD) : Prop where
  at_ : d.at_ = (fn.name, none)
  name : d.name = fn.name
  dfl : d.dfl = []
  sc : FnScope fn.N fn.ps d.scope
  bd : ∀ (w : World) (K : Fr) (f : Addr) (fd : FuncData), FunD K d.name d.qual d.params d.body d.scope (d.dvs K) (d.kws K) f fd → ∃ ds dvs, Binds K fd fn.ps ds ∧ Vals dvs ds ∧ RepL w K noH dvs (kwArgs fn.kwd [])
  chk : chkSs { g with N := fn.N, calm := true } d.scope fn.body d.body = true
  bk : ∀ kn, g.kw.lookup fn.name = some kn → fn.kwd.map (·.1) = [kn] ∧ ∀ (K : Fr) (f : Addr) (fd : FuncData), FunD K d.name d.qual d.params d.body d.scope (d.dvs K) (d.kws K) f fd → KBn K fd fn.ps (fn.ps.length - 1) [kn] (fun us ws => us ++ ws) (fun us ws => us ++ ws)
inductive AllD (g : Gc) : List Fn → List He.DefD → Prop
  | nil : AllD g [] []
  | cons {fn : Fn} {d : He.DefD} {fs : List Fn} {ds : List He.DefD} : DefOk g fn d → AllD g fs ds → AllD g (fn :: fs) (d :: ds)
theorem AllD.get {g : Gc} : ∀ {fs : List Fn} {ds : List He.DefD}, AllD g fs ds → ∀ (i : Nat) (fn : Fn), fs[i]? = some fn → ∃ d, ds[i]? = some d ∧ DefOk g fn d
  | _, _, .nil, i, fn, h => by simp at h
  | _, _, .cons a r, 0, fn, h => by simp at h; subst h; exact ⟨_, rfl, a⟩
  | _, _, .cons a r, i + 1, fn, h => by
    obtain ⟨d, h1, h2⟩ := r.get i fn (by simpa using h)
    exact ⟨d, by simpa using h1, h2⟩
theorem bd0 {fn : Fn} {d : He.DefD} (h1 : d.dfl = []) (h2 : fn.kwd = [])
    (h : ∀ (kV doc pm : Value) (an : Option Addr) (cdv ct : Value) (us : List Value), us.length = fn.ps.length → bindArgs (PySem.W.fnOf d.name d.qual d.params d.body d.scope .none kV doc pm an cdv ct) ⟨us, []⟩ = pure (fn.ps.zip us)) (w : World) (K : Fr) (f : Addr) (fd : FuncData)
    (F : FunD K d.name d.qual d.params d.body d.scope (d.dvs K) (d.kws K) f fd) : ∃ ds dvs, Binds K fd fn.ps ds ∧ Vals dvs ds ∧ RepL w K noH dvs (kwArgs fn.kwd []) := by
  have e : d.dvs K = [] := by unfold He.DefD.dvs; rw [h1]; rfl
  rw [e] at F
  refine ⟨[], [], F.bindsN h, .nil, ?_⟩
  rw [h2]
  simp only [kwArgs, RepL]
theorem flatMap_eq {α β : Type} {f g : α → List β} (hl : ∀ x : α, (f x).length = (g x).length) : ∀ {xs : List α}, xs.flatMap f = xs.flatMap g → ∀ x ∈ xs, f x = g x
  | [], _, x, hx => by cases hx
  | y :: r, e, x, hx => by
    simp only [List.flatMap_cons] at e
    obtain ⟨e1, e2⟩ := List.append_inj e (hl y)
    rcases List.mem_cons.mp hx with rfl | hx
    · exact e1
    · exact flatMap_eq hl e2 x hx
theorem lookup_mem' {α : Type} {l : List (Str × α)} {x : Str} {v : α} (h : l.lookup x = some v) : (x, v) ∈ l := by
  induction l with
  | nil => cases h
  | cons q r ih =>
    obtain ⟨b, p⟩ := q
    rw [List.lookup_cons] at h
    cases e : (x == b) with
    | true => rw [e] at h; cases h; rw [beq_iff_eq.mp e]; exact List.mem_cons_self
    | false => rw [e] at h; exact List.mem_cons_of_mem _ (ih h)
/-- where the classes stand -/
def clsA (g : Gc) (K : Fr) (x : Str) : Option Addr := if (g.hd.map (·.1)).contains x then some (He.ga K x) else none
/-- such a class's __init__, as text -/
structure IniOk (g : Gc) (px : Str) (q : Str × Str × He.DefD) : Prop where
  at_ : q.2.2.at_ = (q.1, some ("__init__" : Str))
  dfl : q.2.2.dfl = []
  sc : FnScope ["self", q.2.1] ["self", q.2.1] q.2.2.scope
  body : initB px q.2.1 q.2.2.body = true
  glo : gloB q.2.2.scope px = true
  bd : ∀ (kV doc pm : Value) (an : Option Addr) (cdv ct : Value) (us : List Value), us.length = 2 → bindArgs (PySem.W.fnOf q.2.2.name q.2.2.qual q.2.2.params q.2.2.body q.2.2.scope .none kV doc pm an cdv ct) ⟨us, []⟩ = pure ([("self" : Str), q.2.1].zip us)
  hd : (g.hd.map (·.1)).contains q.1 = true
theorem mod_of {w : World} {K : Fr} {h : Heap} {mg : Str → Option Value} {m : Md0} {Γ : List Fn} (X : K.In h) (G : h.Ns mainGlobals mg) (c : obsM m K = valM m w) (hA : AllD m.g Γ m.fn) (hn : m.g.fn = Γ.map (·.name)) (hx : ∀ x ∈ m.g.xs, (m.g.hd.map (·.1)).contains x = true)
    (hI : ∀ q ∈ m.ini, IniOk m.g m.px q) (hP : m.ini = [] ∨ (m.g.hd.map (·.1)).contains m.px = true) (hi : ∀ x f, m.g.xi.lookup x = some f → ∃ d, (x, f, d) ∈ m.ini) :
    ModF w K mg m.g Γ (fun f => (m.fn[f]?).map fun d => He.ga K d.name) (clsA m.g K) := by
  have c1 : okM m K = true := congrArg (fun z : AlH => z.1) c
  have c2 : m.fn.map (fun d => He.fnW K d.at_) = m.fn.map He.DefD.val := congrArg (fun z : AlH => z.2.1) c
  have c3 : (m.g.G.flatMap fun q => conH K q.2 (gv K q.1)) = m.g.G.flatMap fun q => conW w q.2 := congrArg (fun z : AlH => z.2.2.1) c
  have c40 : (m.ini.map fun q => He.fnW K q.2.2.at_) ++ (m.bks.map fun d => He.fnW K d.at_) = (m.ini.map fun q => q.2.2.val) ++ m.bks.map He.DefD.val := congrArg (fun z : AlH => z.2.2.2) c
  have c4 : (m.ini.map fun q => He.fnW K q.2.2.at_) = m.ini.map fun q => q.2.2.val := (List.append_inj c40 (by simp)).1
  obtain ⟨k0, c1⟩ := ba c1
  have hpy : PyK K mg := by
    obtain ⟨y1, y⟩ := ba k0
    obtain ⟨y2, y⟩ := ba y
    obtain ⟨y3, y⟩ := ba y
    obtain ⟨y4, y⟩ := ba y
    obtain ⟨y5, y⟩ := ba y
    obtain ⟨y6, y7⟩ := ba y
    obtain ⟨o, o1, o2, o3⟩ := isBm_ok y7
    exact ⟨y1, lacks_ok y2, lacks_ok y3, y4, lacks_ok y5, _, o, PySem.W.mg_of X G (bmIs_ok y6), o1, o2, o3⟩
  obtain ⟨k1, c1⟩ := ba c1
  obtain ⟨k2, c1⟩ := ba c1
  obtain ⟨k3, c1⟩ := ba c1
  obtain ⟨k4, c1⟩ := ba c1
  obtain ⟨k5, c1⟩ := ba c1
  obtain ⟨k6, c1⟩ := ba c1
  obtain ⟨k7, _⟩ := ba c1
  have hl : ∀ q ∈ m.g.G, (conH K q.2 (gv K q.1)).length = (conW w q.2).length := fun q hq => con_len (ba (List.all_eq_true.mp k2 q hq)).2
  have c3' : ∀ q ∈ m.g.G, conH K q.2 (gv K q.1) = conW w q.2 := by
    revert c3 hl
    clear k2
    induction m.g.G with
    | nil => intro _ _ q hq; cases hq
    | cons y r ih =>
      intro e hl q hq
      rw [List.flatMap_cons, List.flatMap_cons] at e
      obtain ⟨e1, e2⟩ := List.append_inj e (hl y List.mem_cons_self)
      rcases List.mem_cons.mp hq with rfl | hq
      · exact e1
      · exact ih e2 (fun z hz => hl z (List.mem_cons_of_mem _ hz)) q hq
  have cl : ∀ {x : Str}, (m.g.hd.map (·.1)).contains x = true → (He.Fa.glo x).ok K = true ∧ (excB K (He.ga K x) = true ∧ PySem.W.kitOne K (.ref (He.ga K x)) (.type "ValueError") = some true ∧ ∀ f ∈ fldN, PySem.W.findIn K (.ref (He.ga K x)) f = some none) ∧ ∀ q ∈ m.g.hd, PySem.W.exmOne K (.ref (He.ga K x)) (.ref (He.ga K q.1)) = some (q.2.contains x) ∧ PySem.W.kitOne K (.ref (He.ga K x)) (.ref (He.ga K q.1)) = some (q.2.contains x) := fun {x} hx => by
    obtain ⟨q, hq, rfl⟩ := List.mem_map.mp (List.contains_iff_mem.mp hx)
    have := List.all_eq_true.mp k6 q hq
    obtain ⟨z1, z⟩ := ba this
    obtain ⟨z2, z3⟩ := ba z
    obtain ⟨z2, z4⟩ := ba z2
    obtain ⟨z5, z4⟩ := ba z4
    refine ⟨z1, ⟨z2, of_decide_eq_true z5, fun f hf => of_decide_eq_true (List.all_eq_true.mp z4 f hf)⟩, fun p hp => ?_⟩
    obtain ⟨y1, y2⟩ := ba (List.all_eq_true.mp z3 p hp)
    exact ⟨of_decide_eq_true y1, of_decide_eq_true y2⟩
  refine ⟨lstB_ok k4, hpy, fun x d e => ?_, fun x hx => He.free_ok X G (List.all_eq_true.mp k3 x hx), hn, fun f fn e => ?_, fun x hm => ?_, fun x f e => ?_, fun x cs e => ?_, fun k C hk => ?_⟩
  · have hm := lookup_mem' e
    obtain ⟨z1, z2⟩ := ba (List.all_eq_true.mp k2 _ hm)
    obtain ⟨v, r1, r2⟩ := con_ok (w := w) z2 (c3' _ hm)
    exact ⟨v, _, gv_ok X G z1, r1, r2⟩
  · obtain ⟨d, hd, D⟩ := hA.get f fn e
    have hmem := List.mem_of_getElem? hd
    obtain ⟨z1, z2⟩ := ba (List.all_eq_true.mp k1 d hmem)
    have e2 : (m.fn.map fun d => He.fnW K d.at_)[f]? = (m.fn.map He.DefD.val)[f]? := by rw [c2]
    rw [List.getElem?_map, List.getElem?_map, hd] at e2
    obtain ⟨fd, F⟩ := He.DefD.funD (Option.some.inj e2) z1
    have ef : He.fAd K d.at_ = He.ga K d.name := by rw [D.at_, D.name]; rfl
    have F' := F
    rw [ef] at F'
    obtain ⟨ds, dvs, b1, b2, b3⟩ := D.bd w K _ fd F'
    have edv : d.dvs K = [] := by unfold He.DefD.dvs; rw [D.dfl]; rfl
    rw [edv] at F'
    refine ⟨He.ga K d.name, by rw [hd]; rfl, d.qual, d.params, d.body, d.scope, d.kws K, fd, ds, dvs, ?_, D.sc, b1, b2, b3, ?_, D.chk, fun kn hk => ⟨(D.bk kn hk).1, (D.bk kn hk).2 K _ fd (by rw [edv]; exact F')⟩⟩
    · rw [← D.name]; exact F'
    · rw [← D.name]; exact He.glo_ok X G z2
  · have hc := hx x hm
    obtain ⟨y1, y2, y3⟩ := cl hc
    obtain ⟨w1, w2, w3, w4⟩ := He.exc_ok (List.all_eq_true.mp k5 x hm)
    refine ⟨He.ga K x, by unfold clsA; rw [if_pos hc], "ValueError", "ValueError.__new__", "ValueError.__init__", He.veBase, PySem.F.excBase_ValueError, w1, He.glo_ok X G y1, w2, w3, w4⟩
  · obtain ⟨d, hd⟩ := hi x f e
    have J := hI _ hd
    have hPx : (m.g.hd.map (·.1)).contains m.px = true := hP.resolve_left fun z => by rw [z] at hd; cases hd
    obtain ⟨y1, y⟩ := ba (List.all_eq_true.mp k7 _ hd)
    obtain ⟨y2, y⟩ := ba y
    obtain ⟨y3, y⟩ := ba y
    obtain ⟨y4, y⟩ := ba y
    obtain ⟨y5, y⟩ := ba y
    obtain ⟨y6, y⟩ := ba y
    obtain ⟨y7, y8⟩ := ba y
    have e2 : He.fnW K d.at_ = d.val := by
      have := (List.map_inj_left (f := fun q : Str × Str × He.DefD => He.fnW K q.2.2.at_) (g := fun q => q.2.2.val)).mp c4 _ hd
      exact this
    obtain ⟨fd, F⟩ := He.DefD.funD e2 y1
    have edv : d.dvs K = [] := by unfold He.DefD.dvs; rw [J.dfl]; rfl
    have ef : He.fAd K d.at_ = He.ma K (He.ga K x) "__init__" := by rw [J.at_]; rfl
    rw [edv, ef] at F
    have vV : PySem.W.findCls K (.ref (He.ga K m.px)) (.type "type") "__init__" = some (.val (.builtin "ValueError.__init__")) := by
      split at y8
      · rename_i b hb
        rw [hb, beq_iff_eq.mp y8]
      · cases y8
    exact ⟨He.ga K x, _, fd, by unfold clsA; rw [if_pos J.hd], He.glo_ok X G (cl J.hd).1, oexB_ok y2, of_decide_eq_true y3, of_decide_eq_true y4, F.bindsN J.bd, fun P base => init_ok F J.sc J.body J.glo (He.glo_ok X G (cl hPx).1) ⟨y6, of_decide_eq_true y7⟩ vV, of_decide_eq_true y5⟩
  · have hm := lookup_mem' e
    have hc : (m.g.hd.map (·.1)).contains x = true := List.contains_iff_mem.mpr (List.mem_map.mpr ⟨_, hm, rfl⟩)
    refine ⟨He.ga K x, He.glo_ok X G (cl hc).1, fun k C hk => ?_⟩
    unfold clsA at hk
    split at hk
    · rename_i hkc
      cases hk
      obtain ⟨y1, y2, y3⟩ := cl hkc
      obtain ⟨z1, z2⟩ := y3 _ hm
      exact ⟨z1, z2, excB_ok y2.1, y2.2.2⟩
    · cases hk
  · unfold clsA at hk
    split at hk
    · rename_i hkc
      cases hk
      obtain ⟨y1, y2, y3⟩ := cl hkc
      exact ⟨y2.2.1, hkc, excB_ok y2.1⟩
    · cases hk
/-- the texts of the class Book and of its deeds -/
structure BkT (m : Md0) (i : Nat) (dI dP dK dD : He.DefD) (cs : List Str) (r : List (List Str × Option Nat × List S)) : Prop where
  bks : m.bks = [dI, dP, dK, dD]
  lt : i < 1000000000
  len : m.fn.length ≤ 9999
  aI : dI.at_ = (("Book" : Str), some ("__init__" : Str))
  aP : dP.at_ = (("Book" : Str), some ("put" : Str))
  aK : dK.at_ = (("Book" : Str), some ("keep" : Str))
  aD : dD.at_ = (("_law_book_deed" : Str), none)
  fI : dI.dfl = []
  fP : dP.dfl = []
  fK : dK.dfl = []
  fD : dD.dfl = []
  sI : FnScope ["self"] ["self"] dI.scope
  sP : FnScope ["self", "call", "rows"] ["self", "call", "rows"] dP.scope
  sK : FnScope kN kP dK.scope
  sD : FnScope dN Ad.dP dD.scope
  bI : bInitB dI.body = true
  bP : bPutB dP.body = true
  bK : bKeepB { m.g with N := kN, calm := true, slf := true, bk := none } dK.scope i dK.body = true
  hcs : cs.contains ("BadName" : Str) = true
  bD : bDeedB { m.g with N := dN, calm := true, slf := false, bk := none } dD.scope ((cs, some 2, dH) :: r) dD.body = true
  nI : ∀ (kV doc pm : Value) (an : Option Addr) (cdv ct : Value) (us : List Value), us.length = 1 → bindArgs (PySem.W.fnOf dI.name dI.qual dI.params dI.body dI.scope .none kV doc pm an cdv ct) ⟨us, []⟩ = pure ([("self" : Str)].zip us)
  nP : ∀ (kV doc pm : Value) (an : Option Addr) (cdv ct : Value) (us : List Value), us.length = 3 → bindArgs (PySem.W.fnOf dP.name dP.qual dP.params dP.body dP.scope .none kV doc pm an cdv ct) ⟨us, []⟩ = pure ([("self" : Str), "call", "rows"].zip us)
  nK : ∀ (kV doc pm : Value) (an : Option Addr) (cdv ct : Value) (us : List Value), us.length = 4 → bindArgs (PySem.W.fnOf dK.name dK.qual dK.params dK.body dK.scope .none kV doc pm an cdv ct) ⟨us, []⟩ = pure (kP.zip us)
  nD : ∀ (kV doc pm : Value) (an : Option Addr) (cdv ct : Value) (us : List Value), us.length = 2 → bindArgs (PySem.W.fnOf dD.name dD.qual dD.params dD.body dD.scope .none kV doc pm an cdv ct) ⟨us, []⟩ = pure (Ad.dP.zip us)
/-- the texts of the class Book, by its methods -/
structure BkT2 (m : Md0) (i : Nat) (dI dP dK dR dU dB : He.DefD) : Prop where
  bks : m.bks = [dI, dP, dK, dR, dU, dB]
  ge : 1000000000 ≤ i
  len : m.fn.length ≤ 9999
  aI : dI.at_ = (("Book" : Str), some ("__init__" : Str))
  aP : dP.at_ = (("Book" : Str), some ("put" : Str))
  aK : dK.at_ = (("Book" : Str), some ("keep" : Str))
  aR : dR.at_ = (("Book" : Str), some ("known_row" : Str))
  aU : dU.at_ = (("Book" : Str), some ("used" : Str))
  aB : dB.at_ = (("Book" : Str), some ("back" : Str))
  fI : dI.dfl = []
  fP : dP.dfl = []
  fK : dK.dfl = []
  fR : dR.dfl = []
  fU : dU.dfl = []
  fB : dB.dfl = []
  sI : FnScope ["self"] ["self"] dI.scope
  sP : FnScope ["self", "call", "rows"] ["self", "call", "rows"] dP.scope
  sK : FnScope kN kP dK.scope
  sR : FnScope rN rN dR.scope
  sU : FnScope uN uP dU.scope
  sB : FnScope ["self"] ["self"] dB.scope
  bI : bInitB dI.body = true
  bP : bPutB dP.body = true
  bK : bKeepB { m.g with N := kN, calm := true, slf := true, bk := none } dK.scope (i % 1000000000) dK.body = true
  bR : bRowB { m.g with N := rN, calm := true, slf := false, bk := none } dR.scope dR.body = true
  bU : bUsedB { m.g with N := uN, calm := true, slf := false, bk := none } dU.scope (i / 1000000000 - 1) dU.body = true
  bB : bBackB { m.g with N := ["self"], calm := true, slf := false, bk := none } dB.scope dB.body = true
  nI : ∀ (kV doc pm : Value) (an : Option Addr) (cdv ct : Value) (us : List Value), us.length = 1 → bindArgs (PySem.W.fnOf dI.name dI.qual dI.params dI.body dI.scope .none kV doc pm an cdv ct) ⟨us, []⟩ = pure ([("self" : Str)].zip us)
  nP : ∀ (kV doc pm : Value) (an : Option Addr) (cdv ct : Value) (us : List Value), us.length = 3 → bindArgs (PySem.W.fnOf dP.name dP.qual dP.params dP.body dP.scope .none kV doc pm an cdv ct) ⟨us, []⟩ = pure ([("self" : Str), "call", "rows"].zip us)
  nK : ∀ (kV doc pm : Value) (an : Option Addr) (cdv ct : Value) (us : List Value), us.length = 4 → bindArgs (PySem.W.fnOf dK.name dK.qual dK.params dK.body dK.scope .none kV doc pm an cdv ct) ⟨us, []⟩ = pure (kP.zip us)
  nR : ∀ (kV doc pm : Value) (an : Option Addr) (cdv ct : Value) (us : List Value), us.length = 2 → bindArgs (PySem.W.fnOf dR.name dR.qual dR.params dR.body dR.scope .none kV doc pm an cdv ct) ⟨us, []⟩ = pure (rN.zip us)
  nU : ∀ (kV doc pm : Value) (an : Option Addr) (cdv ct : Value) (us : List Value), us.length = 4 → bindArgs (PySem.W.fnOf dU.name dU.qual dU.params dU.body dU.scope .none kV doc pm an cdv ct) ⟨us, []⟩ = pure (uP.zip us)
  nB : ∀ (kV doc pm : Value) (an : Option Addr) (cdv ct : Value) (us : List Value), us.length = 1 → bindArgs (PySem.W.fnOf dB.name dB.qual dB.params dB.body dB.scope .none kV doc pm an cdv ct) ⟨us, []⟩ = pure ([("self" : Str)].zip us)
/-- one or the other -/
def BkAny (m : Md0) (i : Nat) : Prop := (∃ dI dP dK dD cs r, BkT m i dI dP dK dD cs r) ∨ ∃ dI dP dK dR dU dB, BkT2 m i dI dP dK dR dU dB
theorem bky1 {w : World} {K : Fr} {h : Heap} {mg : Str → Option Value} {m : Md0} {Γ : List Fn}
  (X : K.In h) (G : h.Ns mainGlobals mg) (c : obsM m K = valM m w) (mf : ModF w K mg m.g Γ (fun f => (m.fn[f]?).map fun d => He.ga K d.name) (clsA m.g K)) {i : Nat} {P : Program} {base : Heap} {n : Nat} (ht : P.given.tree = none)
    (FA : FnAll P w K mg base m.g Γ (fun f => (m.fn[f]?).map fun d => He.ga K d.name) (clsA m.g K) n) {dI dP dK dD : He.DefD} {cs : List Str} {r : List (List Str × Option Nat × List S)} (B : BkT m i dI dP dK dD cs r) : BkY P w K mg base (clsA m.g K) (callF Γ n) i (4 * n + 44) := by
  have c1 : okM m K = true := congrArg (fun z : AlH => z.1) c
  have c40 : (m.ini.map fun q => He.fnW K q.2.2.at_) ++ (m.bks.map fun d => He.fnW K d.at_) = (m.ini.map fun q => q.2.2.val) ++ m.bks.map He.DefD.val := congrArg (fun z : AlH => z.2.2.2) c
  have c5 := (List.append_inj c40 (by simp)).2
  rw [B.bks] at c5
  obtain ⟨_, c1⟩ := ba c1
  obtain ⟨_, c1⟩ := ba c1
  obtain ⟨_, c1⟩ := ba c1
  obtain ⟨_, c1⟩ := ba c1
  obtain ⟨_, c1⟩ := ba c1
  obtain ⟨_, c1⟩ := ba c1
  obtain ⟨_, c1⟩ := ba c1
  obtain ⟨_, c1⟩ := ba c1
  obtain ⟨k8, k9⟩ := ba c1
  rw [B.bks] at k8 k9
  have k9 : bookB 4 K = true := by simpa using k9
  simp only [List.map_cons, List.map_nil, List.cons.injEq, and_true] at c5
  obtain ⟨e1, e2, e3, e4⟩ := c5
  simp only [List.all_cons, List.all_nil, Bool.and_true, Bool.and_eq_true] at k8
  obtain ⟨o1, o2, o3, o4⟩ := k8
  obtain ⟨fdI, FI⟩ := He.DefD.funD e1 o1
  obtain ⟨fdP, FP⟩ := He.DefD.funD e2 o2
  obtain ⟨fdK, FK⟩ := He.DefD.funD e3 o3
  obtain ⟨fdD, FD⟩ := He.DefD.funD e4 o4
  have v1 : dI.dvs K = [] := by unfold He.DefD.dvs; rw [B.fI]; rfl
  have v2 : dP.dvs K = [] := by unfold He.DefD.dvs; rw [B.fP]; rfl
  have v3 : dK.dvs K = [] := by unfold He.DefD.dvs; rw [B.fK]; rfl
  have v4 : dD.dvs K = [] := by unfold He.DefD.dvs; rw [B.fD]; rfl
  have a1 : He.fAd K dI.at_ = He.ma K (He.ga K "Book") "__init__" := by rw [B.aI]; rfl
  have a2 : He.fAd K dP.at_ = He.ma K (He.ga K "Book") "put" := by rw [B.aP]; rfl
  have a3 : He.fAd K dK.at_ = He.ma K (He.ga K "Book") "keep" := by rw [B.aK]; rfl
  have a4 : He.fAd K dD.at_ = He.ga K "_law_book_deed" := by rw [B.aD]; rfl
  rw [v1, a1] at FI
  rw [v2, a2] at FP
  rw [v3, a3] at FK
  rw [v4, a4] at FD
  unfold bookB at k9
  obtain ⟨b1, k9⟩ := ba k9
  obtain ⟨b2, k9⟩ := ba k9
  obtain ⟨b3, k9⟩ := ba k9
  obtain ⟨b4, k9⟩ := ba k9
  obtain ⟨b5, k9⟩ := ba k9
  obtain ⟨b6, k9⟩ := ba k9
  obtain ⟨b7, k9⟩ := ba k9
  obtain ⟨b8, k9⟩ := ba k9
  obtain ⟨b9, k9⟩ := ba k9
  obtain ⟨b10, k9⟩ := ba k9
  obtain ⟨b11, b12⟩ := ba k9
  have b2 : (He.Fa.glo "_law_book_deed").ok K = true := by simpa using b2
  have meth : ∀ x ∈ bkMs 4, PySem.W.findIn K (.ref (He.ga K "Book")) x = some (some (.ref (He.ma K (He.ga K "Book") x))) ∧ PySem.W.isFn K (.ref (He.ma K (He.ga K "Book") x)) = true ∧ PySem.W.keepIn K (.ref (He.ma K (He.ga K "Book") x)) = true := fun x hx => by
    obtain ⟨z1, z2⟩ := ba (List.all_eq_true.mp b12 x hx)
    obtain ⟨z2, z3⟩ := ba z2
    exact ⟨of_decide_eq_true z1, z2, z3⟩
  obtain ⟨m1, m2, m3⟩ := meth "__init__" (by decide +kernel)
  obtain ⟨m4, m5, m6⟩ := meth "put" (by decide +kernel)
  obtain ⟨m7, m8, m9⟩ := meth "keep" (by decide +kernel)
  have n7 := of_decide_eq_true b7
  have n8 := of_decide_eq_true b8
  have n9 := of_decide_eq_true b9
  have T : BkC K (He.ga K "Book") := ⟨⟨b3, b4, b5, of_decide_eq_true b6⟩, n7, n8, n9⟩
  have FPo : FnOk P w K mg base (CX P w) 1 _ fdP ["self", "call", "rows"] (spPut (He.ga K "Book")) := ok_bput FP B.sP B.bP T 0
  have FKo := ok_bkeep ht mf FA FK B.sK B.bK T ⟨m4, m5, m6⟩ FPo (FP.bindsN B.nP) (by
    rw [List.getElem?_eq_none B.len]; rfl)
  have FDo := ok_bdeed ht mf FA FD B.sD B.hcs B.bD T ⟨m7, m8, m9⟩ FKo (FK.bindsN B.nK)
  exact ⟨He.ga K "Book", _, fdI, He.glo_ok X G b1, ⟨b10, m1, m2, b11⟩, (ok_binit FI B.sI B.bI T 0).mono (by omega), FI.bindsN B.nI, .inl ⟨B.lt, _, fdD, He.glo_ok X G b2, FD.kp, FDo, FD.bindsN B.nD⟩⟩
theorem bky2 {w : World} {K : Fr} {h : Heap} {mg : Str → Option Value} {m : Md0} {Γ : List Fn}
  (X : K.In h) (G : h.Ns mainGlobals mg) (c : obsM m K = valM m w) (mf : ModF w K mg m.g Γ (fun f => (m.fn[f]?).map fun d => He.ga K d.name) (clsA m.g K)) {i : Nat} {P : Program} {base : Heap} {n : Nat} (ht : P.given.tree = none)
    (FA : FnAll P w K mg base m.g Γ (fun f => (m.fn[f]?).map fun d => He.ga K d.name) (clsA m.g K) n) {dI dP dK dR dU dB : He.DefD} (B : BkT2 m i dI dP dK dR dU dB) : BkY P w K mg base (clsA m.g K) (callF Γ n) i (4 * n + 44) := by
  have c1 : okM m K = true := congrArg (fun z : AlH => z.1) c
  have c40 : (m.ini.map fun q => He.fnW K q.2.2.at_) ++ (m.bks.map fun d => He.fnW K d.at_) = (m.ini.map fun q => q.2.2.val) ++ m.bks.map He.DefD.val := congrArg (fun z : AlH => z.2.2.2) c
  have c5 := (List.append_inj c40 (by simp)).2
  rw [B.bks] at c5
  obtain ⟨_, c1⟩ := ba c1
  obtain ⟨_, c1⟩ := ba c1
  obtain ⟨_, c1⟩ := ba c1
  obtain ⟨_, c1⟩ := ba c1
  obtain ⟨_, c1⟩ := ba c1
  obtain ⟨_, c1⟩ := ba c1
  obtain ⟨_, c1⟩ := ba c1
  obtain ⟨_, c1⟩ := ba c1
  obtain ⟨k8, k9⟩ := ba c1
  rw [B.bks] at k8 k9
  have k9 : bookB 6 K = true := by simpa using k9
  simp only [List.map_cons, List.map_nil, List.cons.injEq, and_true] at c5
  obtain ⟨e1, e2, e3, e4, e5, e6⟩ := c5
  simp only [List.all_cons, List.all_nil, Bool.and_true, Bool.and_eq_true] at k8
  obtain ⟨o1, o2, o3, o4, o5, o6⟩ := k8
  obtain ⟨fdI, FI⟩ := He.DefD.funD e1 o1
  obtain ⟨fdP, FP⟩ := He.DefD.funD e2 o2
  obtain ⟨fdK, FK⟩ := He.DefD.funD e3 o3
  obtain ⟨fdR, FR⟩ := He.DefD.funD e4 o4
  obtain ⟨fdU, FU⟩ := He.DefD.funD e5 o5
  obtain ⟨fdB, FB⟩ := He.DefD.funD e6 o6
  have v1 : dI.dvs K = [] := by unfold He.DefD.dvs; rw [B.fI]; rfl
  have v2 : dP.dvs K = [] := by unfold He.DefD.dvs; rw [B.fP]; rfl
  have v3 : dK.dvs K = [] := by unfold He.DefD.dvs; rw [B.fK]; rfl
  have v4 : dR.dvs K = [] := by unfold He.DefD.dvs; rw [B.fR]; rfl
  have v5 : dU.dvs K = [] := by unfold He.DefD.dvs; rw [B.fU]; rfl
  have v6 : dB.dvs K = [] := by unfold He.DefD.dvs; rw [B.fB]; rfl
  have a1 : He.fAd K dI.at_ = He.ma K (He.ga K "Book") "__init__" := by rw [B.aI]; rfl
  have a2 : He.fAd K dP.at_ = He.ma K (He.ga K "Book") "put" := by rw [B.aP]; rfl
  have a3 : He.fAd K dK.at_ = He.ma K (He.ga K "Book") "keep" := by rw [B.aK]; rfl
  have a4 : He.fAd K dR.at_ = He.ma K (He.ga K "Book") "known_row" := by rw [B.aR]; rfl
  have a5 : He.fAd K dU.at_ = He.ma K (He.ga K "Book") "used" := by rw [B.aU]; rfl
  have a6 : He.fAd K dB.at_ = He.ma K (He.ga K "Book") "back" := by rw [B.aB]; rfl
  rw [v1, a1] at FI
  rw [v2, a2] at FP
  rw [v3, a3] at FK
  rw [v4, a4] at FR
  rw [v5, a5] at FU
  rw [v6, a6] at FB
  unfold bookB at k9
  obtain ⟨b1, k9⟩ := ba k9
  obtain ⟨b2, k9⟩ := ba k9
  obtain ⟨b3, k9⟩ := ba k9
  obtain ⟨b4, k9⟩ := ba k9
  obtain ⟨b5, k9⟩ := ba k9
  obtain ⟨b6, k9⟩ := ba k9
  obtain ⟨b7, k9⟩ := ba k9
  obtain ⟨b8, k9⟩ := ba k9
  obtain ⟨b9, k9⟩ := ba k9
  obtain ⟨b10, k9⟩ := ba k9
  obtain ⟨b11, b12⟩ := ba k9
  have meth : ∀ x ∈ bkMs 6, PySem.W.findIn K (.ref (He.ga K "Book")) x = some (some (.ref (He.ma K (He.ga K "Book") x))) ∧ PySem.W.isFn K (.ref (He.ma K (He.ga K "Book") x)) = true ∧ PySem.W.keepIn K (.ref (He.ma K (He.ga K "Book") x)) = true := fun x hx => by
    obtain ⟨z1, z2⟩ := ba (List.all_eq_true.mp b12 x hx)
    obtain ⟨z2, z3⟩ := ba z2
    exact ⟨of_decide_eq_true z1, z2, z3⟩
  obtain ⟨m1, m2, m3⟩ := meth "__init__" (by decide +kernel)
  obtain ⟨m4, m5, m6⟩ := meth "put" (by decide +kernel)
  obtain ⟨m7, m8, m9⟩ := meth "keep" (by decide +kernel)
  obtain ⟨r1, r2, r3⟩ := meth "known_row" (by decide +kernel)
  obtain ⟨u1, u2, u3⟩ := meth "used" (by decide +kernel)
  obtain ⟨w1, w2, w3⟩ := meth "back" (by decide +kernel)
  have n7 := of_decide_eq_true b7
  have n8 := of_decide_eq_true b8
  have n9 := of_decide_eq_true b9
  have T : BkC K (He.ga K "Book") := ⟨⟨b3, b4, b5, of_decide_eq_true b6⟩, n7, n8, n9⟩
  have FPo : FnOk P w K mg base (CX P w) 1 _ fdP ["self", "call", "rows"] (spPut (He.ga K "Book")) := ok_bput FP B.sP B.bP T 0
  have FKo := ok_bkeep ht mf FA FK B.sK B.bK T ⟨m4, m5, m6⟩ FPo (FP.bindsN B.nP) (by
    rw [List.getElem?_eq_none B.len]; rfl)
  have FRo := ok_brow ht mf FA FR B.sR B.bR T
  have FUo := ok_bused ht mf FA FU B.sU B.bU T ⟨r1, r2, r3⟩ FRo (FR.bindsN B.nR)
  have FBo := ok_bback ht mf FA FB B.sB B.bB T
  exact ⟨He.ga K "Book", _, fdI, He.glo_ok X G b1, ⟨b10, m1, m2, b11⟩, (ok_binit FI B.sI B.bI T 0).mono (by omega), FI.bindsN B.nI, .inr ⟨B.ge, T.cl, ⟨_, fdK, ⟨m7, m8, m9⟩, FKo.mono (by omega), FK.bindsN B.nK⟩, ⟨_, fdU, ⟨u1, u2, u3⟩, FUo, FU.bindsN B.nU⟩, ⟨_, fdB, ⟨w1, w2, w3⟩, FBo.mono (by omega), FB.bindsN B.nB⟩⟩⟩
theorem modB_of {w : World} {K : Fr} {h : Heap} {mg : Str → Option Value} {m : Md0} {Γ : List Fn} (X : K.In h) (G : h.Ns mainGlobals mg) (c : obsM m K = valM m w) (mf : ModF w K mg m.g Γ (fun f => (m.fn[f]?).map fun d => He.ga K d.name) (clsA m.g K))
    (hB : ∀ i, m.g.bk = some i → BkAny m i) : ModB w K mg m.g Γ (fun f => (m.fn[f]?).map fun d => He.ga K d.name) (clsA m.g K) := by
  refine ⟨mf, fun i hi P base n ht FA => ?_⟩
  rcases hB i hi with ⟨dI, dP, dK, dD, cs, r, B⟩ | ⟨dI, dP, dK, dR, dU, dB, B⟩
  · exact bky1 X G c mf ht FA B
  · exact bky2 X G c mf ht FA B
theorem xi_of {m : Md0} (h : m.g.xi = m.ini.map fun q => (q.1, q.2.1)) (x f : Str) (e : m.g.xi.lookup x = some f) : ∃ d, (x, f, d) ∈ m.ini := by
  have := lookup_mem' e
  rw [h, List.mem_map] at this
  obtain ⟨⟨a, b, d⟩, h1, h2⟩ := this
  cases h2
  exact ⟨d, h1⟩
/-- the first def of a class -/
def metS : Stmt → Stmt
  | .ClassDef _ _ _ b _ _ _ _ _ _ _ => (b.find? fun s => match s with | .FunctionDef .. => true | _ => false).getD (.Pass ⟨0, 0, 0, 0⟩)
  | s => s
/-! ### the law -/
theorem walk_X {l : PySem.W.OpenLaw} {n k : Nat} {q : Program} {loose : List Str} {XP : (Str → Option Value) → Heap → Prop} {YP : World → Heap → Prop} {d : DefRec} {x : Str}
    (hn : l.most = some n) (hn2 : n ≤ sizeLine) (hdf : d.params.defaults = []) (hr : Room k callerA)
    (F : ∀ (w : World) (mg : Str → Option Value) (fa : Addr) (h : Heap), YP w h → h.Ns mainGlobals mg → mg d.name = some (.ref fa) → ∃ (K : Fr) (fd : FuncData) (sp : Sp), K.In h ∧ (∀ (s : Shared) (u : Value), BindsTo s fd ⟨[u], []⟩ [(x, u)]) ∧
        (∀ (H : Hp) (a : Addr) (ns : List Int), ns.length ≤ n → SqL K H a (ns.map V.int) → sp [.ref a] H (fun v _ => v = .bl true) fun _ _ _ => False) ∧
        ∀ base : Heap, K.In base → base.Ns mainGlobals mg → FnOk l.prog w K mg base (CX l.prog w) k fa fd [x] sp) :
    PySem.W.WalkO q loose XP YP l.row.toRowW d [] (fun f vs => PySem.call f vs) := by
  refine Att.attach_call hn hdf fun w s₀ s₁ mg mb fa o pm cd doc a vs ns G Y ho hd hcd hmg hobj hints hlen hg => ?_
  obtain ⟨K, fd, sp, KX, hb, hsp, hF⟩ := F w mg fa _ Y G.T.g hmg
  refine law_call KX G.T.g G.T.b G.T.builtins G.T.nolimit hg hobj hints (Nat.le_trans hlen hn2) hr hF hb (fun H hO hS => hsp H a ns hlen hS) fun H e s' z => ?_
  obtain ⟨_, _, _, _, _, _, _, _, _, _, _, _, z⟩ := z
  exact z
theorem law_of {l : PySem.W.OpenLaw} {n k j fi : Nat} {q : Program} {loose : List Str} {XP : (Str → Option Value) → Heap → Prop} {d : DefRec} {m : Md0} {Γ : List Fn} {fL : Fn} {dL : He.DefD}
    (hn : l.most = some n) (hn2 : n ≤ sizeLine) (hdf : d.params.defaults = []) (hr : Room (4 * k + 42) callerA) (ht : l.prog.given.tree = none) (hA : AllD m.g Γ m.fn) (hg : m.g.fn = Γ.map (·.name)) (hx : ∀ x ∈ m.g.xs, (m.g.hd.map (·.1)).contains x = true)
    (hI : ∀ q ∈ m.ini, IniOk m.g m.px q) (hP : m.ini = [] ∨ (m.g.hd.map (·.1)).contains m.px = true) (hi : ∀ x f, m.g.xi.lookup x = some f → ∃ d, (x, f, d) ∈ m.ini) (hB : ∀ i, m.g.bk = some i → BkAny m i)
    (hΓ : Γ[fi]? = some fL) (hd : m.fn[fi]? = some dL) (hps : fL.ps = [("script" : Str)]) (hkw : fL.kwd = []) (hnm : d.name = fL.name)
    (hb : ∀ (kV doc pm : Value) (an : Option Addr) (cdv ct : Value) (us : List Value), us.length = fL.ps.length → bindArgs (PySem.W.fnOf dL.name dL.qual dL.params dL.body dL.scope .none kV doc pm an cdv ct) ⟨us, []⟩ = pure (fL.ps.zip us))
    (plain : ∀ ns : List Int, ns.length ≤ n → callF Γ k fi [.list (ns.map .int)] [] = .ok (.bool true)) : PySem.W.WalkO q loose XP (hookM j m).says l.row.toRowW d [] (fun f vs => PySem.call f vs) := by
  refine walk_X (x := "script") hn hn2 hdf hr fun w mg fa h Y G hmg => ?_
  obtain ⟨K, KX, c⟩ := Y
  have mf := mod_of (Γ := Γ) KX G c hA hg hx hI hP hi
  obtain ⟨a, fd, ds, dvs, h1, h2, h3, h4, h5, h6, h7, _, qual, params, body, scope, kws, h8⟩ := fn_all (P := l.prog) (base := h) ht (modB_of KX G c mf hB) k fi fL hΓ
  have ea : a = fa := by
    rw [hnm, h6] at hmg
    cases hmg; rfl
  subst ea
  have bind : ∀ (s : Shared) (u : Value), BindsTo s fd ⟨[u], []⟩ [("script", u)] := fun s u => by
    have c1 : okM m K = true := congrArg (fun z : AlH => z.1) c
    obtain ⟨_, c1⟩ := ba c1
    obtain ⟨k1, _⟩ := ba c1
    have c2 : m.fn.map (fun d => He.fnW K d.at_) = m.fn.map He.DefD.val := congrArg (fun z : AlH => z.2.1) c
    have e2 : (m.fn.map fun d => He.fnW K d.at_)[fi]? = (m.fn.map He.DefD.val)[fi]? := by rw [c2]
    rw [List.getElem?_map, List.getElem?_map, hd] at e2
    obtain ⟨d', hd', D⟩ := hA.get fi fL hΓ
    rw [hd] at hd'
    cases hd'
    obtain ⟨fd', F⟩ := He.DefD.funD (Option.some.inj e2) (ba (List.all_eq_true.mp k1 dL (List.mem_of_getElem? hd))).1
    have ef : He.fAd K dL.at_ = a := by
      rw [D.at_]
      simp only [hd] at h1
      have h1 : He.ga K dL.name = a := by simpa using h1
      rw [← h1, D.name]; rfl
    have edv : dL.dvs K = [] := by unfold He.DefD.dvs; rw [D.dfl]; rfl
    rw [ef, edv] at F
    have efd : fd' = fd := by
      obtain ⟨_, _, _, _, _, _, _, _, _, _, _, l1, _⟩ := F.ex
      obtain ⟨_, _, _, _, _, _, _, _, _, _, _, l2, _⟩ := h8.ex
      rw [l1] at l2
      cases l2; rfl
    subst efd
    have b := FunD.bindsA (ps := fL.ps) F hb s [u] (by rw [hps]; rfl)
    rw [hps] at b
    exact b
  refine ⟨K, fd, spOf w K (clsA m.g K) (rn Γ k fL), KX, bind, fun H a' ns hl hS => ?_, fun base KB GB => ?_⟩
  · refine ⟨H, [.list (ns.map .int)], .refl, ?_, ?_⟩
    · simp only [RepL, Rep]
      exact ⟨⟨a', _, rfl, hS, rep_ints ns⟩, trivial⟩
    · have := plain ns hl
      rw [callF_rn hΓ, hkw] at this
      simp only [kwArgs, List.append_nil] at this
      rw [this]
      intro v F' H' _ r
      simpa only [Rep] using r
  · obtain ⟨a2, fd2, _, _, g1, g2, _, _, _, g6, _, _, _, _, _, _, _, g8⟩ := fn_all (P := l.prog) (base := base) ht (modB_of KB GB c (mod_of (Γ := Γ) KB GB c hA hg hx hI hP hi) hB) k fi fL hΓ
    have e1 : a2 = a := by rw [h1] at g1; cases g1; rfl
    subst e1
    have e2 : fd2 = fd := by
      obtain ⟨_, _, _, _, _, _, _, _, _, _, _, l1, _⟩ := g8.ex
      obtain ⟨_, _, _, _, _, _, _, _, _, _, _, l2, _⟩ := h8.ex
      rw [l1] at l2
      cases l2; rfl
    subst e2
    rw [hps] at g2
    exact g2
end Ad
set_option linter.all false
set_option maxRecDepth 100000
set_option maxHeartbeats 4000000
/-! Plans, in plain words. -/
namespace Ad
open PySem
theorem eqOk_mem {xs : List D} {x : D} (h : eqOk (.tuple xs) = true) (hx : x ∈ xs) : eqOk x = true := by
  simp only [eqOk, Bool.and_eq_true, decide_eq_true_eq] at h
  obtain ⟨h1, h2⟩ := h
  have h1 : PyData.canLayAll0 xs = true := by simpa only [PyData.canLay0] using h1
  have h2 : PyData.depthAll xs + 1 ≤ 60 := h2
  have key : ∀ xs : List D, PyData.canLayAll0 xs = true → x ∈ xs → x.canLay0 = true ∧ x.depth ≤ PyData.depthAll xs := by
    intro xs
    induction xs with
    | nil => intro _ h; cases h
    | cons y r ih =>
      intro h1 hx
      simp only [PyData.canLayAll0, Bool.and_eq_true] at h1
      simp only [PyData.depthAll]
      rcases List.mem_cons.mp hx with rfl | hx
      · exact ⟨h1.1, Nat.le_max_left _ _⟩
      · have := ih h1.2 hx
        exact ⟨this.1, Nat.le_trans this.2 (Nat.le_max_right _ _)⟩
  obtain ⟨k1, k2⟩ := key xs h1 hx
  simp only [eqOk, k1, Bool.true_and, decide_eq_true_eq]
  omega
theorem eqOk_tup {xs : List D} (h : ∀ x ∈ xs, x.canLay0 = true ∧ x.depth ≤ 50) : eqOk (.tuple xs) = true ∧ eqOk (.list xs) = true := by
  have key : PyData.canLayAll0 xs = true ∧ PyData.depthAll xs ≤ 50 := by
    induction xs with
    | nil => exact ⟨rfl, Nat.zero_le _⟩
    | cons y r ih =>
      obtain ⟨i1, i2⟩ := ih fun x hx => h x (List.mem_cons_of_mem _ hx)
      obtain ⟨j1, j2⟩ := h y List.mem_cons_self
      simp only [PyData.canLayAll0, PyData.depthAll, i1, j1, Bool.and_self, true_and]
      exact Nat.max_le.mpr ⟨j2, i2⟩
  have k2 := key.2
  have e : decide (PyData.depthAll xs + 1 ≤ 60) = true := decide_eq_true (by omega)
  constructor
  · show (PyData.canLay0 (.tuple xs) && decide (PyData.depthAll xs + 1 ≤ 60)) = true
    rw [e, Bool.and_true]; simpa only [PyData.canLay0] using key.1
  · show (PyData.canLay0 (.list xs) && decide (PyData.depthAll xs + 1 ≤ 60)) = true
    rw [e, Bool.and_true]; simpa only [PyData.canLay0] using key.1
def isW (x : D) (lo hi : Int) : Bool := match x with
  | .int i => decide (lo ≤ i) && decide (i ≤ hi)
  | _ => false
def ptsL : List (Str × Nat) := [("free", 0), ("slide", 2), ("share", 2), ("shift", 3), ("turn", 2), ("meet", 4), ("cross", 5), ("foot", 3), ("upright", 5), ("center", 3), ("again", 3)]
def pts (w : Str) : Option Nat := ptsL.lookup w
def ptsD : List (D × D) := ptsL.map fun q => (.str q.1, .int q.2)
theorem find_pts (w : Str) : ∀ l : List (Str × Nat), findK (.str w) (l.map fun q => (.str q.1, .int q.2)) = (l.lookup w).map fun k => .int k
  | [] => rfl
  | (x, k) :: r => by
    simp only [List.map_cons, findK, PyData.eqv, List.lookup_cons]
    by_cases h : x = w
    · subst h; simp
    · have h1 : (x == w) = false := by simpa using h
      have h2 : (w == x) = false := by simpa using (Ne.symm h)
      simp only [h1, h2, if_neg Bool.false_ne_true]
      exact find_pts w r
theorem okK_pts (w : Str) : okK (.str w) ptsD = true := rfl
theorem pts_in (w : Str) : inD (.str w) (.dict ptsD) = .ok (pts w).isSome := by
  simp only [inD, okK_pts, if_true, ptsD, find_pts]
  rw [show List.lookup w ptsL = pts w from rfl]
  cases pts w <;> rfl
theorem pts_idx {w : Str} {k : Nat} (h : pts w = some k) : idxD (.dict ptsD) (.str w) = .ok (.int k) := by
  simp only [idxD, okK_pts, if_true, ptsD, find_pts]
  rw [show List.lookup w ptsL = some k from h]; rfl
theorem pts_mem {w : Str} {k : Nat} (h : pts w = some k) : (w, k) ∈ ptsL := by
  unfold pts at h
  generalize ptsL = l at h
  induction l with
  | nil => cases h
  | cons q r ih =>
    obtain ⟨x, j⟩ := q
    rw [List.lookup_cons] at h
    cases e : (w == x) with
    | true => rw [e] at h; cases h; rw [beq_iff_eq.mp e]; exact List.mem_cons_self
    | false => rw [e] at h; exact List.mem_cons_of_mem _ (ih h)
theorem pts_ok {w : Str} {k : Nat} (h : pts w = some k) : eqOk (.str w) = true ∧ k ≤ 5 := by
  have := pts_mem h
  have all : (ptsL.all fun q => eqOk (.str q.1) && decide (q.2 ≤ 5)) = true := by decide +kernel
  have := List.all_eq_true.mp all _ this
  simpa using this
def isShare (w : Str) : Bool := w == ("share" : Str)
theorem share_pts : pts "share" = some 2 := by decide +kernel
def isStep (t : D) (many : Int) : Bool := match t with
  | .tuple (.str w :: rest) => (match pts w with
    | some k => decide (rest.length = k + (if isShare w then 2 else 0)) && ((rest.take k).all fun x => isW x 0 (many - 1)) && (!isShare w || (isW (rest.getD 2 .none) (-9) 9 && isW (rest.getD 3 .none) 1 9))
    | none => false)
  | _ => false
def wordOf : D → Str
  | .tuple (.str w :: _) => w
  | _ => Str.ofString ""
def hardL : List Str := ["meet", "cross", "foot", "upright", "center", "again"]
def cntW (p : Str → Bool) (ss : List D) : Nat := (ss.filter fun s => p (wordOf s)).length
def allSteps : Int → List D → Bool
  | _, [] => true
  | k, s :: r => isStep s k && allSteps (k + 1) r
def isPlan (d : D) : Bool := match d with
  | .tuple ss => decide (1 ≤ ss.length) && (decide (ss.length ≤ 10) && (allSteps 0 ss && (decide (cntW (· == ("free" : Str)) ss ≤ 4) && (decide (cntW (· == ("slide" : Str)) ss ≤ 1) && decide (cntW (fun w => hardL.contains w) ss ≤ 3)))))
  | _ => false
theorem isStep_ex {s : D} {k : Int} (h : isStep s k = true) : ∃ w rest j, s = .tuple (.str w :: rest) ∧ pts w = some j := by
  cases s with
  | tuple xs =>
    cases xs with
    | nil => cases h
    | cons x r =>
      cases x with
      | str w =>
        simp only [isStep] at h
        cases e : pts w with
        | none => rw [e] at h; cases h
        | some j => exact ⟨w, r, j, rfl, e⟩
      | _ => cases h
  | _ => cases h
theorem allSteps_mem : ∀ {ss : List D} {k : Int}, allSteps k ss = true → ∀ s ∈ ss, ∃ j, isStep s j = true
  | [], _, _, s, hs => by cases hs
  | t :: r, k, h, s, hs => by
    simp only [allSteps, Bool.and_eq_true] at h
    rcases List.mem_cons.mp hs with rfl | hs
    · exact ⟨k, h.1⟩
    · exact allSteps_mem h.2 s hs
theorem cut1 {w : Str} {rest : List D} {k : Nat} : cut (PyData.str w :: rest) (some 1) (some (1 + (k : Int))) = rest.take k := by
  simp only [cut, bnd, List.length_cons]
  rw [if_neg (by omega), if_neg (by omega)]
  rw [show min (Int.toNat 1) (rest.length + 1) = 1 by simp, show min (Int.toNat (1 + (k : Int))) (rest.length + 1) = 1 + min k rest.length by omega]
  simp only [List.drop_succ_cons, List.drop_zero, show 1 + min k rest.length - 1 = min k rest.length by omega]
  by_cases h : k ≤ rest.length
  · rw [Nat.min_eq_left h]
  · rw [Nat.min_eq_right (by omega), List.take_length, List.take_of_length_le (by omega)]
theorem at0 {x : D} {r : List D} : at? (x :: r) 0 = some x := n_at (i := 0) rfl
theorem in_words (w : Str) (ws : List Str) : inD (.str w) (.tuple (ws.map .str)) = .ok (ws.contains w) := by
  have h1 : (ws.map PyData.str).all flatD = true := by rw [List.all_eq_true]; intro x hx; obtain ⟨y, _, rfl⟩ := List.mem_map.mp hx; rfl
  simp only [inD, h1, flatD, Bool.and_self, if_true]
  congr 1
  clear h1
  induction ws with
  | nil => rfl
  | cons x r ih =>
    simp only [List.map_cons, inL, List.contains_cons, PyData.eqv]
    rw [ih]
    by_cases h : x = w
    · subst h; simp
    · rw [show (x == w) = false by simpa using h, show (w == x) = false by simpa using Ne.symm h]
theorem enum_len : ∀ (ss : List D) (k : Int), (enumL k ss).length = ss.length
  | [], _ => rfl
  | s :: r, k => by simp [enumL, enum_len r]
theorem enum_mem : ∀ (ss : List D) (k : Int) (x : D), x ∈ enumL k ss → ∃ j s, x = .tuple [.int j, s] ∧ s ∈ ss
  | [], _, _, h => by cases h
  | s :: r, k, x, h => by
    rcases List.mem_cons.mp h with rfl | h
    · exact ⟨k, s, rfl, List.mem_cons_self⟩
    · obtain ⟨j, t, e, ht⟩ := enum_mem r (k + 1) x h
      exact ⟨j, t, e, List.mem_cons_of_mem _ ht⟩
theorem enum_all : ∀ (ss : List D) (k : Int), (!(((enumL k ss).filter fun x => match x with | .tuple [.int k, s] => !isStep s k | _ => true).map fun _ => PyData.int 1).isEmpty) = !allSteps k ss
  | [], _ => rfl
  | s :: r, k => by
    have ih := enum_all r (k + 1)
    simp only [enumL, List.filter_cons, allSteps]
    by_cases q : isStep s k = true
    · simp only [q, Bool.not_true, Bool.true_and, Bool.false_eq_true, if_false]; exact ih
    · have q' : isStep s k = false := by simpa using q
      simp [q']
theorem cntW1 (w : Str) (ss : List D) : cntW (fun x => [w].contains x) ss = cntW (· == w) ss := by
  unfold cntW
  congr 1
  apply List.filter_congr
  intro s _
  show (List.contains [w] (wordOf s)) = (wordOf s == w)
  rw [List.contains_cons]
  show (wordOf s == w || false) = _
  rw [Bool.or_false]
theorem dle (a n : Nat) : (!decide ((a : Int) < (n : Int))) = decide (n ≤ a) := by rw [Bool.eq_iff_iff]; simp
theorem eqOk_ints (ns : List Int) : eqOk (.list (ns.map .int)) = true := (eqOk_tup fun x hx => by obtain ⟨y, _, rfl⟩ := List.mem_map.mp hx; exact ⟨rfl, Nat.zero_le _⟩).2
theorem emod_lt {a : Int} {b : Nat} (h : 0 < b) : 0 ≤ a.fmod b ∧ a.fmod b < b := ⟨Int.fmod_nonneg_of_pos a (by omega), Int.fmod_lt_of_pos a (by omega)⟩
theorem ints_get {ns : List Int} {k : Nat} (h : k < ns.length) : (ns.map PyData.int)[k]? = some (.int ns[k]) := by simp [h]
/-- a row: sixty numbers below 1000 -/
def IsRow (rs : List Int) : Prop := rs.length = 60 ∧ ∀ x ∈ rs, 0 ≤ x ∧ x < 1000
theorem IsRow.at {rs : List Int} (h : IsRow rs) {k : Nat} (hk : k < 60) : ∃ x : Nat, (rs.map PyData.int)[k]? = some (.int x) ∧ x < 1000 := by
  have hk : k < rs.length := by rw [h.1]; exact hk
  have := h.2 rs[k] (List.getElem_mem hk)
  refine ⟨rs[k].toNat, ?_, by omega⟩
  rw [ints_get hk]
  congr 2
  omega
theorem map_erase (f : Int → D) : ∀ (l : List Int) (i : Nat), (l.eraseIdx i).map f = (l.map f).eraseIdx i
  | [], _ => by simp
  | x :: r, 0 => by simp
  | x :: r, i + 1 => by simp [map_erase f r i]
theorem rng_ints (n : Nat) : ∃ ps : List Int, rngL 0 1 n = ps.map .int ∧ ps.length = n ∧ ∀ p ∈ ps, 0 ≤ p ∧ p < n := by
  refine ⟨(List.range n).map Int.ofNat, ?_, by simp, fun p hp => ?_⟩
  · apply List.ext_getElem?
    intro i
    cases q : (rngL 0 1 n)[i]? with
    | none =>
      have := List.getElem?_eq_none_iff.mp q
      rw [rngL_len] at this
      symm
      rw [List.getElem?_eq_none_iff]
      simpa using this
    | some d =>
      obtain ⟨h1, h2⟩ := rngL_at n 0 i d q
      subst h1
      simp [h2]
  · obtain ⟨m, hm, rfl⟩ := List.mem_map.mp hp
    have := List.mem_range.mp hm
    exact ⟨Int.natCast_nonneg m, by exact Int.ofNat_lt.mpr this⟩
theorem dlt (a n : Nat) : decide ((a : Int) < (n : Int)) = decide (a < n) := by rw [Bool.eq_iff_iff]; simp only [decide_eq_true_eq]; omega
theorem isW_int {x : D} {a b : Int} (h : isW x a b = true) : ∃ i, x = .int i ∧ a ≤ i ∧ i ≤ b := by
  cases x <;> simp only [isW] at h <;> first | cases h | skip
  simp only [Bool.and_eq_true, decide_eq_true_eq] at h
  exact ⟨_, rfl, h.1, h.2⟩
/-- what a step holds behind its word -/
theorem step_ints {w : Str} {rest : List D} {k : Int} (h : isStep (.tuple (.str w :: rest)) k = true) : ∃ ns : List Int, rest = ns.map .int := by
  simp only [isStep] at h
  cases e : pts w with
  | none => rw [e] at h; cases h
  | some j =>
    rw [e] at h
    simp only [Bool.and_eq_true, decide_eq_true_eq, List.all_eq_true] at h
    obtain ⟨⟨h1, h2⟩, h3⟩ := h
    have key : ∀ l : List D, (∀ x ∈ l, ∃ i, x = PyData.int i) → ∃ ns : List Int, l = ns.map .int := by
      intro l
      induction l with
      | nil => exact fun _ => ⟨[], rfl⟩
      | cons y r ih =>
        intro hl
        obtain ⟨i, rfl⟩ := hl y List.mem_cons_self
        obtain ⟨ns, hn⟩ := ih fun x hx => hl x (List.mem_cons_of_mem _ hx)
        exact ⟨i :: ns, by rw [hn]; rfl⟩
    apply key
    intro x hx
    cases hs : isShare w with
    | false =>
      rw [hs] at h1
      have : rest.take j = rest := List.take_of_length_le (by simp at h1; omega)
      rw [this] at h2
      obtain ⟨i, e, _⟩ := isW_int (h2 x hx)
      exact ⟨i, e⟩
    | true =>
      have ew : w = ("share" : Str) := eq_of_beq hs
      have ej : j = 2 := by rw [ew, share_pts] at e; cases e; rfl
      subst ej
      rw [hs] at h1 h3
      match rest, h1, h2, h3, hx with
      | [a, b, c, d], h1, h2, h3, hx =>
        simp only [Bool.not_true, Bool.false_or, Bool.and_eq_true, List.getD_cons_succ, List.getD_cons_zero] at h3
        have a1 := h2 a (by simp)
        have a2 := h2 b (by simp)
        simp only [List.mem_cons, List.not_mem_nil, or_false] at hx
        rcases hx with rfl | rfl | rfl | rfl
        · obtain ⟨i, e, _⟩ := isW_int a1; exact ⟨i, e⟩
        · obtain ⟨i, e, _⟩ := isW_int a2; exact ⟨i, e⟩
        · obtain ⟨i, e, _⟩ := isW_int h3.1; exact ⟨i, e⟩
        · obtain ⟨i, e, _⟩ := isW_int h3.2; exact ⟨i, e⟩
theorem lay_step {s : D} {k : Int} (h : isStep s k = true) : s.canLay0 = true ∧ s.depth ≤ 1 ∧ eqOk s = true := by
  obtain ⟨w, rest, j, rfl, hw⟩ := isStep_ex h
  obtain ⟨ns, rfl⟩ := step_ints h
  have hs : (PyData.str w).canLay0 = true := by
    have := (pts_ok hw).1
    simp only [eqOk, Bool.and_eq_true] at this
    exact this.1
  have key : ∀ l : List Int, PyData.canLayAll0 (l.map .int) = true ∧ PyData.depthAll (l.map .int) = 0 := by
    intro l
    induction l with
    | nil => exact ⟨rfl, rfl⟩
    | cons y r ih => simp only [List.map_cons, PyData.canLayAll0, PyData.depthAll, ih.1, ih.2]; exact ⟨rfl, rfl⟩
  obtain ⟨k1, k2⟩ := key ns
  have c : PyData.canLay0 (.tuple (.str w :: ns.map .int)) = true := by
    simp only [PyData.canLay0, PyData.canLayAll0, Bool.and_eq_true]
    exact ⟨hs, k1⟩
  have dd : PyData.depth (.tuple (.str w :: ns.map .int)) ≤ 1 := by
    show max 0 (PyData.depthAll (ns.map .int)) + 1 ≤ 1
    rw [k2]; decide
  refine ⟨c, dd, ?_⟩
  simp only [eqOk, c, Bool.true_and, decide_eq_true_eq]
  omega
theorem lay_steps {ss : List D} {k : Int} (h : allSteps k ss = true) : eqOk (.tuple ss) = true ∧ eqOk (.list ss) = true := eqOk_tup fun s hs => by
  obtain ⟨j, hj⟩ := allSteps_mem h s hs
  obtain ⟨h1, h2, _⟩ := lay_step hj
  exact ⟨h1, by omega⟩
theorem allSteps_app : ∀ (ss : List D) (k : Int) (s : D), allSteps k (ss ++ [s]) = (allSteps k ss && isStep s (k + ss.length))
  | [], k, s => by simp [allSteps]
  | t :: r, k, s => by
    simp only [List.cons_append, allSteps, allSteps_app r (k + 1) s, List.length_cons, Bool.and_assoc]
    rw [show k + 1 + (r.length : Int) = k + ((r.length + 1 : Nat) : Int) by omega]
theorem cntW_app (p : Str → Bool) (ss : List D) (s : D) : cntW p (ss ++ [s]) = cntW p ss + (if p (wordOf s) then 1 else 0) := by
  unfold cntW
  rw [List.filter_append, List.length_append, List.filter_cons]
  cases p (wordOf s) <;> rfl
def freeT : D := .tuple [.str "free"]
theorem free_step (k : Int) : isStep freeT k = true := by
  have : pts "free" = some 0 := by decide +kernel
  show (match pts "free" with
    | some k' => decide (([] : List D).length = k' + (if isShare "free" then 2 else 0)) && ((([] : List D).take k').all fun x => isW x 0 (k - 1)) && (!isShare "free" || (isW (([] : List D).getD 2 .none) (-9) 9 && isW (([] : List D).getD 3 .none) 1 9))
    | none => false) = true
  rw [this]
  rfl
theorem eqv_free {s : D} {k : Int} (h : isStep s k = true) : PyData.eqv s freeT = (wordOf s == ("free" : Str)) := by
  obtain ⟨w, rest, j, rfl, hw⟩ := isStep_ex h
  simp only [freeT, PyData.eqv, PyData.eqvAll, wordOf]
  by_cases q : w = ("free" : Str)
  · subst q
    have : pts "free" = some 0 := by decide +kernel
    rw [this] at hw
    cases hw
    simp only [isStep, this, Bool.and_eq_true, decide_eq_true_eq] at h
    have hl : rest = [] := by
      have := h.1.1
      rw [show isShare "free" = false by decide +kernel] at this
      exact List.eq_nil_of_length_eq_zero (by simpa using this)
    subst hl
    rfl
  · rw [show (w == ("free" : Str)) = false by simpa using q, Bool.false_and]
theorem cnt_free {ss : List D} {k : Int} (h : allSteps k ss = true) : (ss.filter fun s => PyData.eqv s freeT).length = cntW (· == ("free" : Str)) ss := by
  unfold cntW
  congr 1
  apply List.filter_congr
  intro s hs
  obtain ⟨j, hj⟩ := allSteps_mem h s hs
  exact eqv_free hj
def wordsL : List Str := ["slide", "share", "shift", "turn", "share"]
theorem words_ok {w : Str} (h : w ∈ wordsL ++ hardL) : (∃ k, pts w = some k ∧ k ≤ 5) ∧ (w == ("free" : Str)) = false ∧ eqOk (.str w) = true := by
  have all : ((wordsL ++ hardL).all fun w => (pts w).isSome && !(w == ("free" : Str))) = true := by decide +kernel
  have := List.all_eq_true.mp all w h
  simp only [Bool.and_eq_true, Bool.not_eq_true'] at this
  obtain ⟨h1, h2⟩ := this
  cases e : pts w with
  | none => rw [e] at h1; cases h1
  | some k => exact ⟨⟨k, rfl, (pts_ok e).2⟩, h2, (pts_ok e).1⟩
theorem words_soft {w : Str} (h : w ∈ wordsL) : hardL.contains w = false := by
  have all : (wordsL.all fun w => !hardL.contains w) = true := by decide +kernel
  simpa using List.all_eq_true.mp all w h
theorem mk_step {w : Str} {k many : Nat} {ps : List Int} (hw : pts w = some k) (hs : isShare w = false) (hl : ps.length = k) (hp : ∀ p ∈ ps, 0 ≤ p ∧ p < many) : isStep (.tuple (.str w :: ps.map .int)) many = true := by
  simp only [isStep, hw, hs, Bool.and_eq_true, decide_eq_true_eq, List.length_map, List.all_eq_true]
  refine ⟨⟨by simpa using hl, fun x hx => ?_⟩, rfl⟩
  obtain ⟨p, hp', rfl⟩ := List.mem_map.mp (List.mem_of_mem_take hx)
  have := hp p hp'
  simp only [isW, Bool.and_eq_true, decide_eq_true_eq]
  omega
theorem mk_share {w : Str} {many : Nat} {ps : List Int} {a b : Int} (hs : isShare w = true) (hl : ps.length = 2) (hp : ∀ p ∈ ps, 0 ≤ p ∧ p < many) (ha : -9 ≤ a ∧ a ≤ 9) (hb : 1 ≤ b ∧ b ≤ 9) : isStep (.tuple (.str w :: (ps.map .int ++ [.int a, .int b]))) many = true := by
  have ew : w = ("share" : Str) := eq_of_beq hs
  have hw : pts w = some 2 := by rw [ew]; exact share_pts
  match ps, hl, hp with
  | [x, y], _, hp =>
    have h1 := hp x (by simp)
    have h2 := hp y (by simp)
    simp only [isStep, hw, hs, List.map_cons, List.map_nil, List.cons_append, List.nil_append, List.length_cons, List.length_nil, List.take_succ_cons, List.take_zero, List.all_cons, List.all_nil, isW, List.getD_cons_succ, List.getD_cons_zero]
    simp
    omega
theorem inL_words (w : Str) : ∀ ss : List D, inL (.str w) (ss.map fun s => .str (wordOf s)) = decide (cntW (· == w) ss ≠ 0)
  | [] => rfl
  | s :: r => by
    simp only [List.map_cons, inL, inL_words w r, PyData.eqv]
    have e : cntW (· == w) (s :: r) = (if (wordOf s == w) = true then 1 else 0) + cntW (· == w) r := by
      unfold cntW
      rw [List.filter_cons]
      show List.length (if (wordOf s == w) = true then s :: List.filter (fun s => wordOf s == w) r else List.filter (fun s => wordOf s == w) r) = _
      cases (wordOf s == w) with
      | true => simp [Nat.add_comm]
      | false => simp
    rw [e]
    cases (wordOf s == w) with
    | true => simp
    | false => simp
theorem eqOk_part {xs l : List D} (h : eqOk (.tuple xs) = true) (hl : ∀ x ∈ l, x ∈ xs) : eqOk (.list l) = true := by
  simp only [eqOk, Bool.and_eq_true, decide_eq_true_eq] at h
  obtain ⟨h1, h2⟩ := h
  have h1 : PyData.canLayAll0 xs = true := by simpa only [PyData.canLay0] using h1
  have h2 : PyData.depthAll xs + 1 ≤ 60 := h2
  have key : ∀ xs : List D, PyData.canLayAll0 xs = true → ∀ x ∈ xs, x.canLay0 = true ∧ x.depth ≤ PyData.depthAll xs := by
    intro xs
    induction xs with
    | nil => intro _ x h; cases h
    | cons y r ih =>
      intro h1 x hx
      simp only [PyData.canLayAll0, Bool.and_eq_true] at h1
      simp only [PyData.depthAll]
      rcases List.mem_cons.mp hx with rfl | hx
      · exact ⟨h1.1, Nat.le_max_left _ _⟩
      · have := ih h1.2 x hx
        exact ⟨this.1, Nat.le_trans this.2 (Nat.le_max_right _ _)⟩
  have k := key xs h1
  have key2 : ∀ l : List D, (∀ x ∈ l, x ∈ xs) → PyData.canLayAll0 l = true ∧ PyData.depthAll l ≤ PyData.depthAll xs := by
    intro l
    induction l with
    | nil => exact fun _ => ⟨rfl, Nat.zero_le _⟩
    | cons y r ih =>
      intro hl
      obtain ⟨i1, i2⟩ := ih fun x hx => hl x (List.mem_cons_of_mem _ hx)
      obtain ⟨j1, j2⟩ := k y (hl y List.mem_cons_self)
      simp only [PyData.canLayAll0, PyData.depthAll, i1, j1, Bool.and_self, true_and]
      exact Nat.max_le.mpr ⟨j2, i2⟩
  obtain ⟨m1, m2⟩ := key2 l hl
  have c : PyData.canLay0 (.list l) = true := by simpa only [PyData.canLay0] using m1
  have dd : PyData.depth (.list l) = PyData.depthAll l + 1 := rfl
  simp only [eqOk, c, Bool.true_and, decide_eq_true_eq, dd]
  omega
theorem allSteps_iff : ∀ (ss : List D) (k : Int), allSteps k ss = true ↔ ∀ i (h : i < ss.length), isStep ss[i] (k + i) = true
  | [], k => by simp [allSteps]
  | s :: r, k => by
    simp only [allSteps, Bool.and_eq_true, allSteps_iff r (k + 1)]
    constructor
    · rintro ⟨h1, h2⟩ i hi
      cases i with
      | zero => rw [List.getElem_cons_zero, show k + ((0 : Nat) : Int) = k by omega]; exact h1
      | succ i =>
        have := h2 i (by simpa using hi)
        simp only [List.getElem_cons_succ]
        rw [show k + ((i + 1 : Nat) : Int) = k + 1 + (i : Int) by omega]
        exact this
    · intro h
      refine ⟨by have := h 0 (by simp); rw [List.getElem_cons_zero, show k + ((0 : Nat) : Int) = k by omega] at this; exact this, fun i hi => ?_⟩
      have := h (i + 1) (by simpa using hi)
      simp only [List.getElem_cons_succ] at this
      rw [show k + ((i + 1 : Nat) : Int) = k + 1 + (i : Int) by omega] at this
      exact this
def isWh : D → Bool
  | .int _ => true
  | _ => false
theorem eqv_nil (l : List D) : PyData.eqv (.list l) (.list []) = l.isEmpty := by cases l <;> rfl
theorem eqvT_nil (l : List D) : PyData.eqv (.tuple l) (.tuple []) = l.isEmpty := by cases l <;> rfl
theorem filter_all (p : D → Bool) : ∀ l : List D, (l.filter fun x => !p x).isEmpty = l.all p
  | [] => rfl
  | x :: r => by
    rw [List.filter_cons, List.all_cons]
    cases p x with
    | true => simpa using filter_all p r
    | false => simp
theorem cntW_cons (p : Str → Bool) (s : D) (r : List D) : cntW p (s :: r) = (if p (wordOf s) = true then 1 else 0) + cntW p r := by
  unfold cntW
  rw [List.filter_cons]
  cases p (wordOf s) with
  | true => simp [Nat.add_comm]
  | false => simp
theorem cntL_words (w : Str) : ∀ ss : List D, cntL (.str w) (ss.map fun s => .str (wordOf s)) = cntW (· == w) ss
  | [] => rfl
  | s :: r => by
    rw [cntW_cons]
    rw [List.map_cons, cntL, cntL_words w r]
    rfl
def hardD : D → Bool
  | .str w => hardL.contains w
  | _ => false
theorem hard_words : ∀ ss : List D, ((ss.map fun s => PyData.str (wordOf s)).filter hardD).length = cntW (fun w => hardL.contains w) ss
  | [] => rfl
  | s :: r => by
    rw [cntW_cons, ← hard_words r, List.map_cons, List.filter_cons]
    show List.length (if hardL.contains (wordOf s) = true then _ else _) = _
    cases hardL.contains (wordOf s) with
    | true => simp [Nat.add_comm]
    | false => simp
theorem words_lay {ss : List D} {k : Int} (h : allSteps k ss = true) : eqOk (.list (ss.map fun s => .str (wordOf s))) = true := (eqOk_tup fun y hy => by
  obtain ⟨s, hs, rfl⟩ := List.mem_map.mp hy
  obtain ⟨j, hj⟩ := allSteps_mem h s hs
  obtain ⟨w', rest, k', rfl, hk'⟩ := isStep_ex hj
  have := (pts_ok hk').1
  simp only [eqOk, Bool.and_eq_true] at this
  exact ⟨this.1, Nat.zero_le _⟩).2
theorem cut_mem {α : Type} {xs : List α} {lo hi : Option Int} {x : α} (h : x ∈ cut xs lo hi) : x ∈ xs := List.mem_of_mem_drop (List.mem_of_mem_take h)
theorem cut_len {α : Type} (xs : List α) (lo hi : Option Int) : (cut xs lo hi).length ≤ xs.length := by
  unfold cut
  rw [List.length_take, List.length_drop]
  omega
/-- small data -/
def Sm (k : Nat) (d : D) : Prop := d.canLay0 = true ∧ d.depth ≤ k
theorem Sm.mono {k j : Nat} {d : D} (h : Sm k d) (hk : k ≤ j) : Sm j d := ⟨h.1, Nat.le_trans h.2 hk⟩
theorem Sm.lists {k : Nat} {xs : List D} (h : ∀ x ∈ xs, Sm k x) : PyData.canLayAll0 xs = true ∧ PyData.depthAll xs ≤ k := by
  induction xs with
  | nil => exact ⟨rfl, Nat.zero_le _⟩
  | cons y r ih =>
    obtain ⟨i1, i2⟩ := ih fun x hx => h x (List.mem_cons_of_mem _ hx)
    obtain ⟨j1, j2⟩ := h y List.mem_cons_self
    simp only [PyData.canLayAll0, PyData.depthAll, i1, j1, Bool.and_self, true_and]
    exact Nat.max_le.mpr ⟨j2, i2⟩
theorem Sm.tup {k : Nat} {xs : List D} (h : ∀ x ∈ xs, Sm k x) : Sm (k + 1) (.tuple xs) := by
  obtain ⟨h1, h2⟩ := Sm.lists h
  exact ⟨by simpa only [PyData.canLay0] using h1, Nat.succ_le_succ h2⟩
theorem Sm.lst {k : Nat} {xs : List D} (h : ∀ x ∈ xs, Sm k x) : Sm (k + 1) (.list xs) := by
  obtain ⟨h1, h2⟩ := Sm.lists h
  exact ⟨by simpa only [PyData.canLay0] using h1, Nat.succ_le_succ h2⟩
theorem Sm.ok {k : Nat} {d : D} (h : Sm k d) (hk : k ≤ 60) : eqOk d = true := by
  simp only [eqOk, h.1, Bool.true_and, decide_eq_true_eq]
  exact Nat.le_trans h.2 hk
theorem Sm.int (k : Nat) (i : Int) : Sm k (.int i) := ⟨rfl, Nat.zero_le _⟩
theorem sm_step {s : D} {k : Int} (h : isStep s k = true) : ∃ w ns, s = .tuple (.str w :: ns) ∧ ns.length ≤ 7 ∧ (∀ x ∈ PyData.str w :: ns, Sm 0 x) := by
  obtain ⟨w, rest, j, rfl, hw⟩ := isStep_ex h
  obtain ⟨ns, hn⟩ := step_ints h
  have hl : rest.length ≤ 7 := by
    simp only [isStep, hw, Bool.and_eq_true, decide_eq_true_eq] at h
    have h5 := (pts_ok hw).2
    have h6 := h.1.1
    cases q : isShare w <;> rw [q] at h6 <;> simp at h6 <;> omega
  refine ⟨w, rest, rfl, hl, fun x hx => ?_⟩
  rcases List.mem_cons.mp hx with rfl | hx
  · have := (pts_ok hw).1
    simp only [eqOk, Bool.and_eq_true] at this
    exact ⟨this.1, Nat.zero_le _⟩
  · subst hn
    obtain ⟨i, _, rfl⟩ := List.mem_map.mp hx
    exact Sm.int 0 i
theorem cntL_free : ∀ {ss : List D} {k : Int}, allSteps k ss = true → cntL freeT ss = cntW (· == ("free" : Str)) ss
  | [], _, _ => rfl
  | s :: r, k, h => by
    simp only [allSteps, Bool.and_eq_true] at h
    rw [cntW_cons, cntL, cntL_free h.2, eqv_free h.1]
end Ad
set_option linter.all false
set_option maxRecDepth 100000
set_option maxHeartbeats 4000000
/-! Claims, in plain words. -/
namespace Ad
open PySem
def clsL : List (Str × Nat) := [("line", 3), ("parallel", 4), ("right", 4), ("same", 2), ("middle", 3), ("long", 4), ("areas", 6), ("share", 4), ("round", 4), ("one", 6), ("angle", 8)]
def clsW (w : Str) : Option Nat := clsL.lookup w
def clsD : List (D × D) := clsL.map fun q => (.str q.1, .int q.2)
theorem okK_cls (w : Str) : okK (.str w) clsD = true := rfl
theorem cls_in (w : Str) : inD (.str w) (.dict clsD) = .ok (clsW w).isSome := by
  simp only [inD, okK_cls, if_true, clsD, find_pts]
  rw [show List.lookup w clsL = clsW w from rfl]
  cases clsW w <;> rfl
theorem cls_idx {w : Str} {k : Nat} (h : clsW w = some k) : idxD (.dict clsD) (.str w) = .ok (.int k) := by
  simp only [idxD, okK_cls, if_true, clsD, find_pts]
  rw [show List.lookup w clsL = some k from h]; rfl
theorem cls_mem {w : Str} {k : Nat} (h : clsW w = some k) : (w, k) ∈ clsL := by
  unfold clsW at h
  generalize clsL = l at h
  induction l with
  | nil => cases h
  | cons q r ih =>
    obtain ⟨x, j⟩ := q
    rw [List.lookup_cons] at h
    cases e : (w == x) with
    | true => rw [e] at h; cases h; rw [beq_iff_eq.mp e]; exact List.mem_cons_self
    | false => rw [e] at h; exact List.mem_cons_of_mem _ (ih h)
theorem cls_ok {w : Str} {k : Nat} (h : clsW w = some k) : eqOk (.str w) = true ∧ k ≤ 8 := by
  have := cls_mem h
  have all : (clsL.all fun q => eqOk (.str q.1) && decide (q.2 ≤ 8)) = true := by decide +kernel
  have := List.all_eq_true.mp all _ this
  simpa using this
theorem share_cls : clsW "share" = some 4 := by decide +kernel
def isClaim (many : Int) (t : D) : Bool := match t with
  | .tuple (.str w :: rest) => (match clsW w with
    | some k => decide (rest.length = k + (if isShare w then 2 else 0)) && ((rest.take k).all fun x => isW x 0 (many - 1)) && (!isShare w || (isW (rest.getD 4 .none) (-9) 9 && isW (rest.getD 5 .none) 1 9))
    | none => false)
  | _ => false
theorem eqOk_shareC : eqOk (.str "share") = true := by decide +kernel
theorem cutR1 {w : Str} {rest : List D} : cut (PyData.str w :: rest) (some 1) none = rest := by
  simp only [cut, bnd, List.length_cons]
  rw [if_neg (by omega), show min (Int.toNat 1) (rest.length + 1) = 1 by simp]
  simp
theorem claim_ints {w : Str} {rest : List D} {k : Int} (h : isClaim k (.tuple (.str w :: rest)) = true) : rest.all isWh = true := by
  have wh : ∀ {x : D} {a b : Int}, isW x a b = true → isWh x = true := fun {x a b} h => by
    obtain ⟨i, rfl, _⟩ := isW_int h; rfl
  simp only [isClaim] at h
  cases e : clsW w with
  | none => rw [e] at h; cases h
  | some j =>
    rw [e] at h
    simp only [Bool.and_eq_true, decide_eq_true_eq, List.all_eq_true] at h
    obtain ⟨⟨h1, h2⟩, h3⟩ := h
    rw [List.all_eq_true]
    intro x hx
    cases hs : isShare w with
    | false =>
      rw [hs] at h1
      have : rest.take j = rest := List.take_of_length_le (by simp at h1; omega)
      rw [this] at h2
      exact wh (h2 x hx)
    | true =>
      have ew : w = ("share" : Str) := eq_of_beq hs
      have ej : j = 4 := by rw [ew, share_cls] at e; cases e; rfl
      subst ej
      rw [hs] at h1 h3
      match rest, h1, h2, h3, hx with
      | [a, b, c, d, e, f], h1, h2, h3, hx =>
        simp only [Bool.not_true, Bool.false_or, Bool.and_eq_true, List.getD_cons_succ, List.getD_cons_zero] at h3
        have a1 := h2 a (by simp)
        have a2 := h2 b (by simp)
        have a3 := h2 c (by simp)
        have a4 := h2 d (by simp)
        simp only [List.mem_cons, List.not_mem_nil, or_false] at hx
        rcases hx with rfl | rfl | rfl | rfl | rfl | rfl
        · exact wh a1
        · exact wh a2
        · exact wh a3
        · exact wh a4
        · exact wh h3.1
        · exact wh h3.2
theorem step_len {w : Str} {ns : List Int} {j : Int} {L : Nat} (h : isStep (.tuple (.str w :: ns.map .int)) j = true) (hL : (pts w).map (fun k => k + (if isShare w then 2 else 0)) = some L) : ns.length = L := by
  simp only [isStep] at h
  cases e : pts w with
  | none => rw [e] at h; cases h
  | some k =>
    rw [e] at h hL
    simp only [Option.map_some, Option.some.injEq] at hL
    simp only [Bool.and_eq_true, decide_eq_true_eq, List.length_map] at h
    rw [h.1.1]; exact hL
theorem rngL_mem : ∀ (n : Nat) (a : Int) (d : D), d ∈ rngL a 1 n → ∃ i : Nat, d = .int (a + i) ∧ i < n := fun n a d hd => by
  obtain ⟨i, hi⟩ := List.getElem?_of_mem hd
  obtain ⟨h1, h2⟩ := rngL_at n a i d hi
  exact ⟨i, h1, h2⟩
end Ad
set_option Elab.async false
set_option linter.all false
set_option maxRecDepth 100000
/-! What points hang on, in plain words. -/
namespace Ad
open PySem
/-- j is reached from k -/
inductive Rch (N : Nat → List Int) : Nat → Int → Prop
  | one {k : Nat} {j : Int} : j ∈ N k → Rch N k j
  | more {k : Nat} {p j : Int} : p ∈ N k → Rch N p.toNat j → Rch N k j
/-- each names points ahead of it -/
def Ahead (N : Nat → List Int) : Prop := ∀ k, ∀ p ∈ N k, 0 ≤ p ∧ p < (k : Int)
theorem Rch.lt {N : Nat → List Int} (h : Ahead N) {k : Nat} {j : Int} (r : Rch N k j) : 0 ≤ j ∧ j < (k : Int) := by
  induction r with
  | one hp => exact h _ _ hp
  | more hp _ ih => have := h _ _ hp; omega
theorem Rch.trans {N : Nat → List Int} {k : Nat} {p j : Int} (r : Rch N k p) (q : Rch N p.toNat j) : Rch N k j := by
  induction r with
  | one hp => exact .more hp q
  | more hp _ ih => exact .more hp (ih q)
/-- the lists of what is below, made one behind another -/
def belS (N : Nat → List Int) (acc : List (List Int)) : List Int := usort (N acc.length ++ (N acc.length).flatMap fun p => acc.getD p.toNat [])
def belN (N : Nat → List Int) : Nat → List (List Int)
  | 0 => []
  | n + 1 => belN N n ++ [belS N (belN N n)]
theorem belN_len (N : Nat → List Int) : ∀ n, (belN N n).length = n
  | 0 => rfl
  | n + 1 => by simp [belN, belN_len N n]
theorem belN_get (N : Nat → List Int) : ∀ n k, k < n → (belN N n).getD k [] = (belN N (k + 1)).getD k []
  | n + 1, k, h => by
    by_cases e : k = n
    · subst e; rfl
    · have hk : k < n := by omega
      rw [← belN_get N n k hk, show belN N (n + 1) = belN N n ++ [belS N (belN N n)] from rfl, List.getD_eq_getElem?_getD, List.getElem?_append_left (by rw [belN_len]; exact hk), List.getD_eq_getElem?_getD]
theorem belN_mem {N : Nat → List Int} (h : Ahead N) (k : Nat) : ∀ n, k < n → ∀ j, j ∈ (belN N n).getD k [] ↔ Rch N k j := by
  induction k using Nat.strongRecOn with
  | _ k ih =>
    intro n hn j
    rw [belN_get N n k hn, show belN N (k + 1) = belN N k ++ [belS N (belN N k)] from rfl]
    have e : (belN N k ++ [belS N (belN N k)]).getD k [] = belS N (belN N k) := by
      have := belN_len N k
      simp [List.getD_eq_getElem?_getD, this]
    rw [e]
    unfold belS
    rw [usort_mem, belN_len, List.mem_append, List.mem_flatMap]
    constructor
    · rintro (a | ⟨p, hp, hj⟩)
      · exact .one a
      · have := h k p hp
        exact .more hp ((ih p.toNat (by omega) k (by omega) j).mp hj)
    · intro r
      cases r with
      | one a => exact .inl a
      | more hp q => exact .inr ⟨_, hp, by have := h k _ hp; exact (ih _ (by omega) k (by omega) j).mpr q⟩
theorem belN_up (N : Nat → List Int) (n k : Nat) (h : k < n) : ((belN N n).getD k []).Pairwise (· < ·) := by
  rw [belN_get N n k h, show belN N (k + 1) = belN N k ++ [belS N (belN N k)] from rfl]
  have e : (belN N k ++ [belS N (belN N k)]).getD k [] = belS N (belN N k) := by
    have := belN_len N k
    simp [List.getD_eq_getElem?_getD, this]
  rw [e]
  exact usort_up _
/-! ### dicts of whole numbers -/
def kD (ks : List Int) : List (D × D) := ks.map fun i => (.int i, .bool true)
theorem eqv_int (i j : Int) : PyData.eqv (.int i) (.int j) = decide (i = j) := by
  show (i == j) = _
  rw [Bool.eq_iff_iff]; simp
theorem kD_ok (i : Int) (ks : List Int) : okK (.int i) (kD ks) = true := by cases ks <;> rfl
theorem kD_find (i : Int) : ∀ ks : List Int, (findK (.int i) (kD ks)).isSome = decide (i ∈ ks)
  | [] => rfl
  | k :: r => by
    show (if PyData.eqv (.int k) (.int i) then some _ else findK (.int i) (kD r)).isSome = _
    rw [eqv_int]
    by_cases e : k = i
    · subst e; simp
    · rw [decide_eq_false e, if_neg (by decide), kD_find i r]
      simp [Ne.symm e]
theorem kD_put (i : Int) : ∀ ks : List Int, putK (.int i) (.bool true) (kD ks) = kD (if i ∈ ks then ks else ks ++ [i])
  | [] => rfl
  | k :: r => by
    show (if PyData.eqv (.int k) (.int i) then (PyData.int k, PyData.bool true) :: kD r else (PyData.int k, PyData.bool true) :: putK (.int i) (.bool true) (kD r)) = _
    rw [eqv_int]
    by_cases e : k = i
    · subst e; simp [kD]
    · rw [decide_eq_false e, if_neg (by decide), kD_put i r]
      by_cases hm : i ∈ r
      · simp [hm, kD]
      · simp [hm, Ne.symm e, kD]
theorem kD_in (i : Int) (ks : List Int) : inD (.int i) (.dict (kD ks)) = .ok (decide (i ∈ ks)) := by
  show (if okK (.int i) (kD ks) then R.ok (findK (.int i) (kD ks)).isSome else R.bad) = _
  rw [if_pos (kD_ok i ks), kD_find]
/-! ### sorted -/
theorem leD_int (i j : Int) : leD (.int i) (.int j) = decide (i ≤ j) := by
  have e : PySem.W.dataLt (.int j) (.int i) = decide (j < i) := PySem.W.lex_one (.inl j) (.inl i)
  unfold leD
  rw [e, Bool.eq_iff_iff]; simp
theorem ins_int (i : Int) : ∀ l : List Int, i ∉ l → insL (.int i) (l.map .int) = (uins i l).map .int
  | [], _ => rfl
  | a :: r, h => by
    simp only [List.mem_cons, not_or] at h
    show (if leD (.int i) (.int a) then _ else _) = _
    rw [leD_int]
    unfold uins
    by_cases c : i < a
    · rw [decide_eq_true (by omega : i ≤ a), if_pos rfl, if_pos c]; rfl
    · rw [decide_eq_false (by omega), if_neg (by decide), if_neg c, if_neg h.1, ins_int i r h.2]; rfl
theorem isort_ints : ∀ l : List Int, l.Nodup → isort (l.map .int) = (usort l).map .int
  | [], _ => rfl
  | i :: r, h => by
    rw [List.nodup_cons] at h
    show insL (.int i) (isort (r.map .int)) = _
    rw [isort_ints r h.2, ins_int i _ (by rw [usort_mem]; exact h.1)]; rfl
theorem sortOk_ints (l : List Int) (h : l.length ≤ line) : sortOk (l.map .int) = true := by
  have h1 : ∀ x ∈ l.map PyData.int, ∃ i, x = .int i := fun x hx => by obtain ⟨i, _, rfl⟩ := List.mem_map.mp hx; exact ⟨i, rfl⟩
  simp only [sortOk, Bool.and_eq_true, Bool.or_eq_true, List.all_eq_true, decide_eq_true_eq, List.length_map]
  refine ⟨⟨⟨fun a ha b hb => ?_, .inr fun a ha => ?_⟩, fun a ha => ?_⟩, h⟩
  · obtain ⟨i, rfl⟩ := h1 a ha; obtain ⟨j, rfl⟩ := h1 b hb; rfl
  · obtain ⟨i, rfl⟩ := h1 a ha; rfl
  · obtain ⟨i, rfl⟩ := h1 a ha; exact ⟨rfl, Nat.zero_le _⟩
theorem sorted_list (l : List Int) (hn : l.Nodup) (h : l.length ≤ line) : sortedD [.list (l.map .int)] = .ok (.list ((usort l).map .int)) := by
  simp only [sortedD, sortD, sortOk_ints l h, if_true, isort_ints l hn]; rfl
theorem sorted_dict (l : List Int) (hn : l.Nodup) (h : l.length ≤ line) : sortedD [.dict (kD l)] = .ok (.list ((usort l).map .int)) := by
  have e : (kD l).map (·.1) = l.map .int := by simp [kD]
  have a : (kD l).all (fun p => keyF p.1) = true := by simp [kD, keyF]
  simp only [sortedD, a, if_true, e, sortD, sortOk_ints l h, isort_ints l hn]; rfl
/-- what the downward walk has found at its end -/
theorem found_all {N : Nat → List Int} (h : Ahead N) {pt : Nat} {ks : List Int} (h0 : (pt : Int) ∈ ks) (hc : ∀ k ∈ ks, ∀ j ∈ N k.toNat, j ∈ ks) (hs : ∀ k ∈ ks, k = pt ∨ Rch N pt k) (j : Int) : (j ∈ ks ∧ j ≠ pt) ↔ Rch N pt j := by
  have cl : ∀ {k : Nat} {j : Int}, Rch N k j → (k : Int) ∈ ks → j ∈ ks := fun {k j} r => by
    induction r with
    | one hp => exact fun hk => hc _ hk _ (by simpa using hp)
    | @more k p j hp _ ih =>
      intro hk
      have hpk := hc _ hk p (by simpa using hp)
      have := h k p hp
      exact ih (by rw [Int.toNat_of_nonneg this.1]; exact hpk)
  constructor
  · rintro ⟨a, b⟩
    exact (hs j a).resolve_left b
  · intro r
    exact ⟨cl r h0, by have := r.lt h; omega⟩
/-! ### the points that a step names -/
def nam (s : D) : List Int := match s with
  | .tuple (.str w :: rest) => (rest.take ((pts w).getD 0)).filterMap fun x => match x with
    | .int i => some i
    | _ => none
  | _ => []
theorem ints_back (l : List Int) : (l.map PyData.int).filterMap (fun x => match x with
    | .int i => some i
    | _ => none) = l := by
  induction l with
  | nil => rfl
  | cons a r ih => simp only [List.map_cons, List.filterMap_cons, ih]
theorem nam_step {s : D} {k : Int} (h : isStep s k = true) : ∃ (w : Str) (ns : List Int) (j : Nat), s = .tuple (.str w :: ns.map .int) ∧ pts w = some j ∧ j ≤ ns.length ∧ nam s = ns.take j ∧ ∀ p ∈ nam s, 0 ≤ p ∧ p < k := by
  obtain ⟨w, rest, j, rfl, hj⟩ := isStep_ex h
  obtain ⟨ns, rfl⟩ := step_ints h
  have e : nam (.tuple (.str w :: ns.map .int)) = ns.take j := by
    show ((ns.map PyData.int).take ((pts w).getD 0)).filterMap _ = _
    rw [hj, Option.getD_some, ← List.map_take]
    exact ints_back _
  simp only [isStep, hj, Bool.and_eq_true, decide_eq_true_eq, List.all_eq_true] at h
  obtain ⟨⟨h1, h2⟩, h3⟩ := h
  rw [List.length_map] at h1
  refine ⟨w, ns, j, rfl, hj, by omega, e, fun p hp => ?_⟩
  rw [e] at hp
  have := h2 (.int p) (by rw [← List.map_take]; exact List.mem_map.mpr ⟨p, hp, rfl⟩)
  obtain ⟨i, e1, e2, e3⟩ := isW_int this
  cases e1
  omega
def NN (ss : List D) (k : Nat) : List Int := nam (ss.getD k .none)
theorem ahead_of {ss : List D} (h : allSteps 0 ss = true) : Ahead (NN ss) := fun k p hp => by
  unfold NN at hp
  by_cases hk : k < ss.length
  · have hs := (allSteps_iff ss 0).mp h k hk
    rw [List.getD_eq_getElem?_getD, List.getElem?_eq_getElem hk, Option.getD_some] at hp
    obtain ⟨_, _, _, _, _, _, _, h4⟩ := nam_step hs
    have := h4 p hp
    omega
  · rw [List.getD_eq_getElem?_getD, List.getElem?_eq_none (by omega)] at hp
    cases hp
theorem nam_at {ss : List D} (h : allSteps 0 ss = true) {k : Nat} (hk : k < ss.length) : ∃ (w : Str) (ns : List Int) (j : Nat), ss[k]? = some (.tuple (.str w :: ns.map .int)) ∧ pts w = some j ∧ j ≤ ns.length ∧ NN ss k = ns.take j := by
  obtain ⟨w, ns, j, h1, h2, h3, h4, _⟩ := nam_step ((allSteps_iff ss 0).mp h k hk)
  refine ⟨w, ns, j, by rw [List.getElem?_eq_getElem hk, h1], h2, h3, ?_⟩
  unfold NN
  rw [List.getD_eq_getElem?_getD, List.getElem?_eq_getElem hk, Option.getD_some, h4]
theorem rngD_at : ∀ (n : Nat) (a : Int) (i : Nat) (d : D), (rngL a (-1) n)[i]? = some d → d = .int (a - i) ∧ i < n
  | 0, _, _, _, h => by simp [rngL] at h
  | n + 1, a, 0, d, h => by simp [rngL] at h; exact ⟨by rw [← h]; simp, by omega⟩
  | n + 1, a, i + 1, d, h => by
    simp only [rngL, List.getElem?_cons_succ] at h
    obtain ⟨h1, h2⟩ := rngD_at n (a + -1) i d h
    exact ⟨by rw [h1]; congr 1; push_cast; omega, by omega⟩
end Ad
set_option Elab.async false
set_option linter.all false
set_option maxRecDepth 100000
/-! Running the evaluator by rewriting. -/
namespace Ad
open PySem
theorem at0' (x : D) (r : List D) : at? (x :: r) 0 = some x := n_at (i := 0) rfl
theorem at1' (x y : D) (r : List D) : at? (x :: y :: r) 1 = some y := n_at (i := 1) rfl
theorem at2' (x y z : D) (r : List D) : at? (x :: y :: z :: r) 2 = some z := n_at (i := 2) rfl
theorem at3' (x y z u : D) (r : List D) : at? (x :: y :: z :: u :: r) 3 = some u := n_at (i := 3) rfl
theorem at4' (x y z u v : D) (r : List D) : at? (x :: y :: z :: u :: v :: r) 4 = some v := n_at (i := 4) rfl
theorem at5' (x y z u v w : D) (r : List D) : at? (x :: y :: z :: u :: v :: w :: r) 5 = some w := n_at (i := 5) rfl
theorem at6' (x y z u v w a : D) (r : List D) : at? (x :: y :: z :: u :: v :: w :: a :: r) 6 = some a := n_at (i := 6) rfl
theorem at7' (x y z u v w a b : D) (r : List D) : at? (x :: y :: z :: u :: v :: w :: a :: b :: r) 7 = some b := n_at (i := 7) rfl
theorem cmpIs0 (d : D) : cmpD .Is d .none = .ok (isNone d) := by cases d <;> rfl
theorem cmpIsN (d : D) : cmpD .IsNot d .none = .ok (!isNone d) := by cases d <;> rfl
theorem eqv_int' (i j : Int) : PyData.eqv (.int i) (.int j) = decide (i = j) := by
  show (i == j) = _
  rw [Bool.eq_iff_iff]; simp
theorem eqI (i j : Int) : cmpD .Eq (.int i) (.int j) = .ok (decide (i = j)) := by rw [n_eq _ _ rfl rfl, eqv_int']
theorem neI (i j : Int) : cmpD .NotEq (.int i) (.int j) = .ok (!decide (i = j)) := by rw [n_ne _ _ rfl rfl, eqv_int']
theorem eqv_self {d : D} (h : eqOk d = true) : PyData.eqv d d = true := PySem.SeqAt.eqv_refl d (by simp only [eqOk, Bool.and_eq_true] at h; exact h.1)
theorem ne_self {d : D} (h : eqOk d = true) : cmpD .NotEq d d = .ok false := by rw [n_ne _ _ h h, eqv_self h]; rfl
theorem eq_self {d : D} (h : eqOk d = true) : cmpD .Eq d d = .ok true := by rw [n_eq _ _ h h, eqv_self h]
theorem idxL_int (p : Int) : ∀ l : List Int, p ∈ l → idxL (.int p) (l.map .int) = some (l.idxOf p)
  | [], h => by cases h
  | a :: r, h => by
    simp only [List.map_cons, idxL, eqv_int', List.idxOf_cons]
    by_cases e : a = p
    · subst e; simp
    · have hr : p ∈ r := by rcases List.mem_cons.mp h with h | h; exact absurd h.symm e; exact h
      rw [decide_eq_false e, idxL_int p r hr, show (a == p) = false by simpa using e]; simp
/-- a step with its points by their places in a list -/
def stp (ks : List Int) (s : D) : D := match s with
  | .tuple (.str w :: rest) => .tuple ((.str w :: ((rest.take ((pts w).getD 0)).map fun x => match x with
    | .int p => .int (ks.idxOf p)
    | d => d)) ++ rest.drop ((pts w).getD 0))
  | d => d
theorem cut_drop {x : D} {rest : List D} {k : Nat} : cut (x :: rest) (some (1 + (k : Int))) none = rest.drop k := by
  simp only [cut, bnd, List.length_cons]
  rw [if_neg (by omega)]
  rw [show min (Int.toNat (1 + (k : Int))) (rest.length + 1) = 1 + min k rest.length by omega]
  rw [show 1 + min k rest.length = (min k rest.length) + 1 by omega, List.drop_succ_cons]
  by_cases h : k ≤ rest.length
  · rw [Nat.min_eq_left h, List.take_of_length_le (by rw [List.length_drop]; omega)]
  · rw [Nat.min_eq_right (by omega), List.drop_of_length_le (Nat.le_refl _), List.drop_of_length_le (by omega)]; simp
theorem lend_fz {ρ : List Sl} {i : Nat} {d : D} (h : ρ[i]? = some (.fz d)) : (lend ρ)[i]? = some (.fz d) := by
  simp [lend, h, Sl.lend]
/-- the step of part_of -/
theorem stp_ev (cl : Nat → List D → List (Str × D) → R D) {ρ : List Sl} {a b c d : Nat} {ks ns : List Int} {w : Str} {j : Nat} (hj : pts w = some j) (hjl : j ≤ ns.length) (hns : ns.length ≤ 10) (hk : ∀ p ∈ ns.take j, p ∈ ks) (hkl : ks.length ≤ 1000)
    (ha : ρ[a]? = some (.fz (.tuple (.str w :: ns.map .int)))) (hb : ρ[b]? = some (.fz (.list (ks.map .int)))) (hd : ρ[d]? = some (.fz (.int (1 + (j : Int))))) (hc : c < ρ.length) (hbc : b ≠ c) :
    ev cl ρ .v (.bin .Add (.bin .Add (.tup [.idx (.var a) (.lit (.int 0))]) (.pr .tuple [.lc (.mt .index (.var b) [.var c]) (.nm c) (.seq (.slc (.var a) (some (.lit (.int 1))) (some (.var d)))) [] [c]])) (.slc (.var a) (some (.var d)) none)) = .ok (stp ks (.tuple (.str w :: ns.map .int))) := by
  have hlc : ev cl ρ .r (.lc (.mt .index (.var b) [.var c]) (.nm c) (.seq (.slc (.var a) (some (.lit (.int 1))) (some (.var d)))) [] [c]) = .ok (.list ((ns.take j).map fun p => .int (ks.idxOf p))) := by
    rw [n_lc (ds := (ns.take j).map .int) (fun _ => true) (fun x => match x with
      | .int p => .int (ks.idxOf p)
      | d => d) (by simp [evI, ev, getR, getV, ha, hd, evO, intO, n_ok, n_fv, n_fr, slcD, cut1, seqL, List.map_take])]
    · rw [List.filter_eq_self.mpr (by intro x _; rfl), List.map_map]; rfl
    · intro x hx
      obtain ⟨p, hp, rfl⟩ := List.mem_map.mp hx
      have hlen : c < (wipeS (lend ρ) [c]).length := by simp [wipeS, lend, hc]
      refine ⟨_, by simp only [bindT, hlen, if_true]; rfl, rfl, fun _ => ?_⟩
      have hcx : ((wipeS (lend ρ) [c]).set c (.fz (.int p)))[c]? = some (.fz (.int p)) := by simp [hlen]
      have hbx : ((wipeS (lend ρ) [c]).set c (.fz (.int p)))[b]? = some (.fz (.list (ks.map .int))) := by
        rw [List.getElem?_set_ne (Ne.symm hbc)]
        simp only [wipeS]
        rw [List.getElem?_set_ne (Ne.symm hbc)]
        exact lend_fz hb
      simp [ev, evs, getR, getV, hcx, hbx, n_ok, n_fr, n_fv, mtTy, Mt.md, mtD, eqOk_int, eqOk_ints, idxL_int p ks (hk p hp)]
    · rw [List.length_map, List.length_take]; unfold line; omega
  have e1 : (List.map (fun x => match x with
      | PyData.int p => PyData.int ↑(List.idxOf p ks)
      | d => d) (List.map PyData.int (List.take j ns))) = (ns.take j).map fun p => .int (ks.idxOf p) := by rw [List.map_map]; rfl
  have hl1 : 1 + (min j ns.length) ≤ line := by unfold line; omega
  have hl2 : 1 + min j ns.length + (ns.length - j) ≤ line := by unfold line; omega
  have hlr : ∀ m : Md, ev cl ρ m (.pr .tuple [.lc (.mt .index (.var b) [.var c]) (.nm c) (.seq (.slc (.var a) (some (.lit (.int 1))) (some (.var d)))) [] [c]]) = m.fin (.tuple ((ns.take j).map fun p => .int (ks.idxOf p))) := fun m => by rw [n_pr1 hlc]; rfl
  have h0 : ev cl ρ .r (.tup [.idx (.var a) (.lit (.int 0))]) = .ok (.tuple [.str w]) := by simp [ev, evs, getR, ha, n_ok, n_fr, n_fv, n_idxT, at0', n_of]
  have h2 : ev cl ρ .r (.slc (.var a) (some (.var d)) none) = .ok (.tuple ((ns.drop j).map .int)) := by simp [ev, getR, getV, ha, hd, evO, intO, n_ok, n_fv, n_fr, slcD, cut_drop]
  rw [n_bin (x := .tuple (.str w :: (ns.take j).map fun p => .int (ks.idxOf p))) (by rw [n_bin h0 (hlr .r), n_addT _ _ (by simp; omega)]; rfl) h2, n_addT _ _ (by simp; omega)]
  simp only [n_ok, n_fv, stp, hj, Option.getD_some, ← List.map_take, ← List.map_drop, e1]
end Ad
set_option Elab.async false
set_option linter.all false
set_option maxRecDepth 100000
/-! Running by rewriting, one part after another: what is to come stays as it is written. -/
namespace Ad
open PySem
abbrev Cl0 := Nat → List D → List (Str × D) → R D
section
variable (cl : Cl0) (ρ : List Sl)
def seqE (o : Option Out) (r : List S) : Option Out := match o with
  | some (.nx ρ) => evSs cl ρ r
  | o => o
theorem q_nx (r : List S) : seqE cl (some (.nx ρ)) r = evSs cl ρ r := rfl
theorem q_rt (d : D) (r : List S) : seqE cl (some (.rt d)) r = some (.rt d) := rfl
theorem q_ct (r : List S) : seqE cl (some (.ct ρ)) r = some (.ct ρ) := rfl
theorem q_ex (c : Str) (fs : List (Str × D)) (r : List S) : seqE cl (some (.ex c fs ρ)) r = some (.ex c fs ρ) := rfl
theorem sz_nil : evSs cl ρ [] = some (.nx ρ) := by simp only [evSs]
def frzE (o : Option Sl) (ρ : List Sl) (i : Nat) (r : List S) : Option Out := match o with
  | some (.ow d) => evSs cl (ρ.set i (.fz d)) r
  | some (.fz d) => evSs cl ρ r
  | _ => none
theorem sz_frz (i : Nat) (r : List S) : evSs cl ρ (.frz i :: r) = frzE cl ρ[i]? ρ i r := by
  simp only [evSs]
  unfold frzE
  try (cases ρ[i]? with
    | none => rfl
    | some s => cases s <;> rfl)
theorem frz_ow (d : D) (i : Nat) (r : List S) : frzE cl (some (.ow d)) ρ i r = evSs cl (ρ.set i (.fz d)) r := rfl
theorem frz_fz (d : D) (i : Nat) (r : List S) : frzE cl (some (.fz d)) ρ i r = evSs cl ρ r := rfl
theorem sz_asg (t : T) (e : E) (r : List S) : evSs cl ρ ((.asg t e) :: r) = seqE cl (evS cl ρ (.asg t e)) r := by rw [evSs] <;> first | rfl | (intro i z; cases z)
theorem sz_asgN (i : Nat) (c : E) (f : Nat) (g : Nat) (r : List S) : evSs cl ρ ((.asgN i c f g) :: r) = seqE cl (evS cl ρ (.asgN i c f g)) r := by rw [evSs] <;> first | rfl | (intro i z; cases z)
theorem sz_own (i : Nat) (e : E) (r : List S) : evSs cl ρ ((.own i e) :: r) = seqE cl (evS cl ρ (.own i e)) r := by rw [evSs] <;> first | rfl | (intro i z; cases z)
theorem sz_asgF (i : Nat) (f : F) (r : List S) : evSs cl ρ ((.asgF i f) :: r) = seqE cl (evS cl ρ (.asgF i f)) r := by rw [evSs] <;> first | rfl | (intro i z; cases z)
theorem sz_par (ts : List T) (es : List E) (r : List S) : evSs cl ρ ((.par ts es) :: r) = seqE cl (evS cl ρ (.par ts es)) r := by rw [evSs] <;> first | rfl | (intro i z; cases z)
theorem sz_app (i : Nat) (f : F) (r : List S) : evSs cl ρ ((.app i f) :: r) = seqE cl (evS cl ρ (.app i f)) r := by rw [evSs] <;> first | rfl | (intro i z; cases z)
theorem sz_put (i : Nat) (k : E) (e : E) (r : List S) : evSs cl ρ ((.put i k e) :: r) = seqE cl (evS cl ρ (.put i k e)) r := by rw [evSs] <;> first | rfl | (intro i z; cases z)
theorem sz_aug (i : Nat) (e : E) (r : List S) : evSs cl ρ ((.aug i e) :: r) = seqE cl (evS cl ρ (.aug i e)) r := by rw [evSs] <;> first | rfl | (intro i z; cases z)
theorem sz_augI (i : Nat) (k : E) (e : E) (r : List S) : evSs cl ρ ((.augI i k e) :: r) = seqE cl (evS cl ρ (.augI i k e)) r := by rw [evSs] <;> first | rfl | (intro i z; cases z)
theorem sz_popD (i : Nat) (e : E) (r : List S) : evSs cl ρ ((.popD i e) :: r) = seqE cl (evS cl ρ (.popD i e)) r := by rw [evSs] <;> first | rfl | (intro i z; cases z)
theorem sz_rem (i : Nat) (e : E) (r : List S) : evSs cl ρ ((.rem i e) :: r) = seqE cl (evS cl ρ (.rem i e)) r := by rw [evSs] <;> first | rfl | (intro i z; cases z)
theorem sz_ext (i : Nat) (e : E) (r : List S) : evSs cl ρ ((.ext i e) :: r) = seqE cl (evS cl ρ (.ext i e)) r := by rw [evSs] <;> first | rfl | (intro i z; cases z)
theorem sz_put2 (i : Nat) (k : E) (j : Nat) (l : E) (a : E) (b : E) (r : List S) : evSs cl ρ ((.put2 i k j l a b) :: r) = seqE cl (evS cl ρ (.put2 i k j l a b)) r := by rw [evSs] <;> first | rfl | (intro i z; cases z)
theorem sz_expr (e : E) (r : List S) : evSs cl ρ ((.expr e) :: r) = seqE cl (evS cl ρ (.expr e)) r := by rw [evSs] <;> first | rfl | (intro i z; cases z)
theorem sz_ret (e : E) (r : List S) : evSs cl ρ ((.ret e) :: r) = seqE cl (evS cl ρ (.ret e)) r := by rw [evSs] <;> first | rfl | (intro i z; cases z)
theorem sz_retN  (r : List S) : evSs cl ρ ((.retN) :: r) = seqE cl (evS cl ρ (.retN)) r := by rw [evSs] <;> first | rfl | (intro i z; cases z)
theorem sz_ifs (c : E) (a : List S) (b : List S) (r : List S) : evSs cl ρ ((.ifs c a b) :: r) = seqE cl (evS cl ρ (.ifs c a b)) r := by rw [evSs] <;> first | rfl | (intro i z; cases z)
theorem sz_forS (t : T) (it : I) (b : List S) (r : List S) : evSs cl ρ ((.forS t it b) :: r) = seqE cl (evS cl ρ (.forS t it b)) r := by rw [evSs] <;> first | rfl | (intro i z; cases z)
theorem sz_whil (c : E) (b : List S) (r : List S) : evSs cl ρ ((.whil c b) :: r) = seqE cl (evS cl ρ (.whil c b)) r := by rw [evSs] <;> first | rfl | (intro i z; cases z)
theorem sz_raise (c : Str) (fs : List Str) (es : List E) (r : List S) : evSs cl ρ ((.raise c fs es) :: r) = seqE cl (evS cl ρ (.raise c fs es)) r := by rw [evSs] <;> first | rfl | (intro i z; cases z)
theorem sz_tryS (b : List S) (hs : List (List Str × Option Nat × List S)) (r : List S) : evSs cl ρ ((.tryS b hs) :: r) = seqE cl (evS cl ρ (.tryS b hs)) r := by rw [evSs] <;> first | rfl | (intro i z; cases z)
theorem sz_pass  (r : List S) : evSs cl ρ ((.pass) :: r) = seqE cl (evS cl ρ (.pass)) r := by rw [evSs] <;> first | rfl | (intro i z; cases z)
theorem sz_cont  (r : List S) : evSs cl ρ ((.cont) :: r) = seqE cl (evS cl ρ (.cont)) r := by rw [evSs] <;> first | rfl | (intro i z; cases z)
theorem sz_never  (r : List S) : evSs cl ρ ((.never) :: r) = seqE cl (evS cl ρ (.never)) r := by rw [evSs] <;> first | rfl | (intro i z; cases z)
/-! ### statements -/
def asgE (t : T) : R D → Option Out
  | .ok d => ofNx (bindT ρ t d)
  | .ex c fs => some (.ex c fs ρ)
  | .bad => none
theorem e_asg (t : T) (e : E) : evS cl ρ (.asg t e) = asgE ρ t (ev cl ρ .v e) := by rw [evS]; cases ev cl ρ .v e <;> rfl
theorem asg_ok (t : T) (d : D) : asgE ρ t (.ok d) = ofNx (bindT ρ t d) := rfl
theorem asg_ex (t : T) (c : Str) (fs : List (Str × D)) : asgE ρ t (.ex c fs) = some (.ex c fs ρ) := rfl
def ownE (i : Nat) : R D → Option Out
  | .ok d => if isMut d && decide (i < ρ.length) then some (.nx (ρ.set i (.ow d))) else none
  | .ex c fs => some (.ex c fs ρ)
  | .bad => none
theorem e_own (i : Nat) (e : E) : evS cl ρ (.own i e) = ownE ρ i (ev cl ρ .v e) := by rw [evS]; cases ev cl ρ .v e <;> rfl
theorem own_ok (i : Nat) (d : D) : ownE ρ i (.ok d) = if isMut d && decide (i < ρ.length) then some (.nx (ρ.set i (.ow d))) else none := rfl
theorem own_ex (i : Nat) (c : Str) (fs : List (Str × D)) : ownE ρ i (.ex c fs) = some (.ex c fs ρ) := rfl
def asgFE (i : Nat) : R (D × List Sl) → Option Out
  | .ok p => if i < ρ.length then some (.nx (p.2.set i (.fz p.1))) else none
  | .ex c fs => some (.ex c fs ρ)
  | .bad => none
theorem e_asgF (i : Nat) (f : F) : evS cl ρ (.asgF i f) = asgFE ρ i (evF cl ρ f) := by rw [evS]; cases evF cl ρ f <;> rfl
theorem asgF_ok (i : Nat) (x : D) (ρ' : List Sl) : asgFE ρ i (.ok (x, ρ')) = if i < ρ.length then some (.nx (ρ'.set i (.fz x))) else none := rfl
def parE (ts : List T) : R (List D) → Option Out
  | .ok ds => ofNx (parT ρ ts ds)
  | .ex c fs => some (.ex c fs ρ)
  | .bad => none
theorem e_par (ts : List T) (es : List E) : evS cl ρ (.par ts es) = parE ρ ts (evs cl ρ .v es) := by rw [evS]; cases evs cl ρ .v es <;> rfl
theorem par_ok (ts : List T) (ds : List D) : parE ρ ts (.ok ds) = ofNx (parT ρ ts ds) := rfl
def appE2 (o : Option Sl) (ρ' : List Sl) (i : Nat) (x : D) : Option Out := match o with
  | some (.ow (.list xs)) => if xs.length < line then some (.nx (ρ'.set i (.ow (.list (xs ++ [x]))))) else none
  | _ => none
theorem app2_ow (xs : List D) (ρ' : List Sl) (i : Nat) (x : D) : appE2 (some (.ow (.list xs))) ρ' i x = if xs.length < line then some (.nx (ρ'.set i (.ow (.list (xs ++ [x]))))) else none := rfl
def appE (b : Bool) (i : Nat) (r : R (D × List Sl)) : Option Out := if b then (match r with
  | .ok p => appE2 p.2[i]? p.2 i p.1
  | .ex c fs => some (.ex c fs ρ)
  | .bad => none) else none
theorem e_app (i : Nat) (f : F) : evS cl ρ (.app i f) = appE ρ (isLent ρ i) i (evF cl ρ f) := by
  rw [evS]; unfold appE
  cases isLent ρ i with
  | false => rfl
  | true =>
    cases evF cl ρ f with
    | ok p =>
      simp only [if_true, lift, owned]
      unfold appE2
      split
      · split <;> first | rfl | simp_all
      · split <;> first | rfl | simp_all
    | ex c fs => rfl
    | bad => rfl
theorem app_ok (i : Nat) (x : D) (ρ' : List Sl) : appE ρ true i (.ok (x, ρ')) = appE2 ρ'[i]? ρ' i x := rfl
theorem app_ex (i : Nat) (c : Str) (fs : List (Str × D)) : appE ρ true i (.ex c fs) = some (.ex c fs ρ) := rfl
def putE2 (o : Option Sl) (i : Nat) (v : D) (r : R D) : Option Out := match o with
  | some (.ow d) => (match r with
    | .ok k => (match putAt d k v with
      | some d' => some (.nx (ρ.set i (.ow d')))
      | none => none)
    | .ex c fs => some (.ex c fs ρ)
    | .bad => none)
  | _ => none
def putE (i : Nat) (r : R D) (rk : R D) : Option Out := match r with
  | .ok v => putE2 ρ ρ[i]? i v rk
  | .ex c fs => some (.ex c fs ρ)
  | .bad => none
theorem e_put (i : Nat) (k e : E) : evS cl ρ (.put i k e) = putE ρ i (ev cl ρ .v e) (ev cl ρ .v k) := by
  rw [evS]; unfold putE
  cases ev cl ρ .v e with
  | ok v =>
    simp only [lift, owned]; unfold putE2
    cases ρ[i]? with
    | none => rfl
    | some s => cases s <;> first | rfl | (cases ev cl ρ .v k <;> rfl)
  | ex c fs => rfl
  | bad => rfl
theorem putv_ok (i : Nat) (v : D) (rk : R D) : putE ρ i (.ok v) rk = putE2 ρ ρ[i]? i v rk := rfl
def nxO (i : Nat) (o : Option D) : Option Out := match o with
  | some d' => some (.nx (ρ.set i (.ow d')))
  | none => none
theorem put2_ow (d : D) (i : Nat) (v k : D) : putE2 ρ (some (.ow d)) i v (.ok k) = nxO ρ i (putAt d k v) := by unfold putE2 nxO; rfl
theorem nxO_s (i : Nat) (d : D) : nxO ρ i (some d) = some (.nx (ρ.set i (.ow d))) := rfl
def augE2 (i : Nat) : R D → R D → Option Out
  | .ok (.int a), .ok (.int b) => some (.nx (ρ.set i (.fz (.int (a + b)))))
  | .ex c fs, _ => some (.ex c fs ρ)
  | .ok _, .ex c fs => some (.ex c fs ρ)
  | _, _ => none
theorem e_aug (i : Nat) (e : E) : evS cl ρ (.aug i e) = augE2 ρ i (getV ρ i) (ev cl ρ .v e) := by
  rw [evS]
  cases getV ρ i with
  | ok x => cases ev cl ρ .v e with
    | ok y => cases x <;> cases y <;> rfl
    | ex c fs => cases x <;> rfl
    | bad => cases x <;> rfl
  | ex c fs => cases ev cl ρ .v e <;> rfl
  | bad => cases ev cl ρ .v e <;> rfl
theorem aug_ok (i : Nat) (a b : Int) : augE2 ρ i (.ok (.int a)) (.ok (.int b)) = some (.nx (ρ.set i (.fz (.int (a + b))))) := rfl
def popE2 (o : Option Sl) (i : Nat) (k : D) : Option Out := match o with
  | some (.ow (.dict kvs)) => if okK k kvs && (findK k kvs).isSome then some (.nx (ρ.set i (.ow (.dict (delK k kvs))))) else none
  | _ => none
def popE (i : Nat) : R D → Option Out
  | .ok k => popE2 ρ ρ[i]? i k
  | .ex c fs => some (.ex c fs ρ)
  | .bad => none
theorem e_popD (i : Nat) (e : E) : evS cl ρ (.popD i e) = popE ρ i (ev cl ρ .v e) := by
  rw [evS]; unfold popE
  cases ev cl ρ .v e with
  | ok k =>
    simp only [lift, owned]; unfold popE2
    split
    · split <;> first | rfl | simp_all
    · split <;> first | rfl | simp_all
  | ex c fs => rfl
  | bad => rfl
theorem pop_ok (i : Nat) (k : D) : popE ρ i (.ok k) = popE2 ρ ρ[i]? i k := rfl
theorem pop2_ow (kvs : List (D × D)) (i : Nat) (k : D) : popE2 ρ (some (.ow (.dict kvs))) i k = if okK k kvs && (findK k kvs).isSome then some (.nx (ρ.set i (.ow (.dict (delK k kvs))))) else none := rfl
def exprE : R D → Option Out
  | .ok _ => some (.nx ρ)
  | .ex c fs => some (.ex c fs ρ)
  | .bad => none
theorem e_expr (e : E) : evS cl ρ (.expr e) = exprE ρ (ev cl ρ .v e) := by rw [evS]; cases ev cl ρ .v e <;> rfl
theorem expr_ok (d : D) : exprE ρ (.ok d) = some (.nx ρ) := rfl
theorem expr_ex (c : Str) (fs : List (Str × D)) : exprE ρ (.ex c fs) = some (.ex c fs ρ) := rfl
def retE : R D → Option Out
  | .ok d => some (.rt d)
  | .ex c fs => some (.ex c fs ρ)
  | .bad => none
theorem e_ret (e : E) : evS cl ρ (.ret e) = retE ρ (ev cl ρ .v e) := by rw [evS]; cases ev cl ρ .v e <;> rfl
theorem ret_ok (d : D) : retE ρ (.ok d) = some (.rt d) := rfl
theorem ret_ex (c : Str) (fs : List (Str × D)) : retE ρ (.ex c fs) = some (.ex c fs ρ) := rfl
theorem e_retN : evS cl ρ .retN = some (.rt .none) := by rw [evS]
theorem e_pass : evS cl ρ .pass = some (.nx ρ) := by rw [evS]
theorem e_cont : evS cl ρ .cont = some (.ct ρ) := by rw [evS]
def ifE (r : R D) (a b : List S) : Option Out := match r with
  | .ok t => if truth t then evSs cl ρ a else evSs cl ρ b
  | .ex c fs => some (.ex c fs ρ)
  | .bad => none
theorem e_ifs (c : E) (a b : List S) : evS cl ρ (.ifs c a b) = ifE cl ρ (ev cl ρ .t c) a b := by rw [evS]; cases ev cl ρ .t c <;> rfl
theorem if_ok (t : D) (a b : List S) : ifE cl ρ (.ok t) a b = if truth t then evSs cl ρ a else evSs cl ρ b := rfl
theorem if_1 (a b : List S) : ifE cl ρ (.ok (.bool true)) a b = evSs cl ρ a := rfl
theorem if_0 (a b : List S) : ifE cl ρ (.ok (.bool false)) a b = evSs cl ρ b := rfl
theorem if_x (c : Str) (fs : List (Str × D)) (a b : List S) : ifE cl ρ (.ex c fs) a b = some (.ex c fs ρ) := rfl
def forE (t : T) (b : List S) : R (List D) → Option Out
  | .ok ds => forL (forN cl t b) ds ρ
  | .ex c fs => some (.ex c fs ρ)
  | .bad => none
theorem e_for (t : T) (it : I) (b : List S) : evS cl ρ (.forS t it b) = forE cl ρ t b (evI cl ρ .v it) := by rw [evS]; cases evI cl ρ .v it <;> rfl
theorem for_ok (t : T) (b : List S) (ds : List D) : forE cl ρ t b (.ok ds) = forL (forN cl t b) ds ρ := rfl
def raiseE (c : Str) (fs : List Str) : R (List D) → Option Out
  | .ok ds => if fs.length = ds.length then some (.ex c (fs.zip ds) ρ) else none
  | .ex c' fs' => some (.ex c' fs' ρ)
  | .bad => none
theorem e_raise (c : Str) (fs : List Str) (es : List E) : evS cl ρ (.raise c fs es) = raiseE ρ c fs (evs cl ρ .v es) := by rw [evS]; cases evs cl ρ .v es <;> rfl
theorem raise_0 (c : Str) : raiseE ρ c [] (.ok []) = some (.ex c [] ρ) := rfl
theorem raise_1 (c f : Str) (d : D) : raiseE ρ c [f] (.ok [d]) = some (.ex c [(f, d)] ρ) := rfl
def tryE (o : Option Out) (hs : List (List Str × Option Nat × List S)) : Option Out := match o with
  | some (.ex c fs ρ) => evH cl ρ c fs hs
  | o => o
theorem e_try (b : List S) (hs : List (List Str × Option Nat × List S)) : evS cl ρ (.tryS b hs) = tryE cl (evSs cl ρ b) hs := by rw [evS]; unfold tryE; rfl
theorem y_nx (hs : List (List Str × Option Nat × List S)) : tryE cl (some (.nx ρ)) hs = some (.nx ρ) := rfl
theorem y_rt (d : D) (hs : List (List Str × Option Nat × List S)) : tryE cl (some (.rt d)) hs = some (.rt d) := rfl
theorem y_ct (hs : List (List Str × Option Nat × List S)) : tryE cl (some (.ct ρ)) hs = some (.ct ρ) := rfl
theorem y_ex (c : Str) (fs : List (Str × D)) (hs : List (List Str × Option Nat × List S)) : tryE cl (some (.ex c fs ρ)) hs = evH cl ρ c fs hs := rfl
theorem h_nil (c : Str) (fs : List (Str × D)) : evH cl ρ c fs [] = some (.ex c fs ρ) := by rw [evH]
theorem h_no (c : Str) (fs : List (Str × D)) (cs : List Str) (b : List S) (r : List (List Str × Option Nat × List S)) : evH cl ρ c fs ((cs, none, b) :: r) = if cs.contains c then noEx (evSs cl ρ b) else evH cl ρ c fs r := by rw [evH]
theorem h_as (c : Str) (fs : List (Str × D)) (cs : List Str) (i : Nat) (b : List S) (r : List (List Str × Option Nat × List S)) : evH cl ρ c fs ((cs, some i, b) :: r) = if cs.contains c then (if i < ρ.length then unEx i (evSs cl (ρ.set i (.ex c fs)) b) else none) else evH cl ρ c fs r := by rw [evH]
/-! ### expressions -/
theorem x_varv (i : Nat) : ev cl ρ .v (.var i) = getV ρ i := by rw [ev]; cases getV ρ i <;> rfl
theorem x_varr (i : Nat) : ev cl ρ .r (.var i) = getR ρ i := by simp only [ev]; cases getR ρ i <;> rfl
theorem x_vart (i : Nat) : ev cl ρ .t (.var i) = (getR ρ i).bind (Md.t).fin := by simp only [ev]
theorem x_lit (m : Md) (d : D) : ev cl ρ m (.lit d) = m.fin d := by rw [ev]
theorem x_gl (m : Md) (x : Str) (d : D) : ev cl ρ m (.gl x d) = m.fin d := by rw [ev]
def binE (op : Operator) (m : Md) : R D → R D → R D
  | .ok x, .ok y => (binD op x y).bind m.fin
  | .ex c fs, _ => .ex c fs
  | .ok _, .ex c fs => .ex c fs
  | _, _ => .bad
theorem x_bin (m : Md) (op : Operator) (a b : E) : ev cl ρ m (.bin op a b) = binE op m (ev cl ρ .r a) (ev cl ρ .r b) := by
  rw [ev]; cases ev cl ρ .r a <;> cases ev cl ρ .r b <;> rfl
theorem bin_ok (op : Operator) (m : Md) (x y : D) : binE op m (.ok x) (.ok y) = (binD op x y).bind m.fin := rfl
def negE (m : Md) : R D → R D
  | .ok x => (negD x).bind m.fin
  | .ex c fs => .ex c fs
  | .bad => .bad
theorem x_neg (m : Md) (a : E) : ev cl ρ m (.neg a) = negE m (ev cl ρ .v a) := by rw [ev]; cases ev cl ρ .v a <;> rfl
theorem neg_ok (m : Md) (i : Int) : negE m (.ok (.int i)) = m.fin (.int (-i)) := rfl
def notE : R D → R D
  | .ok b => if tok b then .ok (.bool (!truth b)) else .bad
  | .ex c fs => .ex c fs
  | .bad => .bad
theorem x_not (m : Md) (a : E) : ev cl ρ m (.not a) = notE (ev cl ρ m.sub a) := by rw [ev]; cases ev cl ρ m.sub a <;> rfl
theorem not_b (b : Bool) : notE (.ok (.bool b)) = .ok (.bool (!b)) := rfl
theorem not_ok (d : D) : notE (.ok d) = if tok d then .ok (.bool (!truth d)) else .bad := rfl
theorem not_ex (c : Str) (fs : List (Str × D)) : notE (.ex c fs) = .ex c fs := rfl
theorem x_bop (m : Md) (op : BoolOp) (es : List E) : ev cl ρ m (.bop op es) = evB cl ρ m op es := by rw [ev]
def bopE (m : Md) (op : BoolOp) (r : R D) (es : List E) : R D := match r with
  | .ok x => if tok x then (match op with
      | .And => if truth x then evB cl ρ m op es else .ok x
      | .Or => if truth x then .ok x else evB cl ρ m op es) else .bad
  | .ex c fs => .ex c fs
  | .bad => .bad
theorem b_one (m : Md) (op : BoolOp) (e : E) : evB cl ρ m op [e] = ev cl ρ m.sub e := by rw [evB]; cases ev cl ρ m.sub e <;> rfl
theorem b_two (m : Md) (op : BoolOp) (e e2 : E) (r : List E) : evB cl ρ m op (e :: e2 :: r) = bopE cl ρ m op (ev cl ρ m.sub e) (e2 :: r) := by rw [evB]; cases ev cl ρ m.sub e <;> cases op <;> rfl
theorem bop_and (m : Md) (b : Bool) (es : List E) : bopE cl ρ m .And (.ok (.bool b)) es = if b then evB cl ρ m .And es else .ok (.bool b) := by cases b <;> rfl
theorem bop_or (m : Md) (b : Bool) (es : List E) : bopE cl ρ m .Or (.ok (.bool b)) es = if b then .ok (.bool b) else evB cl ρ m .Or es := by cases b <;> rfl
theorem bop_ok (m : Md) (op : BoolOp) (x : D) (es : List E) : bopE cl ρ m op (.ok x) es = if tok x then (match op with
      | .And => if truth x then evB cl ρ m op es else .ok x
      | .Or => if truth x then .ok x else evB cl ρ m op es) else .bad := rfl
theorem bop_ex (m : Md) (op : BoolOp) (c : Str) (fs : List (Str × D)) (es : List E) : bopE cl ρ m op (.ex c fs) es = .ex c fs := rfl
def iteE (m : Md) (r : R D) (a b : E) : R D := match r with
  | .ok t => if truth t then ev cl ρ m.sub a else ev cl ρ m.sub b
  | .ex c fs => .ex c fs
  | .bad => .bad
theorem x_ite (m : Md) (c a b : E) : ev cl ρ m (.ite c a b) = iteE cl ρ m (ev cl ρ .t c) a b := by rw [ev]; cases ev cl ρ .t c <;> rfl
theorem ite_b (m : Md) (t : Bool) (a b : E) : iteE cl ρ m (.ok (.bool t)) a b = if t then ev cl ρ m.sub a else ev cl ρ m.sub b := rfl
def cmpE (op : CmpOp) : R D → R D → R D
  | .ok x, .ok y => (cmpD op x y).bind fun t => .ok (.bool t)
  | .ex c fs, _ => .ex c fs
  | .ok _, .ex c fs => .ex c fs
  | _, _ => .bad
def cmpF : R Bool → R D
  | .ok t => .ok (.bool t)
  | .ex c fs => .ex c fs
  | .bad => .bad
theorem cmpF_ok (t : Bool) : cmpF (.ok t) = .ok (.bool t) := rfl
theorem x_cmp (m : Md) (op : CmpOp) (a b : E) : ev cl ρ m (.cmp op a b) = cmpE op (ev cl ρ .r a) (ev cl ρ .r b) := by
  rw [ev]; cases ev cl ρ .r a <;> cases ev cl ρ .r b <;> rfl
theorem cmp_ok (op : CmpOp) (x y : D) : cmpE op (.ok x) (.ok y) = cmpF (cmpD op x y) := by
  show (cmpD op x y).bind _ = _
  cases cmpD op x y <;> rfl
def chnE (o1 o2 : CmpOp) (ra rb : R D) (c : E) : R D := match ra, rb with
  | .ok x, .ok y => (cmpD o1 x y).bind fun t => if t then (ev cl ρ .v c).bind fun z => (cmpD o2 y z).bind fun u => .ok (.bool u) else .ok (.bool false)
  | .ex c fs, _ => .ex c fs
  | .ok _, .ex c fs => .ex c fs
  | _, _ => .bad
theorem x_chn (m : Md) (o1 o2 : CmpOp) (a b c : E) : ev cl ρ m (.chn o1 o2 a b c) = chnE cl ρ o1 o2 (ev cl ρ .v a) (ev cl ρ .v b) c := by
  rw [ev]; cases ev cl ρ .v a <;> cases ev cl ρ .v b <;> rfl
def chnF (o2 : CmpOp) (t : R Bool) (y : D) (rc : R D) : R D := match t with
  | .ok true => rc.bind fun z => (cmpD o2 y z).bind fun u => .ok (.bool u)
  | .ok false => .ok (.bool false)
  | .ex c fs => .ex c fs
  | .bad => .bad
theorem chn_ok (o1 o2 : CmpOp) (x y : D) (c : E) : chnE cl ρ o1 o2 (.ok x) (.ok y) c = chnF o2 (cmpD o1 x y) y (ev cl ρ .v c) := by
  show (cmpD o1 x y).bind _ = _
  cases cmpD o1 x y with
  | ok t => cases t <;> rfl
  | ex c fs => rfl
  | bad => rfl
theorem chn_0 (o2 : CmpOp) (y : D) (rc : R D) : chnF o2 (.ok false) y rc = .ok (.bool false) := rfl
theorem chn_1 (o2 : CmpOp) (y z : D) : chnF o2 (.ok true) y (.ok z) = cmpF (cmpD o2 y z) := by
  show (cmpD o2 y z).bind _ = _
  cases cmpD o2 y z <;> rfl
def consE {α : Type} : R α → R (List α) → R (List α)
  | .ok x, .ok xs => .ok (x :: xs)
  | .ex c fs, _ => .ex c fs
  | .ok _, .ex c fs => .ex c fs
  | _, _ => .bad
theorem es_nil (m : Md) : evs cl ρ m [] = .ok [] := by rw [evs]
theorem es_cons (m : Md) (e : E) (r : List E) : evs cl ρ m (e :: r) = consE (ev cl ρ m e) (evs cl ρ m r) := by
  rw [evs]; cases ev cl ρ m e <;> cases evs cl ρ m r <;> rfl
theorem cons_ok {α : Type} (x : α) (xs : List α) : consE (.ok x) (.ok xs) = .ok (x :: xs) := rfl
theorem cons_ex {α : Type} (c : Str) (fs : List (Str × D)) (r : R (List α)) : consE (.ex c fs) r = .ex c fs := rfl
theorem cons_xe {α : Type} (x : α) (c : Str) (fs : List (Str × D)) : consE (.ok x) (.ex c fs) = .ex c fs := rfl
def tupE (m : Md) : R (List D) → R D
  | .ok ds => m.fin (.tuple ds)
  | .ex c fs => .ex c fs
  | .bad => .bad
theorem x_tup (m : Md) (es : List E) : ev cl ρ m (.tup es) = tupE m (evs cl ρ .v es) := by rw [ev]; cases evs cl ρ .v es <;> rfl
theorem tup_ok (m : Md) (ds : List D) : tupE m (.ok ds) = m.fin (.tuple ds) := rfl
def lstE (m : Md) : R (List D) → R D
  | .ok ds => m.fin (.list ds)
  | .ex c fs => .ex c fs
  | .bad => .bad
theorem x_lst (m : Md) (es : List E) : ev cl ρ m (.lst es) = lstE m (evs cl ρ .v es) := by rw [ev]; cases evs cl ρ .v es <;> rfl
theorem lst_ok (m : Md) (ds : List D) : lstE m (.ok ds) = m.fin (.list ds) := rfl
theorem x_dct (m : Md) (kvs : List (E × E)) : ev cl ρ m (.dct kvs) = (evDct cl ρ kvs []).bind m.fin := by rw [ev]
def dctE (ra rb : R D) (r : List (E × E)) (acc : List (D × D)) : R D := match ra, rb with
  | .ok x, .ok y => if okK x acc && fits (acc.length + 1) then evDct cl ρ r (putK x y acc) else .bad
  | .ex c fs, _ => .ex c fs
  | .ok _, .ex c fs => .ex c fs
  | _, _ => .bad
theorem dc_nil (acc : List (D × D)) : evDct cl ρ [] acc = .ok (.dict acc) := by rw [evDct]
theorem dc_cons (k v : E) (r : List (E × E)) (acc : List (D × D)) : evDct cl ρ ((k, v) :: r) acc = dctE cl ρ (ev cl ρ .v k) (ev cl ρ .v v) r acc := by
  rw [evDct]; cases ev cl ρ .v k <;> cases ev cl ρ .v v <;> rfl
theorem dct_ok (x y : D) (r : List (E × E)) (acc : List (D × D)) : dctE cl ρ (.ok x) (.ok y) r acc = if okK x acc && fits (acc.length + 1) then evDct cl ρ r (putK x y acc) else .bad := rfl
def idxE (m : Md) : R D → R D → R D
  | .ok x, .ok y => (idxD x y).bind m.fin
  | .ex c fs, _ => .ex c fs
  | .ok _, .ex c fs => .ex c fs
  | _, _ => .bad
theorem x_idx (m : Md) (a i : E) : ev cl ρ m (.idx a i) = idxE m (ev cl ρ .r a) (ev cl ρ .v i) := by
  rw [ev]; cases ev cl ρ .r a <;> cases ev cl ρ .v i <;> rfl
theorem idx_ok (m : Md) (x y : D) : idxE m (.ok x) (.ok y) = (idxD x y).bind m.fin := rfl
def oE : R D → R (Option Int)
  | .ok d => intO d
  | .ex c fs => .ex c fs
  | .bad => .bad
theorem o_none : evO cl ρ none = .ok none := by rw [evO]
theorem o_some (e : E) : evO cl ρ (some e) = oE (ev cl ρ .v e) := by rw [evO]; cases ev cl ρ .v e <;> rfl
theorem o_int (i : Int) : oE (.ok (.int i)) = .ok (some i) := rfl
def slcE (m : Md) : R D → R (Option Int) → R (Option Int) → R D
  | .ok x, .ok l, .ok h => (slcD x l h).bind m.fin
  | .ex c fs, _, _ => .ex c fs
  | .ok _, .ex c fs, _ => .ex c fs
  | .ok _, .ok _, .ex c fs => .ex c fs
  | _, _, _ => .bad
theorem x_slc (m : Md) (a : E) (lo hi : Option E) : ev cl ρ m (.slc a lo hi) = slcE m (ev cl ρ .r a) (evO cl ρ lo) (evO cl ρ hi) := by
  rw [ev]; cases ev cl ρ .r a <;> cases evO cl ρ lo <;> cases evO cl ρ hi <;> rfl
theorem slc_ok (m : Md) (x : D) (l h : Option Int) : slcE m (.ok x) (.ok l) (.ok h) = (slcD x l h).bind m.fin := rfl
def callE (f : Nat) (m : Md) (b1 b2 : Bool) (r : R (List D)) (k : R (List (Str × D))) : R D := if b1 then .bad else (match r, k with
  | .ok ds, .ok kd => (cutR b2 (cl f ds kd)).bind m.fin
  | .ex c fs, _ => .ex c fs
  | .ok _, .ex c fs => .ex c fs
  | _, _ => .bad)
theorem x_call (m : Md) (f : Nat) (es : List E) (ks : List (Str × E)) : ev cl ρ m (.call f es ks) = callE cl f m (lentDict ρ es) (lentAny ρ es) (evs cl ρ .r es) (evK cl ρ ks) := by
  rw [ev]; unfold callE
  cases lentDict ρ es <;> cases evs cl ρ .r es <;> cases evK cl ρ ks <;> rfl
theorem call_ok (f : Nat) (m : Md) (b2 : Bool) (ds : List D) (kd : List (Str × D)) : callE cl f m false b2 (.ok ds) (.ok kd) = (cutR b2 (cl f ds kd)).bind m.fin := rfl
theorem call_ex (f : Nat) (m : Md) (b2 : Bool) (c : Str) (fs : List (Str × D)) (k : R (List (Str × D))) : callE cl f m false b2 (.ex c fs) k = .ex c fs := rfl
theorem k_nil : evK cl ρ [] = .ok [] := by rw [evK]
def kE (n : Str) : R D → R (List (Str × D)) → R (List (Str × D))
  | .ok x, .ok xs => .ok ((n, x) :: xs)
  | .ex c fs, _ => .ex c fs
  | .ok _, .ex c fs => .ex c fs
  | _, _ => .bad
theorem k_cons (n : Str) (e : E) (r : List (Str × E)) : evK cl ρ ((n, e) :: r) = kE n (ev cl ρ .v e) (evK cl ρ r) := by
  rw [evK]; cases ev cl ρ .v e <;> cases evK cl ρ r <;> rfl
theorem k_ok (n : Str) (x : D) (xs : List (Str × D)) : kE n (.ok x) (.ok xs) = .ok ((n, x) :: xs) := rfl
def prE (p : Pr) (m : Md) : R (List D) → R D
  | .ok ds => (prD p ds).bind m.fin
  | .ex c fs => .ex c fs
  | .bad => .bad
theorem x_pr (m : Md) (p : Pr) (es : List E) : ev cl ρ m (.pr p es) = prE p m (evs cl ρ .r es) := by rw [ev]; cases evs cl ρ .r es <;> rfl
theorem pr_ok (p : Pr) (m : Md) (ds : List D) : prE p m (.ok ds) = (prD p ds).bind m.fin := rfl
theorem pr_ex (p : Pr) (m : Md) (c : Str) (fs : List (Str × D)) : prE p m (.ex c fs) = .ex c fs := rfl
theorem x_isiv (m : Md) (i : Nat) (t : Ty) : ev cl ρ m (.isi (.var i) t) = isiV ρ[i]? t := by rw [ev]
def isiE (t : Ty) : R D → R D
  | .ok d => isiV (some (.fz d)) t
  | .ex c fs => .ex c fs
  | .bad => .bad
theorem x_isii (m : Md) (a b : E) (t : Ty) : ev cl ρ m (.isi (.idx a b) t) = isiE t (ev cl ρ .v (.idx a b)) := by
  have h : ev cl ρ m (.isi (.idx a b) t) = (ev cl ρ .v (.idx a b)).bind fun d => isiV (some (.fz d)) t := by simp only [ev]
  rw [h]; cases ev cl ρ .v (.idx a b) <;> rfl
theorem isi_ok (t : Ty) (d : D) : isiE t (.ok d) = isiV (some (.fz d)) t := rfl
def mtE (q : Mt) (m : Md) (ra : R D) (rs : R (List D)) : R D := match ra with
  | .ok x => if mtTy q x then (match rs with
    | .ok ds => (mtD q x ds).bind m.fin
    | .ex c fs => .ex c fs
    | .bad => .bad) else .bad
  | .ex c fs => .ex c fs
  | .bad => .bad
theorem x_mt (m : Md) (q : Mt) (a : E) (es : List E) : ev cl ρ m (.mt q a es) = mtE q m (ev cl ρ .r a) (evs cl ρ q.md es) := by
  rw [ev]; cases ev cl ρ .r a with
  | ok x =>
    unfold mtE
    simp only [n_ok]
    cases mtTy q x with
    | true => cases evs cl ρ q.md es <;> rfl
    | false => rfl
  | ex c fs => rfl
  | bad => rfl
theorem mt_ok (q : Mt) (m : Md) (x : D) (ds : List D) : mtE q m (.ok x) (.ok ds) = if mtTy q x then (mtD q x ds).bind m.fin else .bad := rfl
def fldE (m : Md) (f : Str) (o : Option Sl) : R D := if f = ("rows" : Str) then (match o with | some (.fn _) => m.fin (.dict []) | _ => .bad) else match o with
  | some (.ex _ fs) => (R.of (fs.lookup f)).bind m.fin
  | _ => .bad
theorem x_fld (m : Md) (i : Nat) (f : Str) : ev cl ρ m (.fld i f) = fldE m f ρ[i]? := by
  rw [ev]; unfold fldE
  by_cases h : f = ("rows" : Str)
  · rw [if_pos h]
    try rw [if_pos h]
    all_goals (cases ρ[i]? with
      | none => rfl
      | some s => cases s <;> rfl)
  · rw [if_neg h]
    try rw [if_neg h]
    all_goals (cases ρ[i]? with
      | none => rfl
      | some s => cases s <;> rfl)
theorem fld_st (m : Md) (c : Str) (fs : List (Str × D)) : fldE m "step" (some (.ex c fs)) = (R.of (fs.lookup ("step" : Str))).bind m.fin := by unfold fldE; rw [if_neg (by decide +kernel)]
theorem fld_pt (m : Md) (c : Str) (fs : List (Str × D)) : fldE m "point" (some (.ex c fs)) = (R.of (fs.lookup ("point" : Str))).bind m.fin := by unfold fldE; rw [if_neg (by decide +kernel)]
theorem fld_nm (m : Md) (c : Str) (fs : List (Str × D)) : fldE m "name" (some (.ex c fs)) = (R.of (fs.lookup ("name" : Str))).bind m.fin := by unfold fldE; rw [if_neg (by decide +kernel)]
def callVE (m : Md) (i : Nat) (r : R (List D)) : R D := match r with
  | .ok ds => (bkD cl i ds).bind m.fin
  | .ex c fs => .ex c fs
  | .bad => .bad
theorem x_callV (m : Md) (i : Nat) (es : List E) : ev cl ρ m (.callV i es) = callVE cl m i (evs cl ρ .v es) := by
  rw [ev]; cases evs cl ρ .v es <;> rfl
theorem callV_ok (m : Md) (i : Nat) (ds : List D) : callVE cl m i (.ok ds) = (bkD cl i ds).bind m.fin := rfl
theorem f_nil : evFs cl ρ [] = .ok true := by rw [evFs]
def tE : R D → R Bool
  | .ok x => .ok (truth x)
  | .ex c fs => .ex c fs
  | .bad => .bad
theorem f_one (e : E) : evFs cl ρ [e] = tE (ev cl ρ .t e) := by rw [evFs]; cases ev cl ρ .t e <;> rfl
theorem t_b (b : Bool) : tE (.ok (.bool b)) = .ok b := rfl
/-! ### what is walked -/
def seqE1 : R D → R (List D)
  | .ok x => seqL x
  | .ex c fs => .ex c fs
  | .bad => .bad
theorem i_seq (m : Md) (e : E) : evI cl ρ m (.seq e) = seqE1 (ev cl ρ m e) := by rw [evI]; cases ev cl ρ m e <;> rfl
theorem seq1_ok (x : D) : seqE1 (.ok x) = seqL x := rfl
theorem seq1_ex (c : Str) (fs : List (Str × D)) : seqE1 (.ex c fs) = .ex c fs := rfl
def rngE : R (List D) → R (List D)
  | .ok x => rangeL x
  | .ex c fs => .ex c fs
  | .bad => .bad
theorem i_rng (m : Md) (es : List E) : evI cl ρ m (.rng es) = rngE (evs cl ρ .v es) := by rw [evI]; cases evs cl ρ .v es <;> rfl
theorem rng_ok (x : List D) : rngE (.ok x) = rangeL x := rfl
def enumE : R D → R (List D)
  | .ok x => (seq2 x).bind fun xs => .ok (enumL 0 xs)
  | .ex c fs => .ex c fs
  | .bad => .bad
theorem i_enum (m : Md) (e : E) : evI cl ρ m (.enum e) = enumE (ev cl ρ m e) := by rw [evI]; cases ev cl ρ m e <;> rfl
theorem enum_t (xs : List D) : enumE (.ok (.tuple xs)) = .ok (enumL 0 xs) := rfl
theorem enum_l (xs : List D) : enumE (.ok (.list xs)) = .ok (enumL 0 xs) := rfl
def zipE : R D → R D → R (List D)
  | .ok x, .ok y => zipD x y
  | .ex c fs, _ => .ex c fs
  | .ok _, .ex c fs => .ex c fs
  | _, _ => .bad
theorem i_zip (m : Md) (a b : E) : evI cl ρ m (.zip a b) = zipE (ev cl ρ m a) (ev cl ρ m b) := by rw [evI]; cases ev cl ρ m a <;> cases ev cl ρ m b <;> rfl
theorem zip_ok (x y : D) : zipE (.ok x) (.ok y) = zipD x y := rfl
theorem zip_l (xs ys : List D) : zipD (.list xs) (.list ys) = .ok (zipL xs ys) := rfl
theorem zip_t (xs ys : List D) : zipD (.tuple xs) (.tuple ys) = .ok (zipL xs ys) := rfl
def itE : R D → R (List D)
  | .ok x => itemsD x
  | .ex c fs => .ex c fs
  | .bad => .bad
theorem i_items (m : Md) (e : E) : evI cl ρ m (.items e) = itE (ev cl ρ m e) := by rw [evI]; cases ev cl ρ m e <;> rfl
theorem it_ok (kvs : List (D × D)) : itE (.ok (.dict kvs)) = .ok (itemsL kvs) := rfl
/-! ### what may pop -/
def pureE : R D → R (D × List Sl)
  | .ok d => .ok (d, ρ)
  | .ex c fs => .ex c fs
  | .bad => .bad
theorem g_pure (e : E) : evF cl ρ (.pure e) = pureE ρ (ev cl ρ .v e) := by rw [evF]; cases ev cl ρ .v e <;> rfl
theorem pure_ok (d : D) : pureE ρ (.ok d) = .ok (d, ρ) := rfl
theorem pure_ex (c : Str) (fs : List (Str × D)) : pureE ρ (.ex c fs) = .ex c fs := rfl
def popFE (o : Option Sl) (i : Nat) (k : D) : R (D × List Sl) := match o, k with
    | some (.ow (.list xs)), .int n => if n.natAbs ≤ line then (match ixOf xs.length n with
      | some j => (match xs[j]? with
        | some x => .ok (x, ρ.set i (.ow (.list (xs.eraseIdx j))))
        | none => .bad)
      | none => .bad) else .bad
    | _, _ => .bad
def popF1 (i : Nat) : R D → R (D × List Sl)
  | .ok k => popFE ρ ρ[i]? i k
  | _ => .bad
theorem g_pop (i : Nat) (e : E) : evF cl ρ (.pop i e) = popF1 ρ i (ev cl ρ .v e) := by
  rw [evF]
  cases ev cl ρ .v e <;> rfl
theorem pop1_ok (i : Nat) (k : D) : popF1 ρ i (.ok k) = popFE ρ ρ[i]? i k := rfl
theorem popF_0 (x : D) (xs : List D) (i : Nat) : popFE ρ (some (.ow (.list (x :: xs)))) i (.int 0) = .ok (x, ρ.set i (.ow (.list xs))) := by
  have hx : ixOf (x :: xs).length 0 = some 0 := by unfold ixOf; rw [if_pos (by decide), if_pos (by simp)]; rfl
  unfold popFE
  simp only [hx]
  rfl
def tupFE (n : Nat) : R (List D × List Sl) → R (D × List Sl)
  | .ok p => if fits n then .ok (.tuple p.1, p.2) else .bad
  | .ex c fs => .ex c fs
  | .bad => .bad
theorem g_tup (fs : List F) : evF cl ρ (.tup fs) = tupFE fs.length (evFL cl ρ fs) := by rw [evF]; cases evFL cl ρ fs <;> rfl
theorem tupF_ok (n : Nat) (ds : List D) (ρ' : List Sl) : tupFE n (.ok (ds, ρ')) = if fits n then .ok (.tuple ds, ρ') else .bad := rfl
def iteFE (r : R D) (a b : F) : R (D × List Sl) := match r with
  | .ok t => if truth t then (evF cl ρ a).nox else (evF cl ρ b).nox
  | _ => .bad
theorem g_ite (c : E) (a b : F) : evF cl ρ (.ite c a b) = iteFE cl ρ (ev cl ρ .t c) a b := by rw [evF]; cases ev cl ρ .t c <;> rfl
theorem iteF_b (t : Bool) (a b : F) : iteFE cl ρ (.ok (.bool t)) a b = if t then (evF cl ρ a).nox else (evF cl ρ b).nox := rfl
theorem gl_nil : evFL cl ρ [] = .ok ([], ρ) := by rw [evFL]
def glE (r : R (D × List Sl)) (fs : List F) : R (List D × List Sl) := match r with
  | .ok p => (evFL cl p.2 fs).nox.bind fun q => .ok (p.1 :: q.1, q.2)
  | _ => .bad
theorem gl_cons (f : F) (r : List F) : evFL cl ρ (f :: r) = glE cl (evF cl ρ f) r := by rw [evFL]; cases evF cl ρ f <;> rfl
def glE2 (x : D) : R (List D × List Sl) → R (List D × List Sl)
  | .ok q => .ok (x :: q.1, q.2)
  | _ => .bad
theorem gl_ok (x : D) (fs : List F) : glE cl (.ok (x, ρ)) fs = glE2 x (evFL cl ρ fs) := by
  show (evFL cl ρ fs).nox.bind _ = _
  cases evFL cl ρ fs <;> rfl
theorem gl2_ok (x : D) (xs : List D) : glE2 x (.ok (xs, ρ)) = .ok (x :: xs, ρ) := rfl
end
theorem u_nx (i : Nat) (ρ : List Sl) : unEx i (some (.nx ρ)) = some (.nx ((ρ.map Sl.unx).set i .un)) := rfl
theorem u_rt (i : Nat) (d : D) : unEx i (some (.rt d)) = some (.rt d) := rfl
theorem u_ct (i : Nat) (ρ : List Sl) : unEx i (some (.ct ρ)) = some (.ct ((ρ.map Sl.unx).set i .un)) := rfl
theorem v_nx (ρ : List Sl) : noEx (some (.nx ρ)) = some (.nx (ρ.map Sl.unx)) := rfl
theorem v_rt (d : D) : noEx (some (.rt d)) = some (.rt d) := rfl
theorem v_ct (ρ : List Sl) : noEx (some (.ct ρ)) = some (.ct (ρ.map Sl.unx)) := rfl
theorem cut_0 (r : R D) : cutR false r = r := by cases r <;> rfl
theorem cut_1 (d : D) : cutR true (.ok d) = if noLst d then .ok d else .bad := rfl
theorem cut_x (c : Str) (fs : List (Str × D)) : cutR true (.ex c fs) = if fs.all (fun q => noLst q.2) then .ex c fs else .bad := rfl
theorem b_nm (ρ : List Sl) (i : Nat) (d : D) : bindT ρ (.nm i) d = if i < ρ.length then some (ρ.set i (.fz d)) else none := by simp only [bindT]
theorem b_tp (ρ : List Sl) (ts : List T) (ds : List D) : bindT ρ (.tp ts) (.tuple ds) = bindTs ρ ts ds := by simp only [bindT]
theorem b_tl (ρ : List Sl) (ts : List T) (ds : List D) : bindT ρ (.tp ts) (.list ds) = bindTs ρ ts ds := by simp only [bindT]
def obE (o : Option (List Sl)) (ts : List T) (ds : List D) : Option (List Sl) := match o with
  | some ρ => bindTs ρ ts ds
  | none => none
theorem ob_s (ρ : List Sl) (ts : List T) (ds : List D) : obE (some ρ) ts ds = bindTs ρ ts ds := rfl
theorem bs_nil (ρ : List Sl) : bindTs ρ [] [] = some ρ := by simp only [bindTs]
theorem bs_cons (ρ : List Sl) (t : T) (ts : List T) (d : D) (ds : List D) : bindTs ρ (t :: ts) (d :: ds) = obE (bindT ρ t d) ts ds := by rw [bindTs]; unfold obE; rfl
theorem p_nil (ρ : List Sl) : parT ρ [] [] = some ρ := by simp only [parT]
theorem p_cons (ρ : List Sl) (i : Nat) (ts : List T) (d : D) (ds : List D) : parT ρ (.nm i :: ts) (d :: ds) = if i < ρ.length then parT (ρ.set i (.fz d)) ts ds else none := by simp only [parT]
theorem o_nx (ρ : List Sl) : ofNx (some ρ) = some (.nx ρ) := rfl
theorem sq_l (xs : List D) : seqL (.list xs) = .ok xs := rfl
theorem sq_t (xs : List D) : seqL (.tuple xs) = .ok xs := rfl
theorem sq_d (kvs : List (D × D)) : seqL (.dict kvs) = .ok (kvs.map (·.1)) := rfl
def loopE (f : List Sl → D → Option Out) (o : Option Out) (r : List D) : Option Out := match o with
  | some (.nx ρ) => forL f r ρ
  | some (.ct ρ) => forL f r ρ
  | o => o
theorem l_nx (f : List Sl → D → Option Out) (ρ : List Sl) (r : List D) : loopE f (some (.nx ρ)) r = forL f r ρ := rfl
theorem l_ct (f : List Sl → D → Option Out) (ρ : List Sl) (r : List D) : loopE f (some (.ct ρ)) r = forL f r ρ := rfl
theorem l_rt (f : List Sl → D → Option Out) (d : D) (r : List D) : loopE f (some (.rt d)) r = some (.rt d) := rfl
theorem l_ex (f : List Sl → D → Option Out) (c : Str) (fs : List (Str × D)) (ρ : List Sl) (r : List D) : loopE f (some (.ex c fs ρ)) r = some (.ex c fs ρ) := rfl
theorem l_nil (f : List Sl → D → Option Out) (ρ : List Sl) : forL f [] ρ = some (.nx ρ) := rfl
theorem l_cons (f : List Sl → D → Option Out) (d : D) (r : List D) (ρ : List Sl) : forL f (d :: r) ρ = loopE f (f ρ d) r := by
  rw [forL]; unfold loopE
  cases f ρ d with
  | none => rfl
  | some o => cases o <;> rfl
def bndE (cl : Cl0) (o : Option (List Sl)) (b : List S) : Option Out := match o with
  | some ρ => evSs cl ρ b
  | none => none
theorem bn_s (cl : Cl0) (ρ : List Sl) (b : List S) : bndE cl (some ρ) b = evSs cl ρ b := rfl
theorem forN_eq (cl : Cl0) (t : T) (b : List S) (ρ : List Sl) (d : D) : forN cl t b ρ d = bndE cl (bindT ρ t d) b := by unfold forN bndE; rfl
theorem z_n : isNone .none = true := rfl
theorem z_b (b : Bool) : isNone (.bool b) = false := rfl
theorem z_i (b : Int) : isNone (.int b) = false := rfl
theorem z_s (b : Str) : isNone (.str b) = false := rfl
theorem z_l (b : List D) : isNone (.list b) = false := rfl
theorem z_t (b : List D) : isNone (.tuple b) = false := rfl
theorem nox_ok {α : Type} (a : α) : (R.ok a).nox = .ok a := rfl
theorem len_l (xs : List D) : lenD [.list xs] = .ok (.int xs.length) := rfl
theorem len_t (xs : List D) : lenD [.tuple xs] = .ok (.int xs.length) := rfl
theorem len_d (xs : List (D × D)) : lenD [.dict xs] = .ok (.int xs.length) := rfl
theorem list_l (xs : List D) : listD [.list xs] = .ok (.list xs) := rfl
theorem list_t (xs : List D) : listD [.tuple xs] = .ok (.list xs) := rfl
theorem tuple_l (xs : List D) : tupleD [.list xs] = .ok (.tuple xs) := rfl
theorem tuple_t (xs : List D) : tupleD [.tuple xs] = .ok (.tuple xs) := rfl
theorem fin_tb (b : Bool) : (Md.t).fin (.bool b) = .ok (.bool b) := rfl
end Ad
set_option Elab.async false
set_option linter.all false
set_option maxRecDepth 100000
/-! Fractions. -/
namespace Ad
open PySem
def fq (q : Rat) : D := .tuple [.int q.num, .int q.den]
abbrev Pt := Rat × Rat
def fp (p : Pt) : D := .tuple [fq p.1, fq p.2]
/-! ### the common part -/
theorem gcd_step (m n : Nat) : Nat.gcd m n = Nat.gcd n (m % n) := by rw [Nat.gcd_comm n, ← Nat.gcd_rec n m, Nat.gcd_comm]
theorem fmod_sgn (s : Int) (hs : s = 1 ∨ s = -1) (m n : Nat) (hn : n ≠ 0) : (s * (m : Int)).fmod (s * n) = s * ((m % n : Nat) : Int) := by
  rcases hs with rfl | rfl
  · rw [Int.one_mul, Int.one_mul, Int.one_mul, Int.fmod_eq_emod_of_nonneg _ (by omega)]; rfl
  · rw [Int.neg_one_mul, Int.neg_one_mul, Int.neg_one_mul]
    rw [Int.neg_fmod_neg, Int.fmod_eq_emod_of_nonneg _ (by omega)]; rfl
theorem whileL_succ {c : List Sl → R Bool} {f : List Sl → Option Out} {ρ ρ' : List Sl} {n : Nat} (h1 : c ρ = .ok true) (h2 : f ρ = some (.nx ρ')) : whileL c f (n + 1) ρ = whileL c f n ρ' := by
  rw [whileL, h1]; simp only [lift, if_true, h2]
theorem whileL_end {c : List Sl → R Bool} {f : List Sl → Option Out} {ρ : List Sl} {n : Nat} (h1 : c ρ = .ok false) : whileL c f (n + 1) ρ = some (.nx ρ) := by
  rw [whileL, h1]; simp only [lift, Bool.false_eq_true, if_false]
section
variable {c : List Sl → R Bool} {f : List Sl → Option Out} (st : Int → Int → List Sl) (hc : ∀ a b, c (st a b) = .ok (!decide (b = 0))) (hf : ∀ a b, b ≠ 0 → f (st a b) = some (.nx (st b (a.fmod b))))
include hc hf
theorem euc_pos (s : Int) (hs : s = 1 ∨ s = -1) : ∀ (k m n : Nat), n < 2 ^ k → ∀ fuel, 2 * k + 1 ≤ fuel → whileL c f fuel (st (s * m) (s * n)) = some (.nx (st (s * (Nat.gcd m n : Nat)) 0)) := by
  have stop : ∀ (m fuel : Nat), 1 ≤ fuel → whileL c f fuel (st (s * m) (s * (0 : Nat))) = some (.nx (st (s * (Nat.gcd m 0 : Nat)) 0)) := fun m fuel h => by
    obtain ⟨u, rfl⟩ : ∃ u, fuel = u + 1 := ⟨fuel - 1, by omega⟩
    have e0 : s * ((0 : Nat) : Int) = 0 := by simp
    rw [e0, Nat.gcd_zero_right, whileL_end (by rw [hc]; rfl)]
  have step : ∀ (m n fuel : Nat), n ≠ 0 → whileL c f (fuel + 1) (st (s * m) (s * n)) = whileL c f fuel (st (s * n) (s * (m % n : Nat))) := fun m n fuel hn => by
    have h0 : s * (n : Int) ≠ 0 := by rcases hs with rfl | rfl <;> omega
    rw [whileL_succ (by rw [hc, decide_eq_false h0]; rfl) (hf _ _ h0), fmod_sgn s hs m n hn]
  intro k
  induction k with
  | zero =>
    intro m n h fuel hu
    have : n = 0 := by simp at h; exact h
    subst this
    exact stop m fuel hu
  | succ k ih =>
    intro m n h fuel hu
    by_cases hn : n = 0
    · subst hn; exact stop m fuel (by omega)
    obtain ⟨u, rfl⟩ : ∃ u, fuel = u + 2 := ⟨fuel - 2, by omega⟩
    rw [step m n (u + 1) hn, gcd_step m n]
    by_cases hr : m % n = 0
    · rw [hr]; exact stop n (u + 1) (by omega)
    have hlt : m % n < n := Nat.mod_lt _ (by omega)
    rw [step n (m % n) u hr, gcd_step n (m % n)]
    refine ih _ _ ?_ _ (by omega)
    have h2 : 2 * (n % (m % n)) < n := by
      by_cases hh : 2 * (m % n) ≤ n
      · have := Nat.mod_lt n (show m % n > 0 by omega); omega
      · have e : n % (m % n) = n - m % n := by
          rw [Nat.mod_eq_sub_mod (by omega), Nat.mod_eq_of_lt (by omega)]
        omega
    rw [Nat.pow_succ] at h
    omega
theorem euc (a b : Int) (k fuel : Nat) (hk : b.natAbs < 2 ^ k) (hu : 2 * k + 2 ≤ fuel) : ∃ g : Int, whileL c f fuel (st a b) = some (.nx (st g 0)) ∧ g.natAbs = Int.gcd a b ∧ (0 < b → 0 < g) ∧ (b < 0 → g < 0) := by
  obtain ⟨u, rfl⟩ : ∃ u, fuel = u + 1 := ⟨fuel - 1, by omega⟩
  by_cases hb : b = 0
  · subst hb
    exact ⟨a, whileL_end (by rw [hc]; rfl), by rw [Int.gcd_zero_right], by omega, by omega⟩
  obtain ⟨s, hs, e1, hsb⟩ : ∃ s : Int, (s = 1 ∨ s = -1) ∧ b = s * (b.natAbs : Int) ∧ ((0 < b → s = 1) ∧ (b < 0 → s = -1)) := by
    rcases Int.lt_or_gt_of_ne hb with h | h
    · exact ⟨-1, .inr rfl, by omega, by omega, by omega⟩
    · exact ⟨1, .inl rfl, by omega, by omega, by omega⟩
  have hn : b.natAbs ≠ 0 := by omega
  have e2 : ∃ r : Nat, a.fmod b = s * (r : Int) ∧ r < b.natAbs ∧ Nat.gcd b.natAbs r = Int.gcd a b := by
    have hmod : a.fmod b = a - b * a.fdiv b := by have := Int.mul_fdiv_add_fmod a b; omega
    have hg : Int.gcd b (a.fmod b) = Int.gcd a b := by
      rw [hmod, Int.gcd_comm a b]
      have : a - b * a.fdiv b = a + b * (-(a.fdiv b)) := by rw [Int.mul_neg]; omega
      rw [this, Int.gcd_add_mul_left_right]
    rcases hs with rfl | rfl
    · have h0 : 0 < b := by omega
      have := Int.fmod_nonneg_of_pos a h0
      have := Int.fmod_lt_of_pos a h0
      exact ⟨(a.fmod b).natAbs, by omega, by omega, hg⟩
    · have h0 : b < 0 := by omega
      have e : a.fmod b = -((-a).fmod (-b)) := by
        have := Int.neg_fmod_neg (a := a) (b := b)
        omega
      have := Int.fmod_nonneg_of_pos (-a) (show 0 < -b by omega)
      have := Int.fmod_lt_of_pos (-a) (show 0 < -b by omega)
      exact ⟨(a.fmod b).natAbs, by omega, by omega, hg⟩
  obtain ⟨r, r1, r2, r3⟩ := e2
  refine ⟨s * (Int.gcd a b : Nat), ?_, ?_, fun h => ?_, fun h => ?_⟩
  · have h := euc_pos st hc hf s hs k b.natAbs r (by omega) u (by omega)
    rw [whileL_succ (by rw [hc, decide_eq_false hb]; rfl) (hf _ _ hb), r1]
    rw [r3, ← e1] at h
    exact h
  · rcases hs with rfl | rfl <;> omega
  · have := hsb.1 h; subst this
    have : 0 < Int.gcd a b := Int.gcd_pos_of_ne_zero_right a hb
    omega
  · have := hsb.2 h; subst this
    have : 0 < Int.gcd a b := Int.gcd_pos_of_ne_zero_right a hb
    omega
end
/-- what a fraction is in least terms -/
theorem least_num {a b g : Int} (hb : b ≠ 0) (hg : g.natAbs = Int.gcd a b) (h1 : 0 < b → 0 < g) (h2 : b < 0 → g < 0) : a.fdiv g = ((a : Rat) / (b : Rat)).num ∧ b.fdiv g = (((a : Rat) / (b : Rat)).den : Int) ∧ g ≠ 0 := by
  have hg0 : 0 < Int.gcd a b := Int.gcd_pos_of_ne_zero_right a hb
  have g0 : g ≠ 0 := by omega
  have da : g ∣ a := Int.natAbs_dvd.mp (by rw [hg]; exact Int.gcd_dvd_left ..)
  have db : g ∣ b := Int.natAbs_dvd.mp (by rw [hg]; exact Int.gcd_dvd_right ..)
  rw [← Rat.divInt_eq_div, Rat.num_divInt, Rat.den_divInt, if_neg hb, Int.gcd_comm b a, ← hg]
  rw [Int.fdiv_eq_ediv_of_dvd da, Int.fdiv_eq_ediv_of_dvd db]
  rcases Int.lt_or_gt_of_ne hb with h | h
  · have hgn := h2 h
    have e : ((g.natAbs : Nat) : Int) = -g := by omega
    refine ⟨?_, ?_, g0⟩
    · obtain ⟨z, rfl⟩ := da
      rw [Int.sign_eq_neg_one_of_neg h, e, Int.neg_one_mul, Int.mul_ediv_cancel_left _ g0, show -(g * z) = -g * z by rw [Int.neg_mul], Int.mul_ediv_cancel_left _ (by omega)]
    · obtain ⟨z, rfl⟩ := db
      rw [Int.mul_ediv_cancel_left _ g0]
      have hz : 0 < z := by
        rcases Int.lt_trichotomy z 0 with q | q | q
        · have := Int.mul_pos_of_neg_of_neg hgn q; omega
        · subst q; simp at hb
        · exact q
      have e2 : (g * z).natAbs / g.natAbs = z.natAbs := by rw [Int.natAbs_mul, Nat.mul_div_cancel_left _ (by omega)]
      rw [e2]; omega
  · have hgn := h1 h
    have e : ((g.natAbs : Nat) : Int) = g := by omega
    refine ⟨?_, ?_, g0⟩
    · rw [Int.sign_eq_one_of_pos h, e, Int.one_mul]
    · obtain ⟨z, rfl⟩ := db
      rw [Int.mul_ediv_cancel_left _ g0]
      have hz : 0 < z := by
        rcases Int.lt_trichotomy z 0 with q | q | q
        · have := Int.mul_neg_of_pos_of_neg hgn q; omega
        · subst q; simp at hb
        · exact q
      have e2 : (g * z).natAbs / g.natAbs = z.natAbs := by rw [Int.natAbs_mul, Nat.mul_div_cancel_left _ (by omega)]
      rw [e2]; omega
end Ad
set_option Elab.async false
set_option linter.all false
set_option maxRecDepth 100000
/-! How great fractions are. -/
namespace Ad
open PySem
def Bt (k : Nat) (x : Int) : Prop := x.natAbs < 2 ^ k
theorem Bt.mono {a b : Nat} {x : Int} (h : Bt a x) (hab : a ≤ b) : Bt b x := Nat.lt_of_lt_of_le h (Nat.pow_le_pow_right (by decide) hab)
theorem Bt.mul {a b : Nat} {x y : Int} (hx : Bt a x) (hy : Bt b y) : Bt (a + b) (x * y) := by
  unfold Bt at *
  rw [Int.natAbs_mul, Nat.pow_add]
  exact Nat.mul_lt_mul'' hx hy
theorem Bt.add {a b : Nat} {x y : Int} (hx : Bt a x) (hy : Bt b y) : Bt (max a b + 1) (x + y) := by
  have h1 := hx.mono (Nat.le_max_left a b)
  have h2 := hy.mono (Nat.le_max_right a b)
  unfold Bt at *
  have := Int.natAbs_add_le x y
  rw [Nat.pow_succ]; omega
theorem Bt.neg {a : Nat} {x : Int} (hx : Bt a x) : Bt a (-x) := by unfold Bt at *; rwa [Int.natAbs_neg]
theorem Bt.sub {a b : Nat} {x y : Int} (hx : Bt a x) (hy : Bt b y) : Bt (max a b + 1) (x - y) := by rw [Int.sub_eq_add_neg]; exact hx.add hy.neg
theorem Bt.mulB {a b : Nat} {x y : Int} (hx : Bt a x) (hy : Bt b y) (h : a + b ≤ 1000000) : mulB x y = true := by
  by_cases x0 : x.natAbs = 0
  · exact mulB_l (by rw [x0]; decide)
  by_cases y0 : y.natAbs = 0
  · exact mulB_r (by rw [y0]; decide)
  have h1 := (Nat.log2_lt x0).mpr hx
  have h2 := (Nat.log2_lt y0).mpr hy
  unfold Ad.mulB
  rw [decide_eq_true (show x.natAbs.log2 + y.natAbs.log2 < 1000000 by omega), Bool.or_true]
/-- a fraction's top and bottom below 2 ^ h -/
structure Ht (h : Nat) (q : Rat) : Prop where
  n : Bt h q.num
  d : Bt h q.den
theorem Ht.mono {a b : Nat} {x : Rat} (h : Ht a x) (hab : a ≤ b) : Ht b x := ⟨h.n.mono hab, h.d.mono hab⟩
theorem rat_eq (q : Rat) : q = (q.num : Rat) / ((q.den : Int) : Rat) := by rw [← Rat.divInt_eq_div, Rat.num_divInt_den]
theorem den_ne (q : Rat) : (q.den : Int) ≠ 0 := by have := q.den_nz; omega
theorem den_neQ (q : Rat) : ((q.den : Int) : Rat) ≠ 0 := by
  intro h
  have := Rat.intCast_inj.mp (h.trans (by rfl : (0 : Rat) = ((0 : Int) : Rat)))
  exact den_ne q this
theorem ne_cast {b : Int} (h : b ≠ 0) : (b : Rat) ≠ 0 := fun z => h (Rat.intCast_inj.mp (z.trans (by rfl : (0 : Rat) = ((0 : Int) : Rat))))
theorem Ht.div {a b : Int} {h : Nat} (hb : b ≠ 0) (ha : Bt h a) (hb' : Bt h b) : Ht h ((a : Rat) / (b : Rat)) := by
  have hg0 : 0 < Int.gcd b a := Int.gcd_pos_of_ne_zero_left a hb
  constructor
  · rw [← Rat.divInt_eq_div, Rat.num_divInt]
    unfold Bt at *
    have d : ((Int.gcd b a : Nat) : Int) ∣ b.sign * a := Int.dvd_mul_of_dvd_right (Int.gcd_dvd_right ..)
    rw [Int.natAbs_ediv_of_dvd d, Int.natAbs_mul]
    have e : b.sign.natAbs = 1 := by rcases Int.lt_or_gt_of_ne hb with q | q; rw [Int.sign_eq_neg_one_of_neg q]; rfl; rw [Int.sign_eq_one_of_pos q]; rfl
    rw [e, Nat.one_mul]
    exact Nat.lt_of_le_of_lt (Nat.div_le_self _ _) ha
  · rw [← Rat.divInt_eq_div, Rat.den_divInt, if_neg hb]
    unfold Bt at *
    exact Nat.lt_of_le_of_lt (Nat.div_le_self _ _) hb'
theorem add_eq (x y : Rat) : x + y = ((x.num * y.den + y.num * x.den : Int) : Rat) / ((x.den * y.den : Int) : Rat) := by
  have hx := den_neQ x
  have hy := den_neQ y
  have ex := rat_eq x
  have ey := rat_eq y
  generalize (x.num : Rat) = a at *
  rw [Rat.intCast_add, Rat.intCast_mul, Rat.intCast_mul, Rat.intCast_mul]
  generalize hb : ((x.den : Int) : Rat) = b at *
  generalize hd : ((y.den : Int) : Rat) = d at *
  have e1 : x * b = (x.num : Rat) := by rw [← hb]; conv => lhs; lhs; rw [rat_eq x]
                                        rw [hb]; exact Rat.div_mul_cancel hx
  have e2 : y * d = (y.num : Rat) := by rw [← hd]; conv => lhs; lhs; rw [rat_eq y]
                                        rw [hd]; exact Rat.div_mul_cancel hy
  rw [← e1, ← e2]
  grind
theorem mul_eq (x y : Rat) : x * y = ((x.num * y.num : Int) : Rat) / ((x.den * y.den : Int) : Rat) := by
  have hx := den_neQ x
  have hy := den_neQ y
  rw [Rat.intCast_mul, Rat.intCast_mul]
  have ex := rat_eq x
  have ey := rat_eq y
  generalize hb : ((x.den : Int) : Rat) = b at *
  generalize hd : ((y.den : Int) : Rat) = d at *
  generalize (x.num : Rat) = a at *
  generalize (y.num : Rat) = c at *
  rw [ex, ey]
  grind
theorem sub_eq (x y : Rat) : x - y = ((x.num * y.den - y.num * x.den : Int) : Rat) / ((x.den * y.den : Int) : Rat) := by
  have hx := den_neQ x
  have hy := den_neQ y
  have ex := rat_eq x
  have ey := rat_eq y
  rw [Rat.intCast_sub, Rat.intCast_mul, Rat.intCast_mul, Rat.intCast_mul]
  generalize hb : ((x.den : Int) : Rat) = b at *
  generalize hd : ((y.den : Int) : Rat) = d at *
  generalize (x.num : Rat) = a at *
  generalize (y.num : Rat) = c at *
  rw [ex, ey]
  grind
theorem num_ne {x : Rat} (h : x ≠ 0) : x.num ≠ 0 := fun z => h (by rw [rat_eq x, z]; show (0 : Rat) / _ = 0; rw [Rat.div_def, Rat.zero_mul])
theorem num_eq {x : Rat} : x.num = 0 ↔ x = 0 := ⟨fun z => by rw [rat_eq x, z]; show (0 : Rat) / _ = 0; rw [Rat.div_def, Rat.zero_mul], fun h => by rw [h]; rfl⟩
theorem div_eq (x y : Rat) (h : y ≠ 0) : x / y = ((x.num * y.den : Int) : Rat) / ((x.den * y.num : Int) : Rat) := by
  have hx := den_neQ x
  have hy := den_neQ y
  have hn : (y.num : Rat) ≠ 0 := ne_cast (num_ne h)
  rw [Rat.intCast_mul, Rat.intCast_mul]
  have ex := rat_eq x
  have ey := rat_eq y
  generalize hb : ((x.den : Int) : Rat) = b at *
  generalize hd : ((y.den : Int) : Rat) = d at *
  generalize (x.num : Rat) = a at *
  generalize (y.num : Rat) = c at *
  rw [ex, ey]
  grind
theorem Ht.add {a b : Nat} {x y : Rat} (hx : Ht a x) (hy : Ht b y) : Ht (a + b + 1) (x + y) := by
  rw [add_eq]
  have h1 := hx.n.mul hy.d
  have h2 := hy.n.mul hx.d
  refine Ht.div (Int.mul_ne_zero (den_ne x) (den_ne y)) ((h1.add h2).mono (by omega)) ((hx.d.mul hy.d).mono (by omega))
theorem Ht.sub {a b : Nat} {x y : Rat} (hx : Ht a x) (hy : Ht b y) : Ht (a + b + 1) (x - y) := by
  rw [sub_eq]
  have h1 := hx.n.mul hy.d
  have h2 := hy.n.mul hx.d
  refine Ht.div (Int.mul_ne_zero (den_ne x) (den_ne y)) ((h1.sub h2).mono (by omega)) ((hx.d.mul hy.d).mono (by omega))
theorem Ht.mul {a b : Nat} {x y : Rat} (hx : Ht a x) (hy : Ht b y) : Ht (a + b) (x * y) := by
  rw [mul_eq]
  exact Ht.div (Int.mul_ne_zero (den_ne x) (den_ne y)) (hx.n.mul hy.n) (hx.d.mul hy.d)
theorem Ht.quo {a b : Nat} {x y : Rat} (h : y ≠ 0) (hx : Ht a x) (hy : Ht b y) : Ht (a + b) (x / y) := by
  rw [div_eq x y h]
  exact Ht.div (Int.mul_ne_zero (den_ne x) (num_ne h)) (hx.n.mul hy.d) (hx.d.mul hy.n)
theorem Ht.int {a : Nat} {x : Int} (h : Bt a x) (h0 : 1 ≤ a) : Ht a (x : Rat) := ⟨by rw [Rat.num_intCast]; exact h, by
  rw [Rat.den_intCast]; unfold Bt; exact Nat.lt_of_lt_of_le (by decide : 1 < 2 ^ 1) (Nat.pow_le_pow_right (by decide) h0)⟩
structure HtP (h : Nat) (p : Pt) : Prop where
  x : Ht h p.1
  y : Ht h p.2
theorem HtP.mono {a b : Nat} {p : Pt} (h : HtP a p) (hab : a ≤ b) : HtP b p := ⟨h.x.mono hab, h.y.mono hab⟩
/-! ### ways -/
def wayR (p q : Pt) : Pt := (q.1 - p.1, q.2 - p.2)
def crR (u v : Pt) : Rat := u.1 * v.2 - u.2 * v.1
def dtR (u v : Pt) : Rat := u.1 * v.1 + u.2 * v.2
def onR (s e : Pt) (t : Rat) : Pt := (s.1 + t * (e.1 - s.1), s.2 + t * (e.2 - s.2))
theorem HtP.way {a b : Nat} {p q : Pt} (hp : HtP a p) (hq : HtP b q) : HtP (a + b + 1) (wayR p q) := ⟨(hq.x.sub hp.x).mono (by omega), (hq.y.sub hp.y).mono (by omega)⟩
theorem HtP.cr {a b : Nat} {p q : Pt} (hp : HtP a p) (hq : HtP b q) : Ht (2 * a + 2 * b + 1) (crR p q) := ((hp.x.mul hq.y).sub (hp.y.mul hq.x)).mono (by omega)
theorem HtP.dt {a b : Nat} {p q : Pt} (hp : HtP a p) (hq : HtP b q) : Ht (2 * a + 2 * b + 1) (dtR p q) := ((hp.x.mul hq.x).add (hp.y.mul hq.y)).mono (by omega)
theorem HtP.on {a k : Nat} {p q : Pt} {t : Rat} (hp : HtP a p) (hq : HtP a q) (ht : Ht k t) : HtP (3 * a + k + 2) (onR p q t) :=
  ⟨(hp.x.add (ht.mul (hq.x.sub hp.x))).mono (by omega), (hp.y.add (ht.mul (hq.y.sub hp.y))).mono (by omega)⟩
end Ad
set_option Elab.async false
set_option linter.all false
set_option maxRecDepth 100000
/-! Steps, by their kinds. -/
namespace Ad
open PySem
inductive Wd where
  | free | slide | share | shift | turn | meet | cross | foot | upright | center | again
  deriving DecidableEq
def Wd.s : Wd → Str
  | .free => "free" | .slide => "slide" | .share => "share" | .shift => "shift" | .turn => "turn" | .meet => "meet" | .cross => "cross" | .foot => "foot" | .upright => "upright" | .center => "center" | .again => "again"
def wds : List Wd := [.free, .slide, .share, .shift, .turn, .meet, .cross, .foot, .upright, .center, .again]
theorem wds_all (w : Wd) : w ∈ wds := by cases w <;> decide
def Wd.k : Wd → Nat
  | .free => 0 | .slide => 2 | .share => 2 | .shift => 3 | .turn => 2 | .meet => 4 | .cross => 5 | .foot => 3 | .upright => 5 | .center => 3 | .again => 3
theorem wd_eqv (u v : Wd) : (PyData.eqv (.str u.s) (.str v.s)) = decide (u = v) := by
  have h : (wds.all fun u => wds.all fun v => PyData.eqv (.str u.s) (.str v.s) == decide (u = v)) = true := by decide +kernel
  exact beq_iff_eq.mp (List.all_eq_true.mp (List.all_eq_true.mp h u (wds_all u)) v (wds_all v))
theorem wd_ok (u : Wd) : eqOk (.str u.s) = true := by
  have h : (wds.all fun u => eqOk (.str u.s)) = true := by decide +kernel
  exact List.all_eq_true.mp h u (wds_all u)
theorem wd_beq (u v : Wd) : (u.s == v.s) = decide (u = v) := wd_eqv u v
theorem wd_eq (u v : Wd) : cmpD .Eq (.str u.s) (.str v.s) = .ok (decide (u = v)) := by rw [n_eq _ _ (wd_ok u) (wd_ok v), wd_eqv]
theorem wd_ne (u v : Wd) : cmpD .NotEq (.str u.s) (.str v.s) = .ok (!decide (u = v)) := by rw [n_ne _ _ (wd_ok u) (wd_ok v), wd_eqv]
theorem wd_pts (u : Wd) : pts u.s = some u.k := by cases u <;> decide +kernel
theorem wd_of {w : Str} {j : Nat} (h : pts w = some j) : ∃ u : Wd, w = u.s ∧ j = u.k := by
  have h := pts_mem h
  simp only [ptsL, List.mem_cons, Prod.mk.injEq, List.not_mem_nil, or_false] at h
  rcases h with h | h | h | h | h | h | h | h | h | h | h
  · exact ⟨.free, h.1, h.2⟩
  · exact ⟨.slide, h.1, h.2⟩
  · exact ⟨.share, h.1, h.2⟩
  · exact ⟨.shift, h.1, h.2⟩
  · exact ⟨.turn, h.1, h.2⟩
  · exact ⟨.meet, h.1, h.2⟩
  · exact ⟨.cross, h.1, h.2⟩
  · exact ⟨.foot, h.1, h.2⟩
  · exact ⟨.upright, h.1, h.2⟩
  · exact ⟨.center, h.1, h.2⟩
  · exact ⟨.again, h.1, h.2⟩
/-- words by their names -/
theorem wS0 : (Str.ofString "free") = Wd.free.s := rfl
theorem wS1 : (Str.ofString "slide") = Wd.slide.s := rfl
theorem wS2 : (Str.ofString "share") = Wd.share.s := rfl
theorem wS3 : (Str.ofString "shift") = Wd.shift.s := rfl
theorem wS4 : (Str.ofString "turn") = Wd.turn.s := rfl
theorem wS5 : (Str.ofString "meet") = Wd.meet.s := rfl
theorem wS6 : (Str.ofString "cross") = Wd.cross.s := rfl
theorem wS7 : (Str.ofString "foot") = Wd.foot.s := rfl
theorem wS8 : (Str.ofString "upright") = Wd.upright.s := rfl
theorem wS9 : (Str.ofString "center") = Wd.center.s := rfl
theorem wSa : (Str.ofString "again") = Wd.again.s := rfl
inductive Stp where
  | free
  | slide (a b : Nat)
  | share (a b : Nat) (t u : Int)
  | shift (a b c : Nat)
  | turn (a b : Nat)
  | meet (a b c d : Nat)
  | cross (a b c d e : Nat)
  | foot (a b c : Nat)
  | upright (a b c d e : Nat)
  | center (a b c : Nat)
  | again (a b c : Nat)
  deriving DecidableEq
def Stp.w : Stp → Wd
  | .free => .free | .slide .. => .slide | .share .. => .share | .shift .. => .shift | .turn .. => .turn | .meet .. => .meet | .cross .. => .cross | .foot .. => .foot | .upright .. => .upright | .center .. => .center | .again .. => .again
/-- the points that it names -/
def Stp.nm : Stp → List Nat
  | .free => [] | .slide a b => [a, b] | .share a b _ _ => [a, b] | .shift a b c => [a, b, c] | .turn a b => [a, b] | .meet a b c d => [a, b, c, d] | .cross a b c d e => [a, b, c, d, e] | .foot a b c => [a, b, c] | .upright a b c d e => [a, b, c, d, e] | .center a b c => [a, b, c] | .again a b c => [a, b, c]
def Stp.more : Stp → List Int
  | .share _ _ t u => [t, u]
  | _ => []
def iN (a : Nat) : D := .int (a : Int)
def Stp.enc (s : Stp) : D := .tuple (.str s.w.s :: (s.nm.map iN ++ s.more.map .int))
structure Stp.In (s : Stp) (k : Nat) : Prop where
  nm : ∀ i ∈ s.nm, i < k
  mo : ∀ a b t u, s = .share a b t u → (-9 ≤ t ∧ t ≤ 9) ∧ 1 ≤ u ∧ u ≤ 9
theorem stp_of {d : D} {k : Nat} (h : isStep d k = true) : ∃ s : Stp, d = s.enc ∧ s.In k := by
  obtain ⟨w, rest, j, rfl, hj⟩ := isStep_ex h
  obtain ⟨ns, rfl⟩ := step_ints h
  obtain ⟨u, rfl, rfl⟩ := wd_of hj
  simp only [isStep, wd_pts, Bool.and_eq_true, decide_eq_true_eq, List.length_map, ← List.map_take, List.all_eq_true, Bool.or_eq_true, Bool.not_eq_true'] at h
  obtain ⟨⟨h1, h2⟩, h3⟩ := h
  have nn : ∀ x ∈ ns.take u.k, ∃ i : Nat, x = i ∧ i < k := fun x hx => by
    obtain ⟨i, e, e1, e2⟩ := isW_int (h2 (.int x) (List.mem_map.mpr ⟨x, hx, rfl⟩))
    cases e
    exact ⟨x.toNat, by omega, by omega⟩
  have hsh : ∀ v : Wd, isShare v.s = decide (v = .share) := fun v => wd_beq v .share
  rw [hsh] at h1 h3
  have mk : ∀ (s : Stp) (l : List Int), s.w = u → l = ns → (s.nm.map fun (a : Nat) => (a : Int)) ++ s.more = l → (PyData.tuple (.str u.s :: ns.map .int)) = s.enc := fun s l e1 e2 e3 => by
    subst e1; subst e2
    simp only [Stp.enc, ← e3, List.map_append, List.map_map]; rfl
  cases u <;> simp only [Wd.k, decide_false, reduceCtorEq, Bool.false_eq_true, if_false, decide_true, if_true, Nat.add_zero, Nat.reduceAdd] at h1 nn h3
  · obtain rfl := List.eq_nil_of_length_eq_zero h1
    exact ⟨.free, mk _ _ rfl rfl rfl, ⟨by simp [Stp.nm], by intro a b t u z; cases z⟩⟩
  · match ns, h1, nn, mk with
    | [x, y], _, nn, mk =>
      obtain ⟨a, rfl, ha⟩ := nn x (by simp)
      obtain ⟨b, rfl, hb⟩ := nn y (by simp)
      exact ⟨.slide a b, mk _ _ rfl rfl rfl, ⟨by simp [Stp.nm, ha, hb], by intro a b t u z; cases z⟩⟩
  · match ns, h1, nn, mk, h3 with
    | [x, y, t, u], _, nn, mk, h3 =>
      obtain ⟨a, rfl, ha⟩ := nn x (by simp)
      obtain ⟨b, rfl, hb⟩ := nn y (by simp)
      refine ⟨.share a b t u, mk _ _ rfl rfl rfl, ⟨by simp [Stp.nm, ha, hb], fun a' b' t' u' z => ?_⟩⟩
      cases z
      rcases h3 with h3 | h3
      · cases h3
      · simp only [List.map_cons, List.map_nil, List.getD_cons_succ, List.getD_cons_zero, isW, Bool.and_eq_true, decide_eq_true_eq] at h3
        exact h3
  · match ns, h1, nn, mk with
    | [x, y, z], _, nn, mk =>
      obtain ⟨a, rfl, ha⟩ := nn x (by simp)
      obtain ⟨b, rfl, hb⟩ := nn y (by simp)
      obtain ⟨c, rfl, hc⟩ := nn z (by simp)
      exact ⟨.shift a b c, mk _ _ rfl rfl rfl, ⟨by simp [Stp.nm, ha, hb, hc], by intro a b t u z; cases z⟩⟩
  · match ns, h1, nn, mk with
    | [x, y], _, nn, mk =>
      obtain ⟨a, rfl, ha⟩ := nn x (by simp)
      obtain ⟨b, rfl, hb⟩ := nn y (by simp)
      exact ⟨.turn a b, mk _ _ rfl rfl rfl, ⟨by simp [Stp.nm, ha, hb], by intro a b t u z; cases z⟩⟩
  · match ns, h1, nn, mk with
    | [x, y, z, v], _, nn, mk =>
      obtain ⟨a, rfl, ha⟩ := nn x (by simp)
      obtain ⟨b, rfl, hb⟩ := nn y (by simp)
      obtain ⟨c, rfl, hc⟩ := nn z (by simp)
      obtain ⟨d, rfl, hd⟩ := nn v (by simp)
      exact ⟨.meet a b c d, mk _ _ rfl rfl rfl, ⟨by simp [Stp.nm, ha, hb, hc, hd], by intro a b t u z; cases z⟩⟩
  · match ns, h1, nn, mk with
    | [x, y, z, v, w], _, nn, mk =>
      obtain ⟨a, rfl, ha⟩ := nn x (by simp)
      obtain ⟨b, rfl, hb⟩ := nn y (by simp)
      obtain ⟨c, rfl, hc⟩ := nn z (by simp)
      obtain ⟨d, rfl, hd⟩ := nn v (by simp)
      obtain ⟨e, rfl, he⟩ := nn w (by simp)
      exact ⟨.cross a b c d e, mk _ _ rfl rfl rfl, ⟨by simp [Stp.nm, ha, hb, hc, hd, he], by intro a b t u z; cases z⟩⟩
  · match ns, h1, nn, mk with
    | [x, y, z], _, nn, mk =>
      obtain ⟨a, rfl, ha⟩ := nn x (by simp)
      obtain ⟨b, rfl, hb⟩ := nn y (by simp)
      obtain ⟨c, rfl, hc⟩ := nn z (by simp)
      exact ⟨.foot a b c, mk _ _ rfl rfl rfl, ⟨by simp [Stp.nm, ha, hb, hc], by intro a b t u z; cases z⟩⟩
  · match ns, h1, nn, mk with
    | [x, y, z, v, w], _, nn, mk =>
      obtain ⟨a, rfl, ha⟩ := nn x (by simp)
      obtain ⟨b, rfl, hb⟩ := nn y (by simp)
      obtain ⟨c, rfl, hc⟩ := nn z (by simp)
      obtain ⟨d, rfl, hd⟩ := nn v (by simp)
      obtain ⟨e, rfl, he⟩ := nn w (by simp)
      exact ⟨.upright a b c d e, mk _ _ rfl rfl rfl, ⟨by simp [Stp.nm, ha, hb, hc, hd, he], by intro a b t u z; cases z⟩⟩
  · match ns, h1, nn, mk with
    | [x, y, z], _, nn, mk =>
      obtain ⟨a, rfl, ha⟩ := nn x (by simp)
      obtain ⟨b, rfl, hb⟩ := nn y (by simp)
      obtain ⟨c, rfl, hc⟩ := nn z (by simp)
      exact ⟨.center a b c, mk _ _ rfl rfl rfl, ⟨by simp [Stp.nm, ha, hb, hc], by intro a b t u z; cases z⟩⟩
  · match ns, h1, nn, mk with
    | [x, y, z], _, nn, mk =>
      obtain ⟨a, rfl, ha⟩ := nn x (by simp)
      obtain ⟨b, rfl, hb⟩ := nn y (by simp)
      obtain ⟨c, rfl, hc⟩ := nn z (by simp)
      exact ⟨.again a b c, mk _ _ rfl rfl rfl, ⟨by simp [Stp.nm, ha, hb, hc], by intro a b t u z; cases z⟩⟩
end Ad
set_option Elab.async false
set_option linter.all false
set_option maxRecDepth 100000
/-! Steps done, in fractions. -/
namespace Ad
open PySem
theorem fq0 (q : Rat) : idxD (fq q) (.int 0) = .ok (.int q.num) := rfl
theorem fq1 (q : Rat) : idxD (fq q) (.int 1) = .ok (.int q.den) := rfl
theorem fp0 (p : Pt) : idxD (fp p) (.int 0) = .ok (fq p.1) := rfl
theorem fp1 (p : Pt) : idxD (fp p) (.int 1) = .ok (fq p.2) := rfl
theorem fq_two : PyData.tuple [.int 2, .int 1] = fq 2 := rfl
theorem ht_two : Ht 2 (2 : Rat) := ⟨by show (2 : Rat).num.natAbs < 2 ^ 2; decide, by show ((2 : Rat).den : Int).natAbs < 2 ^ 2; decide⟩
theorem fp_mk (p : Pt) : PyData.tuple [fq p.1, fq p.2] = fp p := rfl
def cenR (a b c : Pt) : Pt :=
  (a.1 + (dtR (wayR a b) (wayR a b) * (wayR a c).2 - dtR (wayR a c) (wayR a c) * (wayR a b).2) / (2 * crR (wayR a b) (wayR a c)),
   a.2 + (dtR (wayR a c) (wayR a c) * (wayR a b).1 - dtR (wayR a b) (wayR a b) * (wayR a c).1) / (2 * crR (wayR a b) (wayR a c)))
def shrR (s : Stp) (f : Nat → Pt) : Rat × Rat × Pt × Pt := match s with
  | .meet a b c d => (crR (wayR (f a) (f c)) (wayR (f c) (f d)), crR (wayR (f a) (f b)) (wayR (f c) (f d)), f a, f b)
  | .cross a b c d e => (crR (wayR (f a) (f c)) (wayR (f d) (f e)), crR (wayR (f a) (f b)) (wayR (f d) (f e)), f a, f b)
  | .foot a b c => (dtR (wayR (f b) (f a)) (wayR (f b) (f c)), dtR (wayR (f b) (f c)) (wayR (f b) (f c)), f b, f c)
  | .upright a b c d e => (dtR (wayR (f a) (f c)) (wayR (f d) (f e)), dtR (wayR (f a) (f b)) (wayR (f d) (f e)), f a, f b)
  | .again a b c => (2 * dtR (wayR (f a) (f c)) (wayR (f a) (f b)), dtR (wayR (f a) (f b)) (wayR (f a) (f b)), f a, f b)
  | _ => (0, 0, f 0, f 0)
def lineR (q : Rat × Rat × Pt × Pt) : Option Pt := if q.2.1 = 0 then none else some (onR q.2.2.1 q.2.2.2 (q.1 / q.2.1))
def mkR (s : Stp) (f : Nat → Pt) (t : Rat) : Option Pt := match s with
  | .free => none
  | .slide a b => some (onR (f a) (f b) t)
  | .share a b u v => some (onR (f a) (f b) ((u : Rat) / (v : Rat)))
  | .shift a b c => some ((f a).1 + (wayR (f b) (f c)).1, (f a).2 + (wayR (f b) (f c)).2)
  | .turn a b => some ((f a).1 - (wayR (f a) (f b)).2, (f a).2 + (wayR (f a) (f b)).1)
  | .center a b c => if crR (wayR (f a) (f b)) (wayR (f a) (f c)) = 0 then none else some (cenR (f a) (f b) (f c))
  | .meet a b c d => lineR (shrR (.meet a b c d) f)
  | .cross a b c d e => lineR (shrR (.cross a b c d e) f)
  | .foot a b c => lineR (shrR (.foot a b c) f)
  | .upright a b c d e => lineR (shrR (.upright a b c d e) f)
  | .again a b c => lineR (shrR (.again a b c) f)
def optD : Option Pt → D
  | none => .none
  | some p => fp p
/-- how great a step's point may be -/
def hgt (w : Wd) (h : Nat) : Nat := match w with
  | .free => h
  | .slide => 4 * h + 2
  | .share => 3 * h + 6
  | .shift => 3 * h + 2
  | .turn => 3 * h + 2
  | .center => 29 * h + 21
  | _ => 19 * h + 14
theorem HtP.cen {h : Nat} {a b c : Pt} (ha : HtP h a) (hb : HtP h b) (hc : HtP h c) (h0 : crR (wayR a b) (wayR a c) ≠ 0) : HtP (29 * h + 21) (cenR a b c) := by
  have o := ha.way hb
  have u := ha.way hc
  have w := o.cr u
  have h2 : (2 : Rat) * crR (wayR a b) (wayR a c) ≠ 0 := by grind
  exact ⟨(ha.x.add (Ht.quo h2 (((o.dt o).mul u.y).sub ((u.dt u).mul o.y)) (ht_two.mul w))).mono (by omega), (ha.y.add (Ht.quo h2 (((u.dt u).mul o.x).sub ((o.dt o).mul u.x)) (ht_two.mul w))).mono (by omega)⟩
theorem shr_ht {h : Nat} {s : Stp} {f : Nat → Pt} (hf : ∀ i ∈ s.nm, HtP h (f i)) (hw : s.w = .meet ∨ s.w = .cross ∨ s.w = .foot ∨ s.w = .upright ∨ s.w = .again) :
    Ht (8 * h + 7) (shrR s f).1 ∧ Ht (8 * h + 5) (shrR s f).2.1 ∧ HtP h (shrR s f).2.2.1 ∧ HtP h (shrR s f).2.2.2 := by
  cases s with
  | meet a b c d =>
    simp only [Stp.nm, List.mem_cons, List.not_mem_nil, or_false, forall_eq_or_imp, forall_eq] at hf
    obtain ⟨h1, h2, h3, h4⟩ := hf
    exact ⟨((h1.way h3).cr (h3.way h4)).mono (by omega), ((h1.way h2).cr (h3.way h4)).mono (by omega), h1, h2⟩
  | cross a b c d e =>
    simp only [Stp.nm, List.mem_cons, List.not_mem_nil, or_false, forall_eq_or_imp, forall_eq] at hf
    obtain ⟨h1, h2, h3, h4, h5⟩ := hf
    exact ⟨((h1.way h3).cr (h4.way h5)).mono (by omega), ((h1.way h2).cr (h4.way h5)).mono (by omega), h1, h2⟩
  | foot a b c =>
    simp only [Stp.nm, List.mem_cons, List.not_mem_nil, or_false, forall_eq_or_imp, forall_eq] at hf
    obtain ⟨h1, h2, h3⟩ := hf
    exact ⟨((h2.way h1).dt (h2.way h3)).mono (by omega), ((h2.way h3).dt (h2.way h3)).mono (by omega), h2, h3⟩
  | upright a b c d e =>
    simp only [Stp.nm, List.mem_cons, List.not_mem_nil, or_false, forall_eq_or_imp, forall_eq] at hf
    obtain ⟨h1, h2, h3, h4, h5⟩ := hf
    exact ⟨((h1.way h3).dt (h4.way h5)).mono (by omega), ((h1.way h2).dt (h4.way h5)).mono (by omega), h1, h2⟩
  | again a b c =>
    simp only [Stp.nm, List.mem_cons, List.not_mem_nil, or_false, forall_eq_or_imp, forall_eq] at hf
    obtain ⟨h1, h2, h3⟩ := hf
    exact ⟨(ht_two.mul ((h1.way h3).dt (h1.way h2))).mono (by omega), ((h1.way h2).dt (h1.way h2)).mono (by omega), h1, h2⟩
  | _ => simp [Stp.w] at hw
theorem line_ht {h : Nat} {q : Rat × Rat × Pt × Pt} {p : Pt} (h1 : Ht (8 * h + 7) q.1) (h2 : Ht (8 * h + 5) q.2.1) (h3 : HtP h q.2.2.1) (h4 : HtP h q.2.2.2) (e : lineR q = some p) : HtP (19 * h + 14) p := by
  unfold lineR at e
  split at e
  · cases e
  · rename_i h0
    cases e
    exact (h3.on h4 (Ht.quo h0 h1 h2)).mono (by omega)
theorem small_ht {u v : Int} (hu : -9 ≤ u ∧ u ≤ 9) (hv : 1 ≤ v ∧ v ≤ 9) : Ht 4 ((u : Rat) / (v : Rat)) := Ht.div (by omega) (by unfold Bt; omega) (by unfold Bt; omega)
theorem mk_ht {h k m : Nat} {s : Stp} {f : Nat → Pt} {t : Rat} {p : Pt} (hf : ∀ i ∈ s.nm, HtP h (f i)) (hs : s.In m) (ht : Ht k t) (hk : k ≤ h) (e : mkR s f t = some p) : HtP (hgt s.w h) p := by
  cases s with
  | free => cases e
  | slide a b =>
    simp only [Stp.nm, List.mem_cons, List.not_mem_nil, or_false, forall_eq_or_imp, forall_eq] at hf
    cases e
    exact (hf.1.on hf.2 ht).mono (by simp only [hgt, Stp.w]; omega)
  | share a b u v =>
    simp only [Stp.nm, List.mem_cons, List.not_mem_nil, or_false, forall_eq_or_imp, forall_eq] at hf
    cases e
    obtain ⟨h1, h2⟩ := hs.mo a b u v rfl
    exact (hf.1.on hf.2 (small_ht h1 h2)).mono (by simp only [hgt, Stp.w]; omega)
  | shift a b c =>
    simp only [Stp.nm, List.mem_cons, List.not_mem_nil, or_false, forall_eq_or_imp, forall_eq] at hf
    cases e
    obtain ⟨h1, h2, h3⟩ := hf
    exact ⟨(h1.x.add (h2.way h3).x).mono (by simp only [hgt, Stp.w]; omega), (h1.y.add (h2.way h3).y).mono (by simp only [hgt, Stp.w]; omega)⟩
  | turn a b =>
    simp only [Stp.nm, List.mem_cons, List.not_mem_nil, or_false, forall_eq_or_imp, forall_eq] at hf
    cases e
    obtain ⟨h1, h2⟩ := hf
    exact ⟨(h1.x.sub (h1.way h2).y).mono (by simp only [hgt, Stp.w]; omega), (h1.y.add (h1.way h2).x).mono (by simp only [hgt, Stp.w]; omega)⟩
  | center a b c =>
    simp only [Stp.nm, List.mem_cons, List.not_mem_nil, or_false, forall_eq_or_imp, forall_eq] at hf
    simp only [mkR] at e
    split at e
    · cases e
    · rename_i h0
      cases e
      exact hf.1.cen hf.2.1 hf.2.2 h0
  | meet a b c d => obtain ⟨h1, h2, h3, h4⟩ := shr_ht hf (.inl rfl); exact line_ht h1 h2 h3 h4 e
  | cross a b c d e' => obtain ⟨h1, h2, h3, h4⟩ := shr_ht hf (.inr (.inl rfl)); exact line_ht h1 h2 h3 h4 e
  | foot a b c => obtain ⟨h1, h2, h3, h4⟩ := shr_ht hf (.inr (.inr (.inl rfl))); exact line_ht h1 h2 h3 h4 e
  | upright a b c d e' => obtain ⟨h1, h2, h3, h4⟩ := shr_ht hf (.inr (.inr (.inr (.inl rfl)))); exact line_ht h1 h2 h3 h4 e
  | again a b c => obtain ⟨h1, h2, h3, h4⟩ := shr_ht hf (.inr (.inr (.inr (.inr rfl)))); exact line_ht h1 h2 h3 h4 e
end Ad
set_option Elab.async false
set_option linter.all false
set_option maxRecDepth 100000
/-! Plans, typed; drawings in fractions. -/
namespace Ad
open PySem
def InAll (k : Nat) (pl : List Stp) : Prop := ∀ (i : Nat) (s : Stp), pl[i]? = some s → s.In (k + i)
theorem plan_of : ∀ {ss : List D} {k : Nat}, allSteps k ss = true → ∃ pl : List Stp, ss = pl.map Stp.enc ∧ InAll k pl
  | [], k, _ => ⟨[], rfl, fun i s h => by cases h⟩
  | d :: r, k, h => by
    simp only [allSteps, Bool.and_eq_true] at h
    obtain ⟨s, e1, e2⟩ := stp_of h.1
    obtain ⟨pl, e3, e4⟩ := plan_of (k := k + 1) (ss := r) (by have := h.2; simpa using this)
    refine ⟨s :: pl, by rw [e1, e3]; rfl, fun i t ht => ?_⟩
    cases i with
    | zero => cases ht; exact e2
    | succ i => have := e4 i t (by simpa using ht); rw [show k + (i + 1) = k + 1 + i by omega]; exact this
theorem w_free  : (Stp.free ).w = .free := rfl
theorem w_slide (a b : Nat) : (Stp.slide a b).w = .slide := rfl
theorem w_share (a b : Nat) (c d : Int) : (Stp.share a b c d).w = .share := rfl
theorem w_shift (a b c : Nat) : (Stp.shift a b c).w = .shift := rfl
theorem w_turn (a b : Nat) : (Stp.turn a b).w = .turn := rfl
theorem w_meet (a b c d : Nat) : (Stp.meet a b c d).w = .meet := rfl
theorem w_cross (a b c d e : Nat) : (Stp.cross a b c d e).w = .cross := rfl
theorem w_foot (a b c : Nat) : (Stp.foot a b c).w = .foot := rfl
theorem w_upright (a b c d e : Nat) : (Stp.upright a b c d e).w = .upright := rfl
theorem w_center (a b c : Nat) : (Stp.center a b c).w = .center := rfl
theorem w_again (a b c : Nat) : (Stp.again a b c).w = .again := rfl
theorem wordOf_enc (s : Stp) : wordOf s.enc = s.w.s := rfl
theorem cnt_enc (p : Str → Bool) (pl : List Stp) : cntW p (pl.map Stp.enc) = (pl.filter fun s => p s.w.s).length := by
  unfold cntW
  rw [List.filter_map, List.length_map]; rfl
def nfree (pl : List Stp) : Nat := (pl.filter fun s => decide (s.w = .free)).length
def nslide (pl : List Stp) : Nat := (pl.filter fun s => decide (s.w = .slide)).length
theorem cnt_wd (u : Wd) (pl : List Stp) : cntW (· == u.s) (pl.map Stp.enc) = (pl.filter fun s => decide (s.w = u)).length := by
  rw [cnt_enc]
  congr 1
  apply List.filter_congr
  intro s _
  exact wd_beq s.w u
/-! ### drawings -/
def zP : Pt := (0, 0)
def fnd (found : List Pt) (i : Nat) : Pt := found.getD i zP
def stepR (s : Stp) (left : List Int) (found : List Pt) : Option (List Int × Pt) := match s with
  | .free => (match left with
    | x :: y :: r => some (r, ((x : Rat), (y : Rat)))
    | _ => none)
  | .slide a b => (match left with
    | x :: r => (mkR (.slide a b) (fnd found) (x : Rat)).map fun p => (r, p)
    | _ => none)
  | s => (mkR s (fnd found) 0).map fun p => (left, p)
def runR : Nat → List Stp → List Int → List Pt → Sum Nat (List Pt)
  | _, [], _, found => .inr found
  | k, s :: r, left, found => match stepR s left found with
    | none => .inl k
    | some (l, p) => runR (k + 1) r l (found ++ [p])
/-- how many numbers are wanted -/
def wants : Wd → Nat
  | .free => 2
  | .slide => 1
  | _ => 0
def need : List Stp → Nat
  | [] => 0
  | s :: r => wants s.w + need r
theorem need_eq : ∀ pl : List Stp, need pl = 2 * nfree pl + nslide pl
  | [] => rfl
  | s :: r => by
    have ih := need_eq r
    unfold nfree nslide at *
    simp only [need, List.filter_cons]
    cases s <;> simp [w_free, w_slide, w_share, w_shift, w_turn, w_meet, w_cross, w_foot, w_upright, w_center, w_again, wants] <;> omega
/-- how great they are -/
def hgts (h : Nat) (pl : List Stp) : Nat := pl.foldl (fun h s => hgt s.w h) h
theorem hgt_le (w : Wd) (h : Nat) : h ≤ hgt w h := by cases w <;> simp only [hgt] <;> omega
theorem hgts_le : ∀ (pl : List Stp) (h : Nat), h ≤ hgts h pl
  | [], h => Nat.le_refl _
  | s :: r, h => Nat.le_trans (hgt_le s.w h) (hgts_le r _)
/-- kinds: easy, hard, center -/
def kin : Wd → Option (_root_.Fin 3)
  | .free => none
  | .slide => some 0 | .share => some 0 | .shift => some 0 | .turn => some 0
  | .center => some 2
  | _ => some 1
def hk (k : _root_.Fin 3) (h : Nat) : Nat := match k with
  | 0 => 4 * h + 6
  | 1 => 19 * h + 14
  | 2 => 29 * h + 21
def hks (h : Nat) (l : List (_root_.Fin 3)) : Nat := l.foldl (fun h k => hk k h) h
theorem hk_mono (k : _root_.Fin 3) {a b : Nat} (h : a ≤ b) : hk k a ≤ hk k b := by
  match k with
  | 0 => simp only [hk]; omega
  | 1 => simp only [hk]; omega
  | 2 => simp only [hk]; omega
theorem hks_mono : ∀ (l : List (_root_.Fin 3)) {a b : Nat}, a ≤ b → hks a l ≤ hks b l
  | [], _, _, h => h
  | k :: r, _, _, h => hks_mono r (hk_mono k h)
theorem hgts_hks : ∀ (pl : List Stp) {h h' : Nat}, h ≤ h' → hgts h pl ≤ hks h' (pl.filterMap fun s => kin s.w)
  | [], _, _, e => e
  | s :: r, h, h', e => by
    cases s <;> simp only [List.filterMap_cons, Stp.w, kin]
    all_goals first
      | exact hgts_hks r e
      | (refine hgts_hks r (h := hgt _ h) (h' := hk _ h') ?_; simp only [Stp.w, hgt, hk]; omega)
def all4 : Nat → List (List (_root_.Fin 3))
  | 0 => [[]]
  | n + 1 => [] :: (all4 n).flatMap fun l => [0 :: l, 1 :: l, 2 :: l]
theorem mem_all4 : ∀ (n : Nat) (l : List (_root_.Fin 3)), l.length ≤ n → l ∈ all4 n
  | 0, [], _ => by simp [all4]
  | 0, _ :: _, h => by simp at h
  | n + 1, [], _ => by simp [all4]
  | n + 1, k :: r, h => by
    have := mem_all4 n r (by simpa using h)
    simp only [all4, List.mem_cons, List.mem_flatMap]
    refine .inr ⟨r, this, ?_⟩
    match k with
    | 0 => simp
    | 1 => simp
    | 2 => simp
theorem hks_bound (l : List (_root_.Fin 3)) (h4 : l.length ≤ 4) (h3 : (l.filter (· ≠ 0)).length ≤ 3) (h1 : (l.filter (· = 2)).length ≤ 1) : hks 14 l ≤ 660000 := by
  have all : ((all4 4).all fun l => !(decide ((l.filter (· ≠ 0)).length ≤ 3) && decide ((l.filter (· = 2)).length ≤ 1)) || decide (hks 14 l ≤ 660000)) = true := by decide +kernel
  have := List.all_eq_true.mp all l (mem_all4 4 l h4)
  simp only [Bool.or_eq_true, Bool.not_eq_true', Bool.and_eq_false_iff, decide_eq_false_iff_not, decide_eq_true_eq] at this
  rcases this with (h | h) | h
  · exact absurd h3 h
  · exact absurd h1 h
  · exact h
/-- plans of four steps that are not free, three hard ones, one center -/
structure Mild (pl : List Stp) : Prop where
  n4 : (pl.filterMap fun s => kin s.w).length ≤ 4
  h3 : ((pl.filterMap fun s => kin s.w).filter (· ≠ 0)).length ≤ 3
  c1 : ((pl.filterMap fun s => kin s.w).filter (· = 2)).length ≤ 1
theorem Mild.bound {pl : List Stp} (m : Mild pl) {h : Nat} (hh : h ≤ 14) : hgts h pl ≤ 660000 := Nat.le_trans (hgts_hks pl hh) (hks_bound _ m.n4 m.h3 m.c1)
def isHard (w : Wd) : Bool := match w with
  | .meet => true | .cross => true | .foot => true | .upright => true | .center => true | .again => true
  | _ => false
theorem hard_wd (u : Wd) : hardL.contains u.s = isHard u := by
  have h : (wds.all fun u => hardL.contains u.s == isHard u) = true := by decide +kernel
  exact beq_iff_eq.mp (List.all_eq_true.mp h u (wds_all u))
theorem mild_of {pl : List Stp} (h3 : cntW (fun w => hardL.contains w) (pl.map Stp.enc) ≤ 3) (h1 : cntW (· == ("center" : Str)) (pl.map Stp.enc) ≤ 1) (h4 : (pl.map Stp.enc).length ≤ cntW (· == ("free" : Str)) (pl.map Stp.enc) + 4) : Mild pl := by
  rw [show ("center" : Str) = Wd.center.s from rfl, cnt_wd] at h1
  rw [show ("free" : Str) = Wd.free.s from rfl, cnt_wd, List.length_map] at h4
  rw [cnt_enc] at h3
  have e3 : (pl.filter fun s => hardL.contains s.w.s) = pl.filter fun s => isHard s.w := List.filter_congr fun s _ => hard_wd s.w
  rw [e3] at h3
  have key : ∀ pl : List Stp, (pl.filterMap fun s => kin s.w).length + (pl.filter fun s => decide (s.w = .free)).length = pl.length ∧ ((pl.filterMap fun s => kin s.w).filter (· ≠ 0)).length = (pl.filter fun s => isHard s.w).length ∧ ((pl.filterMap fun s => kin s.w).filter (· = 2)).length = (pl.filter fun s => decide (s.w = .center)).length := by
    intro pl
    induction pl with
    | nil => exact ⟨rfl, rfl, rfl⟩
    | cons s r ih =>
      obtain ⟨i1, i2, i3⟩ := ih
      simp only [List.filterMap_cons, List.filter_cons]
      cases s <;> simp [w_free, w_slide, w_share, w_shift, w_turn, w_meet, w_cross, w_foot, w_upright, w_center, w_again, kin, isHard] at i1 i2 i3 ⊢ <;> omega
  obtain ⟨k1, k2, k3⟩ := key pl
  exact ⟨by omega, by omega, by omega⟩
end Ad
set_option Elab.async false
set_option linter.all false
set_option maxRecDepth 100000
set_option maxHeartbeats 1000000
/-! Points in whole numbers, made greater. -/
namespace Ad
open PySem
abbrev IP := Int × Int
def iP (p : IP) : D := .tuple [.int p.1, .int p.2]
def wI (p q : IP) : IP := (q.1 - p.1, q.2 - p.2)
def crI (u v : IP) : Int := u.1 * v.2 - u.2 * v.1
def dtI (u v : IP) : Int := u.1 * v.1 + u.2 * v.2
def scR (S : Int) (p : IP) : Pt := ((p.1 : Rat) / (S : Rat), (p.2 : Rat) / (S : Rat))
theorem div_sub' (a b c : Rat) : a / c - b / c = (a - b) / c := by rw [Rat.div_def, Rat.div_def, Rat.div_def]; grind
theorem div_add' (a b c : Rat) : a / c + b / c = (a + b) / c := by rw [Rat.div_def, Rat.div_def, Rat.div_def, Rat.add_mul]
theorem way_sc (S : Int) (p q : IP) : wayR (scR S p) (scR S q) = scR S (wI p q) := by
  simp only [wayR, scR, wI, div_sub', Rat.intCast_sub]
theorem cr_sc {S : Int} (hS : S ≠ 0) (p q : IP) : crR (scR S p) (scR S q) = (crI p q : Rat) / ((S : Rat) * (S : Rat)) := by
  have h := ne_cast hS
  simp only [crR, scR, crI, Rat.intCast_sub, Rat.intCast_mul]
  grind
theorem dt_sc {S : Int} (hS : S ≠ 0) (p q : IP) : dtR (scR S p) (scR S q) = (dtI p q : Rat) / ((S : Rat) * (S : Rat)) := by
  have h := ne_cast hS
  simp only [dtR, scR, dtI, Rat.intCast_add, Rat.intCast_mul]
  grind
theorem line1 (xa xb T B S : Rat) (hS : S ≠ 0) (hB : B ≠ 0) : xa / S + (T / (S * S)) / (B / (S * S)) * (xb / S - xa / S) = (xa * B + T * (xb - xa)) / (S * B) := by grind
theorem line_sc {S T B : Int} (hS : S ≠ 0) (hB : B ≠ 0) (a b : IP) : onR (scR S a) (scR S b) (((T : Rat) / ((S : Rat) * (S : Rat))) / ((B : Rat) / ((S : Rat) * (S : Rat)))) = scR (S * B) (a.1 * B + T * (wI a b).1, a.2 * B + T * (wI a b).2) := by
  have h := ne_cast hS
  have h' := ne_cast hB
  simp only [onR, scR, wI, Rat.intCast_add, Rat.intCast_mul, Rat.intCast_sub]
  rw [line1 _ _ _ _ _ h h', line1 _ _ _ _ _ h h']
theorem on_sc {S : Int} (hS : S ≠ 0) (a b : IP) (t u : Int) (hu : u ≠ 0) : onR (scR S a) (scR S b) ((t : Rat) / (u : Rat)) = scR (S * u) (a.1 * u + t * (wI a b).1, a.2 * u + t * (wI a b).2) := by
  have h := ne_cast hS
  have h' := ne_cast hu
  simp only [onR, scR, wI, Rat.intCast_add, Rat.intCast_mul, Rat.intCast_sub]
  refine Prod.ext ?_ ?_ <;> (simp only; grind)
theorem frac0 {S B : Int} (hS : S ≠ 0) : (B : Rat) / ((S : Rat) * (S : Rat)) = 0 ↔ B = 0 := by
  have h := ne_cast hS
  constructor
  · intro e
    have : (B : Rat) = 0 := by grind
    exact Rat.intCast_inj.mp (this.trans (by rfl : (0 : Rat) = ((0 : Int) : Rat)))
  · rintro rfl
    show (0 : Rat) / _ = 0
    rw [Rat.div_def, Rat.zero_mul]
theorem cen1 (xa W C S : Rat) (hS : S ≠ 0) (hC : C ≠ 0) : xa / S + (W / (S * S * S)) / (2 * (C / (S * S))) = (xa * (2 * C) + W) / (S * (2 * C)) := by grind
theorem cen_sc {S : Int} (hS : S ≠ 0) (a b c : IP) (h0 : crI (wI a b) (wI a c) ≠ 0) : cenR (scR S a) (scR S b) (scR S c) = scR (S * (2 * crI (wI a b) (wI a c)))
    (a.1 * (2 * crI (wI a b) (wI a c)) + (dtI (wI a b) (wI a b) * (wI a c).2 - dtI (wI a c) (wI a c) * (wI a b).2), a.2 * (2 * crI (wI a b) (wI a c)) + (dtI (wI a c) (wI a c) * (wI a b).1 - dtI (wI a b) (wI a b) * (wI a c).1)) := by
  have h := ne_cast hS
  have h' := ne_cast h0
  unfold cenR
  rw [way_sc, way_sc, cr_sc hS, dt_sc hS, dt_sc hS]
  generalize wI a b = o at *
  generalize wI a c = u at *
  generalize dtI o o = F
  generalize dtI u u = M
  generalize crI o u = C at *
  simp only [scR, Rat.intCast_add, Rat.intCast_mul, Rat.intCast_sub]
  have key : ∀ (f m x y : Rat), f / ((S : Rat) * S) * (x / S) - m / ((S : Rat) * S) * (y / S) = (f * x - m * y) / ((S : Rat) * S * S) := fun f m x y => by grind
  rw [key, key, cen1 _ _ _ _ h h', cen1 _ _ _ _ h h']
  rfl
/-- the start, the way and what is below -/
def intS (s : Stp) (f : Nat → IP) (S x y : Int) : IP × IP × Int := match s with
  | .free => ((0, 0), (x * S, y * S), 1)
  | .slide a b => (f a, (x * (wI (f a) (f b)).1, x * (wI (f a) (f b)).2), 1)
  | .share a b t u => (f a, (t * (wI (f a) (f b)).1, t * (wI (f a) (f b)).2), u)
  | .shift a b c => (f a, wI (f b) (f c), 1)
  | .turn a b => (f a, (-(wI (f a) (f b)).2, (wI (f a) (f b)).1), 1)
  | .meet a b c d => (f a, (crI (wI (f a) (f c)) (wI (f c) (f d)) * (wI (f a) (f b)).1, crI (wI (f a) (f c)) (wI (f c) (f d)) * (wI (f a) (f b)).2), crI (wI (f a) (f b)) (wI (f c) (f d)))
  | .cross a b c d e => (f a, (crI (wI (f a) (f c)) (wI (f d) (f e)) * (wI (f a) (f b)).1, crI (wI (f a) (f c)) (wI (f d) (f e)) * (wI (f a) (f b)).2), crI (wI (f a) (f b)) (wI (f d) (f e)))
  | .foot a b c => (f b, (dtI (wI (f b) (f a)) (wI (f b) (f c)) * (wI (f b) (f c)).1, dtI (wI (f b) (f a)) (wI (f b) (f c)) * (wI (f b) (f c)).2), dtI (wI (f b) (f c)) (wI (f b) (f c)))
  | .upright a b c d e => (f a, (dtI (wI (f a) (f c)) (wI (f d) (f e)) * (wI (f a) (f b)).1, dtI (wI (f a) (f c)) (wI (f d) (f e)) * (wI (f a) (f b)).2), dtI (wI (f a) (f b)) (wI (f d) (f e)))
  | .again a b c => (f a, (2 * dtI (wI (f a) (f c)) (wI (f a) (f b)) * (wI (f a) (f b)).1, 2 * dtI (wI (f a) (f c)) (wI (f a) (f b)) * (wI (f a) (f b)).2), dtI (wI (f a) (f b)) (wI (f a) (f b)))
  | .center a b c => (f a, (dtI (wI (f a) (f b)) (wI (f a) (f b)) * (wI (f a) (f c)).2 - dtI (wI (f a) (f c)) (wI (f a) (f c)) * (wI (f a) (f b)).2, dtI (wI (f a) (f c)) (wI (f a) (f c)) * (wI (f a) (f b)).1 - dtI (wI (f a) (f b)) (wI (f a) (f b)) * (wI (f a) (f c)).1), 2 * crI (wI (f a) (f b)) (wI (f a) (f c)))
def newI (q : IP × IP × Int) : IP := (q.1.1 * q.2.2 + q.2.1.1, q.1.2 * q.2.2 + q.2.1.2)
/-- a step in whole numbers is that in fractions -/
def Fits (S : Int) (q : IP × IP × Int) (o : Option Pt) : Prop := (q.2.2 = 0 → o = none) ∧ (q.2.2 ≠ 0 → o = some (scR (S * q.2.2) (newI q)))
theorem fits_line {S T B : Int} (hS : S ≠ 0) (a b : IP) : Fits S (a, (T * (wI a b).1, T * (wI a b).2), B) (lineR ((T : Rat) / ((S : Rat) * (S : Rat)), (B : Rat) / ((S : Rat) * (S : Rat)), scR S a, scR S b)) := by
  constructor
  · intro h
    unfold lineR
    rw [if_pos ((frac0 hS).mpr h)]
  · intro h
    unfold lineR
    rw [if_neg (fun z => h ((frac0 hS).mp z)), line_sc hS h]
    rfl
theorem one_sc {S : Int} (p : IP) : scR (S * 1) p = scR S p := by rw [Int.mul_one]
theorem int_mk {S : Int} (hS : S ≠ 0) {s : Stp} {m : Nat} (hs : s.In m) (h0 : s ≠ .free) (f : Nat → IP) (x y : Int) (t : Rat) (ht : s.w = .slide → t = (x : Rat)) : Fits S (intS s f S x y) (mkR s (fun i => scR S (f i)) t) := by
  have h := ne_cast hS
  cases s with
  | free => exact absurd rfl h0
  | slide a b =>
    have ht := ht rfl
    subst ht
    refine ⟨fun z => absurd z (show (1 : Int) ≠ 0 by decide), fun _ => ?_⟩
    have e := on_sc hS (f a) (f b) x 1 (by decide)
    have e1 : ((x : Rat) / ((1 : Int) : Rat)) = (x : Rat) := by show (x : Rat) / 1 = _; grind
    rw [e1] at e
    simp only [mkR, e]; rfl
  | share a b t u =>
    have hu := (hs.mo a b t u rfl).2
    refine ⟨fun z => absurd z (by show u ≠ 0; omega), fun hz => ?_⟩
    simp only [mkR, on_sc hS (f a) (f b) t u hz]; rfl
  | shift a b c =>
    refine ⟨fun z => absurd z (show (1 : Int) ≠ 0 by decide), fun _ => ?_⟩
    simp only [mkR, way_sc]
    simp only [scR, div_add', intS, newI, Int.mul_one, Rat.intCast_add]
  | turn a b =>
    refine ⟨fun z => absurd z (show (1 : Int) ≠ 0 by decide), fun _ => ?_⟩
    simp only [mkR, way_sc]
    simp only [scR, div_add', div_sub', intS, newI, Int.mul_one, Rat.intCast_add, Rat.intCast_neg, ← Rat.sub_eq_add_neg]
  | center a b c =>
    constructor
    · intro z
      have z : 2 * crI (wI (f a) (f b)) (wI (f a) (f c)) = 0 := z
      simp only [mkR, way_sc, cr_sc hS]
      rw [if_pos ((frac0 hS).mpr (by omega))]
    · intro z
      have z : 2 * crI (wI (f a) (f b)) (wI (f a) (f c)) ≠ 0 := z
      have z0 : crI (wI (f a) (f b)) (wI (f a) (f c)) ≠ 0 := fun e => z (by rw [e]; rfl)
      simp only [mkR, way_sc, cr_sc hS]
      rw [if_neg (fun e => z0 ((frac0 hS).mp e)), cen_sc hS _ _ _ z0]
      rfl
  | meet a b c d =>
    simp only [mkR, shrR, way_sc, cr_sc hS]; exact fits_line hS _ _
  | cross a b c d e =>
    simp only [mkR, shrR, way_sc, cr_sc hS]; exact fits_line hS _ _
  | foot a b c =>
    simp only [mkR, shrR, way_sc, dt_sc hS]; exact fits_line hS _ _
  | upright a b c d e =>
    simp only [mkR, shrR, way_sc, dt_sc hS]; exact fits_line hS _ _
  | again a b c =>
    simp only [mkR, shrR, way_sc, dt_sc hS]
    have e : (2 : Rat) * ((dtI (wI (f a) (f c)) (wI (f a) (f b)) : Rat) / ((S : Rat) * (S : Rat))) = ((2 * dtI (wI (f a) (f c)) (wI (f a) (f b)) : Int) : Rat) / ((S : Rat) * (S : Rat)) := by
      rw [Rat.intCast_mul]; show _ = (2 : Rat) * _ / _; rw [Rat.div_def, Rat.div_def, Rat.mul_assoc]
    rw [e]
    exact fits_line hS _ _
theorem free_mk {S : Int} (hS : S ≠ 0) (f : Nat → IP) (x y : Int) : scR (S * (intS .free f S x y).2.2) (newI (intS .free f S x y)) = ((x : Rat), (y : Rat)) := by
  have h := ne_cast hS
  simp only [intS, newI, scR, Int.mul_one, Int.zero_add, Rat.intCast_mul]
  refine Prod.ext ?_ ?_ <;> (simp only; grind)
theorem sc_mul {S B : Int} (hS : S ≠ 0) (hB : B ≠ 0) (p : IP) : scR (S * B) (p.1 * B, p.2 * B) = scR S p := by
  have h := ne_cast hS
  have h' := ne_cast hB
  simp only [scR, Rat.intCast_mul]
  refine Prod.ext ?_ ?_ <;> (simp only; grind)
theorem sc_div {S g : Int} (hS : S ≠ 0) (hg : g ≠ 0) (p : IP) (d0 : g ∣ S) (d1 : g ∣ p.1) (d2 : g ∣ p.2) : scR (S.fdiv g) (p.1.fdiv g, p.2.fdiv g) = scR S p := by
  obtain ⟨a, e0⟩ := d0
  obtain ⟨b, e1⟩ := d1
  obtain ⟨c, e2⟩ := d2
  obtain ⟨p1, p2⟩ := p
  simp only at e1 e2
  subst e0 e1 e2
  rw [Int.mul_fdiv_cancel_left _ hg, Int.mul_fdiv_cancel_left _ hg, Int.mul_fdiv_cancel_left _ hg]
  have ha : a ≠ 0 := by rintro rfl; simp at hS
  have := sc_mul ha hg (b, c)
  simp only at this
  rw [← this, Int.mul_comm a, Int.mul_comm b, Int.mul_comm c]
end Ad
set_option Elab.async false
set_option linter.all false
set_option maxRecDepth 100000
set_option maxHeartbeats 1000000
/-! Whole points in the evaluator. -/
namespace Ad
open PySem
def fI (ps : List IP) (i : Nat) : IP := ps.getD i (0, 0)
theorem ip0 (p : IP) : idxD (iP p) (.int 0) = .ok (.int p.1) := rfl
theorem ip1 (p : IP) : idxD (iP p) (.int 1) = .ok (.int p.2) := rfl
theorem ip_mk (a b : Int) : PyData.tuple [.int a, .int b] = iP (a, b) := rfl
theorem noL_ip (p : IP) : noLst (iP p) = true := rfl
theorem noL_i (i : Int) : noLst (.int i) = true := rfl
theorem noL_t (xs : List D) : noLst (.tuple xs) = noLsts xs := by simp only [noLst]
theorem noLs_c (x : D) (xs : List D) : noLsts (x :: xs) = (noLst x && noLsts xs) := by simp only [noLsts]
theorem noLs_n : noLsts [] = true := by simp only [noLsts]
theorem at_ip {ps : List IP} {i : Nat} (h : i < ps.length) : at? (ps.map iP) (i : Int) = some (iP (fI ps i)) := n_at (by simp [fI, h, List.getD_eq_getElem?_getD])
structure BtP (m : Nat) (p : IP) : Prop where
  x : Bt m p.1
  y : Bt m p.2
theorem BtP.mono {a b : Nat} {p : IP} (h : BtP a p) (hab : a ≤ b) : BtP b p := ⟨h.x.mono hab, h.y.mono hab⟩
theorem BtP.way {m : Nat} {p q : IP} (hp : BtP m p) (hq : BtP m q) : BtP (m + 1) (wI p q) := ⟨(hq.x.sub hp.x).mono (by omega), (hq.y.sub hp.y).mono (by omega)⟩
theorem BtP.cr {m k : Nat} {p q : IP} (hp : BtP m p) (hq : BtP k q) : Bt (m + k + 1) (crI p q) := ((hp.x.mul hq.y).sub (hp.y.mul hq.x)).mono (by omega)
theorem BtP.dt {m k : Nat} {p q : IP} (hp : BtP m p) (hq : BtP k q) : Bt (m + k + 1) (dtI p q) := ((hp.x.mul hq.x).add (hp.y.mul hq.y)).mono (by omega)
def partI (s : Stp) (f : Nat → IP) : Nat × IP × Int × Int := match s with
  | .share a b t u => (a, wI (f a) (f b), t, u)
  | .foot a b c => (b, wI (f b) (f c), dtI (wI (f b) (f a)) (wI (f b) (f c)), dtI (wI (f b) (f c)) (wI (f b) (f c)))
  | .again a b c => (a, wI (f a) (f b), 2 * dtI (wI (f a) (f c)) (wI (f a) (f b)), dtI (wI (f a) (f b)) (wI (f a) (f b)))
  | .meet a b c d => (a, wI (f a) (f b), crI (wI (f a) (f c)) (wI (f c) (f d)), crI (wI (f a) (f b)) (wI (f c) (f d)))
  | .cross a b c d e => (a, wI (f a) (f b), crI (wI (f a) (f c)) (wI (f d) (f e)), crI (wI (f a) (f b)) (wI (f d) (f e)))
  | .upright a b c d e => (a, wI (f a) (f b), dtI (wI (f a) (f c)) (wI (f d) (f e)), dtI (wI (f a) (f b)) (wI (f d) (f e)))
  | _ => (0, (0, 0), 0, 0)
def isPart : Stp → Bool
  | .share .. => true | .foot .. => true | .again .. => true | .meet .. => true | .cross .. => true | .upright .. => true
  | _ => false
theorem int_part {s : Stp} (h : isPart s = true) (f : Nat → IP) (S x y : Int) : intS s f S x y = (f (partI s f).1, ((partI s f).2.2.1 * (partI s f).2.1.1, (partI s f).2.2.1 * (partI s f).2.1.2), (partI s f).2.2.2) := by
  cases s <;> first | rfl | cases h
theorem bt_two : Bt 2 2 := by unfold Bt; decide
theorem part_bt {s : Stp} {m j : Nat} (h : isPart s = true) (hs : s.In j) {f : Nat → IP} (hf : ∀ i ∈ s.nm, BtP m (f i)) : BtP (m + 1) (partI s f).2.1 ∧ Bt (2 * m + 5) (partI s f).2.2.1 ∧ Bt (2 * m + 5) (partI s f).2.2.2 ∧ (partI s f).1 ∈ s.nm := by
  cases s with
  | share a b t u =>
    simp only [Stp.nm, List.mem_cons, List.not_mem_nil, or_false, forall_eq_or_imp, forall_eq] at hf
    obtain ⟨h1, h2⟩ := hs.mo a b t u rfl
    exact ⟨hf.1.way hf.2, Bt.mono (a := 4) (by show t.natAbs < 2 ^ 4; omega) (by omega), Bt.mono (a := 4) (by show u.natAbs < 2 ^ 4; omega) (by omega), by simp [Stp.nm, partI]⟩
  | foot a b c =>
    simp only [Stp.nm, List.mem_cons, List.not_mem_nil, or_false, forall_eq_or_imp, forall_eq] at hf
    obtain ⟨h1, h2, h3⟩ := hf
    exact ⟨h2.way h3, ((h2.way h1).dt (h2.way h3)).mono (by omega), ((h2.way h3).dt (h2.way h3)).mono (by omega), by simp [Stp.nm, partI]⟩
  | again a b c =>
    simp only [Stp.nm, List.mem_cons, List.not_mem_nil, or_false, forall_eq_or_imp, forall_eq] at hf
    obtain ⟨h1, h2, h3⟩ := hf
    exact ⟨h1.way h2, (bt_two.mul ((h1.way h3).dt (h1.way h2))).mono (by omega), ((h1.way h2).dt (h1.way h2)).mono (by omega), by simp [Stp.nm, partI]⟩
  | meet a b c d =>
    simp only [Stp.nm, List.mem_cons, List.not_mem_nil, or_false, forall_eq_or_imp, forall_eq] at hf
    obtain ⟨h1, h2, h3, h4⟩ := hf
    exact ⟨h1.way h2, ((h1.way h3).cr (h3.way h4)).mono (by omega), ((h1.way h2).cr (h3.way h4)).mono (by omega), by simp [Stp.nm, partI]⟩
  | cross a b c d e =>
    simp only [Stp.nm, List.mem_cons, List.not_mem_nil, or_false, forall_eq_or_imp, forall_eq] at hf
    obtain ⟨h1, h2, h3, h4, h5⟩ := hf
    exact ⟨h1.way h2, ((h1.way h3).cr (h4.way h5)).mono (by omega), ((h1.way h2).cr (h4.way h5)).mono (by omega), by simp [Stp.nm, partI]⟩
  | upright a b c d e =>
    simp only [Stp.nm, List.mem_cons, List.not_mem_nil, or_false, forall_eq_or_imp, forall_eq] at hf
    obtain ⟨h1, h2, h3, h4, h5⟩ := hf
    exact ⟨h1.way h2, ((h1.way h3).dt (h4.way h5)).mono (by omega), ((h1.way h2).dt (h4.way h5)).mono (by omega), by simp [Stp.nm, partI]⟩
  | _ => cases h
/-- how great whole points may be -/
def hgI (w : Wd) (m : Nat) : Nat := match w with
  | .free => m + 15
  | _ => 4 * m + 8
def hgsI (m : Nat) (pl : List Stp) : Nat := pl.foldl (fun m s => hgI s.w m) m
theorem hgI_le (w : Wd) (m : Nat) : m ≤ hgI w m := by cases w <;> simp only [hgI] <;> omega
theorem hgsI_le : ∀ (pl : List Stp) (m : Nat), m ≤ hgsI m pl
  | [], m => Nat.le_refl _
  | s :: r, m => Nat.le_trans (hgI_le s.w m) (hgsI_le r _)
theorem hgsI_bound : ∀ (pl : List Stp) (m : Nat), hgsI m pl + 8 ≤ (m + 8 + 15 * nfree pl) * 4 ^ (pl.filterMap fun s => kin s.w).length
  | [], m => by simp [hgsI, nfree]
  | s :: r, m => by
    have ih := hgsI_bound r (hgI s.w m)
    show hgsI (hgI s.w m) r + 8 ≤ _
    refine Nat.le_trans ih ?_
    cases hk : kin s.w with
    | none =>
      have hw : s.w = .free := by cases s <;> first | rfl | cases hk
      have e : nfree (s :: r) = nfree r + 1 := by unfold nfree; simp [List.filter_cons, hw]
      simp only [List.filterMap_cons, hk]
      refine Nat.mul_le_mul_right _ ?_
      rw [e, hw]; simp only [hgI]; omega
    | some k =>
      have hw : s.w ≠ .free := by intro z; rw [z] at hk; cases hk
      have e : nfree (s :: r) = nfree r := by unfold nfree; simp [List.filter_cons, hw]
      have e2 : hgI s.w m = 4 * m + 8 := by cases s <;> first | rfl | exact absurd rfl hw
      simp only [List.filterMap_cons, hk, List.length_cons]
      rw [e, e2, Nat.pow_succ, Nat.mul_comm (4 ^ _) 4, ← Nat.mul_assoc]
      refine Nat.mul_le_mul_right _ ?_
      omega
theorem Mild.boundI {pl : List Stp} (m : Mild pl) (h4 : nfree pl ≤ 4) {h : Nat} (hh : h ≤ 14) : hgsI h pl ≤ 30000 := by
  have h1 := hgsI_bound pl h
  have h2 : 4 ^ (pl.filterMap fun s => kin s.w).length ≤ 4 ^ 4 := Nat.pow_le_pow_right (by decide) m.n4
  have h3 : (h + 8 + 15 * nfree pl) * 4 ^ (pl.filterMap fun s => kin s.w).length ≤ 82 * 4 ^ 4 := Nat.mul_le_mul (by omega) h2
  omega
theorem int_bt {s : Stp} {m j : Nat} (hs : s.In j) {f : Nat → IP} (hf : ∀ i ∈ s.nm, BtP m (f i)) {S x y : Int} (hS : Bt m S) {b : Nat} (hx : Bt b x) (hy : Bt b y) (hb : b ≤ m) (h15 : b ≤ 14) (h1 : 1 ≤ m) :
    BtP m (intS s f S x y).1 ∧ BtP (hgI s.w m - 1) (intS s f S x y).2.1 ∧ Bt (3 * m + 7) (intS s f S x y).2.2 ∧ Bt (hgI s.w m - m - 1) (intS s f S x y).2.2 := by
  have one : ∀ k, 1 ≤ k → Bt k 1 := fun k hk => Bt.mono (a := 1) (by unfold Bt; decide) hk
  have zero : ∀ k, Bt k 0 := fun k => Bt.mono (a := 0) (by unfold Bt; decide) (Nat.zero_le k)
  have prt : isPart s = true → BtP m (intS s f S x y).1 ∧ BtP (hgI s.w m - 1) (intS s f S x y).2.1 ∧ Bt (3 * m + 7) (intS s f S x y).2.2 ∧ Bt (hgI s.w m - m - 1) (intS s f S x y).2.2 := fun hp => by
    rw [int_part hp]
    obtain ⟨p1, p2, p3, p4⟩ := part_bt hp hs hf
    have e : hgI s.w m = 4 * m + 8 := by cases s <;> first | rfl | cases hp
    rw [e]
    exact ⟨hf _ p4, ⟨(p2.mul p1.x).mono (by omega), (p2.mul p1.y).mono (by omega)⟩, p3.mono (by omega), p3.mono (by omega)⟩
  cases s with
  | free => exact ⟨⟨zero _, zero _⟩, ⟨(hx.mul hS).mono (by simp only [hgI, Stp.w]; omega), (hy.mul hS).mono (by simp only [hgI, Stp.w]; omega)⟩, one _ (by omega), one _ (by simp only [hgI, Stp.w]; omega)⟩
  | slide a c =>
    simp only [Stp.nm, List.mem_cons, List.not_mem_nil, or_false, forall_eq_or_imp, forall_eq] at hf
    have w := hf.1.way hf.2
    exact ⟨hf.1, ⟨(hx.mul w.x).mono (by simp only [hgI, Stp.w]; omega), (hx.mul w.y).mono (by simp only [hgI, Stp.w]; omega)⟩, one _ (by omega), one _ (by simp only [hgI, Stp.w]; omega)⟩
  | shift a b c =>
    simp only [Stp.nm, List.mem_cons, List.not_mem_nil, or_false, forall_eq_or_imp, forall_eq] at hf
    obtain ⟨h1, h2, h3⟩ := hf
    exact ⟨h1, (h2.way h3).mono (by simp only [hgI, Stp.w]; omega), one _ (by omega), one _ (by simp only [hgI, Stp.w]; omega)⟩
  | turn a b =>
    simp only [Stp.nm, List.mem_cons, List.not_mem_nil, or_false, forall_eq_or_imp, forall_eq] at hf
    have w := hf.1.way hf.2
    exact ⟨hf.1, ⟨w.y.neg.mono (by simp only [hgI, Stp.w]; omega), w.x.mono (by simp only [hgI, Stp.w]; omega)⟩, one _ (by omega), one _ (by simp only [hgI, Stp.w]; omega)⟩
  | center a b c =>
    simp only [Stp.nm, List.mem_cons, List.not_mem_nil, or_false, forall_eq_or_imp, forall_eq] at hf
    obtain ⟨h1, h2, h3⟩ := hf
    have o := h1.way h2
    have u := h1.way h3
    exact ⟨h1, ⟨(((o.dt o).mul u.y).sub ((u.dt u).mul o.y)).mono (by simp only [hgI, Stp.w]; omega), (((u.dt u).mul o.x).sub ((o.dt o).mul u.x)).mono (by simp only [hgI, Stp.w]; omega)⟩, (bt_two.mul (o.cr u)).mono (by omega), (bt_two.mul (o.cr u)).mono (by simp only [hgI, Stp.w]; omega)⟩
  | share a b t u => exact prt rfl
  | foot a b c => exact prt rfl
  | again a b c => exact prt rfl
  | meet a b c d => exact prt rfl
  | cross a b c d e => exact prt rfl
  | upright a b c d e => exact prt rfl
end Ad
set_option Elab.async false
set_option linter.all false
set_option maxRecDepth 100000
set_option maxHeartbeats 1000000
/-! A step in whole numbers, and in fractions. -/
namespace Ad
open PySem
theorem sc_zero (S : Int) : scR S (0, 0) = zP := by
  simp only [scR, zP]
  refine Prod.ext ?_ ?_ <;> (show (0 : Rat) / _ = 0; rw [Rat.div_def, Rat.zero_mul])
theorem fnd_sc (S : Int) (ps : List IP) : fnd (ps.map (scR S)) = fun i => scR S (fI ps i) := by
  funext i
  unfold fnd fI
  rw [List.getD_eq_getElem?_getD, List.getD_eq_getElem?_getD, List.getElem?_map]
  cases ps[i]? with
  | none => exact (sc_zero S).symm
  | some p => rfl
theorem drop_get {ns : List Int} {k : Nat} (h : k < ns.length) : ns.drop k = ns.getD k 0 :: ns.drop (k + 1) := by
  rw [List.drop_eq_getElem_cons h]
  simp [List.getD_eq_getElem?_getD, h]
theorem step_rel {s : Stp} {ps : List IP} {S : Int} (hS : S ≠ 0) {ns : List Int} {spot j : Nat} (hs : s.In j) (hsp : spot + wants s.w ≤ ns.length) :
    ((intS s (fI ps) S (ns.getD spot 0) (ns.getD (spot + 1) 0)).2.2 = 0 → stepR s (ns.drop spot) (ps.map (scR S)) = none) ∧
    ((intS s (fI ps) S (ns.getD spot 0) (ns.getD (spot + 1) 0)).2.2 ≠ 0 → stepR s (ns.drop spot) (ps.map (scR S)) = some (ns.drop (spot + wants s.w), scR (S * (intS s (fI ps) S (ns.getD spot 0) (ns.getD (spot + 1) 0)).2.2) (newI (intS s (fI ps) S (ns.getD spot 0) (ns.getD (spot + 1) 0))))) := by
  cases hw : s.w with
  | free =>
    have es : s = .free := by cases s <;> first | rfl | cases hw
    subst es
    have hsp : spot + 2 ≤ ns.length := hsp
    refine ⟨fun z => absurd z (show (1 : Int) ≠ 0 by decide), fun _ => ?_⟩
    rw [drop_get (show spot < ns.length by omega), drop_get (show spot + 1 < ns.length by omega), free_mk hS]
    rfl
  | slide =>
    obtain ⟨a, c, rfl⟩ : ∃ a c, s = .slide a c := by cases s <;> first | exact ⟨_, _, rfl⟩ | cases hw
    have hsp : spot + 1 ≤ ns.length := hsp
    have h := int_mk hS hs (by intro z; cases z) (fI ps) (ns.getD spot 0) (ns.getD (spot + 1) 0) (ns.getD spot 0 : Rat) fun _ => rfl
    refine ⟨fun z => absurd z (show (1 : Int) ≠ 0 by decide), fun z => ?_⟩
    have e := h.2 z
    rw [drop_get (show spot < ns.length by omega)]
    show (mkR (.slide a c) (fnd (ps.map (scR S))) (ns.getD spot 0 : Rat)).map _ = _
    rw [fnd_sc, e]
    rfl
  | _ =>
    all_goals (
      have hst : stepR s (ns.drop spot) (ps.map (scR S)) = (mkR s (fnd (ps.map (scR S))) 0).map fun p => (ns.drop spot, p) := by cases s <;> first | rfl | cases hw
      have h := int_mk hS hs (by rintro rfl; cases hw) (fI ps) (ns.getD spot 0) (ns.getD (spot + 1) 0) 0 fun z => by rw [hw] at z; cases z
      rw [hst, fnd_sc]
      exact ⟨fun z => by rw [h.1 z]; rfl, fun z => by rw [h.2 z]; rfl⟩)
theorem runR_len : ∀ (pl : List Stp) (k : Nat) (left : List Int) (found q : List Pt), runR k pl left found = .inr q → q.length = found.length + pl.length
  | [], _, _, found, q, h => by cases h; rfl
  | s :: r, k, left, found, q, h => by
    rw [runR] at h
    cases e : stepR s left found with
    | none => rw [e] at h; cases h
    | some o =>
      obtain ⟨l, p⟩ := o
      rw [e] at h
      have := runR_len r (k + 1) l (found ++ [p]) q h
      rw [List.length_append, List.length_singleton] at this
      rw [List.length_cons]; omega
/-- the points that are found, at the end or where a step can't be done -/
def endR : List Stp → List Int → List Pt → List Pt
  | [], _, found => found
  | s :: r, left, found => match stepR s left found with
    | none => found
    | some (l, p) => endR r l (found ++ [p])
theorem end_run : ∀ (pl : List Stp) (k : Nat) (left : List Int) (found q : List Pt), runR k pl left found = .inr q → endR pl left found = q
  | [], _, _, found, q, h => by cases h; rfl
  | s :: r, k, left, found, q, h => by
    rw [runR] at h
    rw [endR]
    cases e : stepR s left found with
    | none => rw [e] at h; cases h
    | some o =>
      obtain ⟨l, p⟩ := o
      rw [e] at h
      exact end_run r (k + 1) l (found ++ [p]) q h
/-- what must not be nought -/
def condR (s : Stp) (f : Nat → Pt) : Rat := match s with
  | .center a b c => crR (wayR (f a) (f b)) (wayR (f a) (f c))
  | s => (shrR s f).2.1
theorem mk_cond {s : Stp} (h : isHard s.w = true) (f : Nat → Pt) (t : Rat) : mkR s f t = none ↔ condR s f = 0 := by
  cases s with
  | center a b c =>
    simp only [mkR, condR]
    split
    · rename_i h0; exact ⟨fun _ => h0, fun _ => rfl⟩
    · rename_i h0; exact ⟨(fun z => nomatch z), fun z => absurd z h0⟩
  | meet a b c d => simp only [mkR, condR, lineR]; split; (rename_i h0; exact ⟨fun _ => h0, fun _ => rfl⟩); (rename_i h0; exact ⟨(fun z => nomatch z), fun z => absurd z h0⟩)
  | cross a b c d e => simp only [mkR, condR, lineR]; split; (rename_i h0; exact ⟨fun _ => h0, fun _ => rfl⟩); (rename_i h0; exact ⟨(fun z => nomatch z), fun z => absurd z h0⟩)
  | foot a b c => simp only [mkR, condR, lineR]; split; (rename_i h0; exact ⟨fun _ => h0, fun _ => rfl⟩); (rename_i h0; exact ⟨(fun z => nomatch z), fun z => absurd z h0⟩)
  | upright a b c d e => simp only [mkR, condR, lineR]; split; (rename_i h0; exact ⟨fun _ => h0, fun _ => rfl⟩); (rename_i h0; exact ⟨(fun z => nomatch z), fun z => absurd z h0⟩)
  | again a b c => simp only [mkR, condR, lineR]; split; (rename_i h0; exact ⟨fun _ => h0, fun _ => rfl⟩); (rename_i h0; exact ⟨(fun z => nomatch z), fun z => absurd z h0⟩)
  | _ => cases h
theorem cond_congr {s : Stp} {f g : Nat → Pt} (h : ∀ i ∈ s.nm, f i = g i) (hh : isHard s.w = true) : condR s f = condR s g := by
  cases s with
  | center a b c => simp only [Stp.nm, List.mem_cons, List.not_mem_nil, or_false, forall_eq_or_imp, forall_eq] at h; simp only [condR, h]
  | meet a b c d => simp only [Stp.nm, List.mem_cons, List.not_mem_nil, or_false, forall_eq_or_imp, forall_eq] at h; simp only [condR, shrR, h]
  | cross a b c d e => simp only [Stp.nm, List.mem_cons, List.not_mem_nil, or_false, forall_eq_or_imp, forall_eq] at h; simp only [condR, shrR, h]
  | foot a b c => simp only [Stp.nm, List.mem_cons, List.not_mem_nil, or_false, forall_eq_or_imp, forall_eq] at h; simp only [condR, shrR, h]
  | upright a b c d e => simp only [Stp.nm, List.mem_cons, List.not_mem_nil, or_false, forall_eq_or_imp, forall_eq] at h; simp only [condR, shrR, h]
  | again a b c => simp only [Stp.nm, List.mem_cons, List.not_mem_nil, or_false, forall_eq_or_imp, forall_eq] at h; simp only [condR, shrR, h]
  | _ => cases hh
theorem fnd_app {found : List Pt} {p : Pt} {i : Nat} (h : i < found.length) : fnd (found ++ [p]) i = fnd found i := by
  unfold fnd
  rw [List.getD_eq_getElem?_getD, List.getD_eq_getElem?_getD, List.getElem?_append_left h]
/-- all hard steps so far could be done -/
def GoodF (pl : List Stp) (found : List Pt) : Prop := ∀ k s, k < found.length → pl[k]? = some s → isHard s.w = true → condR s (fnd found) ≠ 0
/-- a step but a hard one can be done, with numbers enough -/
theorem step_easy {s : Stp} {left : List Int} {found : List Pt} (h : isHard s.w = false) (hn : wants s.w ≤ left.length) : ∃ l p, stepR s left found = some (l, p) ∧ left.length = wants s.w + l.length := by
  cases s with
  | free =>
    match left, hn with
    | x :: y :: l, _ => exact ⟨l, _, rfl, by simp [Stp.w, wants]; omega⟩
  | slide a b =>
    match left, hn with
    | x :: l, _ => exact ⟨l, _, rfl, by simp [Stp.w, wants]; omega⟩
  | share a b t u => exact ⟨left, _, rfl, by simp [Stp.w, wants]⟩
  | shift a b c => exact ⟨left, _, rfl, by simp [Stp.w, wants]⟩
  | turn a b => exact ⟨left, _, rfl, by simp [Stp.w, wants]⟩
  | _ => cases h
theorem step_hard {s : Stp} {left : List Int} {found : List Pt} (h : isHard s.w = true) : stepR s left found = (mkR s (fnd found) 0).map fun p => (left, p) := by
  cases s <;> first | rfl | cases h
theorem run_good {pl : List Stp} (hin : InAll 0 pl) : ∀ (r : List Stp) (left : List Int) (found : List Pt), pl.drop found.length = r → GoodF pl found → need r ≤ left.length →
    GoodF pl (endR r left found) ∧ (∀ j, runR found.length r left found = .inl j → (endR r left found).length = j ∧ ∃ s, pl[j]? = some s ∧ isHard s.w = true ∧ condR s (fnd (endR r left found)) = 0)
  | [], left, found, hr, hg, hn => ⟨hg, fun j z => by cases z⟩
  | s :: r, left, found, hr, hg, hn => by
    have hgs : pl[found.length]? = some s := by
      have := congrArg (fun l => l[0]?) hr
      simpa using this
    have hs : s.In found.length := by have := hin _ _ hgs; rwa [Nat.zero_add] at this
    rw [need] at hn
    have more : ∀ l p, stepR s left found = some (l, p) → left.length = wants s.w + l.length → (isHard s.w = true → condR s (fnd found) ≠ 0) → GoodF pl (endR (s :: r) left found) ∧ (∀ j, runR found.length (s :: r) left found = .inl j → (endR (s :: r) left found).length = j ∧ ∃ s', pl[j]? = some s' ∧ isHard s'.w = true ∧ condR s' (fnd (endR (s :: r) left found)) = 0) := fun l p e hl hc => by
      have hg2 : GoodF pl (found ++ [p]) := fun k t hk ht hh => by
        rw [List.length_append, List.length_singleton] at hk
        have hi : t.In k := by have := hin _ _ ht; rwa [Nat.zero_add] at this
        by_cases hk2 : k < found.length
        · rw [cond_congr (fun i hi' => fnd_app (by have := hi.nm i hi'; omega)) hh]
          exact hg k t hk2 ht hh
        · have ek : k = found.length := by omega
          subst ek
          rw [hgs] at ht
          cases ht
          rw [cond_congr (fun i hi' => fnd_app (hs.nm i hi')) hh]
          exact hc hh
      have ih := run_good hin r l (found ++ [p]) (by rw [List.length_append, List.length_singleton, ← List.drop_drop, hr]; rfl) hg2 (by omega)
      rw [List.length_append, List.length_singleton] at ih
      rw [endR, runR, e]
      exact ih
    cases hh : isHard s.w with
    | false =>
      obtain ⟨l, p, e, hl⟩ := step_easy (found := found) hh (show wants s.w ≤ left.length by omega)
      exact more l p e hl (fun z => by rw [hh] at z; cases z)
    | true =>
      have hst := step_hard (left := left) (found := found) hh
      cases eo : mkR s (fnd found) 0 with
      | none =>
        rw [eo] at hst
        rw [endR, runR, hst]
        exact ⟨hg, fun j z => by cases z; exact ⟨rfl, s, hgs, hh, (mk_cond hh _ _).mp eo⟩⟩
      | some p =>
        rw [eo] at hst
        have hw0 : wants s.w = 0 := by cases s <;> first | rfl | cases hh
        exact more left p hst (by omega) (fun _ z => by rw [(mk_cond hh _ 0).mpr z] at eo; cases eo)
end Ad
set_option Elab.async false
set_option linter.all false
set_option maxRecDepth 100000
set_option maxHeartbeats 1000000
/-! Conditions. -/
namespace Ad
open PySem
def condD (s : Stp) : D := match s with
  | .meet a b c d => .tuple [.str "cross", iN a, iN b, iN c, iN d]
  | .cross a b c d e => .tuple [.str "cross", iN a, iN b, iN d, iN e]
  | .foot a b c => .tuple [.str "far", iN b, iN c]
  | .upright a b c d e => .tuple [.str "dots", iN a, iN b, iN d, iN e]
  | .center a b c => .tuple [.str "area", iN a, iN b, iN c]
  | .again a b c => .tuple [.str "far", iN a, iN b]
  | _ => .none
/-- the hard steps, with their numbers -/
def hps : Nat → List Stp → List (Nat × Stp)
  | _, [] => []
  | k, s :: r => if isHard s.w then (k, s) :: hps (k + 1) r else hps (k + 1) r
theorem hps_mem : ∀ (r : List Stp) (k : Nat) (q : Nat × Stp), q ∈ hps k r → isHard q.2.w = true ∧ k ≤ q.1 ∧ r[q.1 - k]? = some q.2
  | [], _, _, h => by cases h
  | s :: r, k, q, h => by
    have ih := hps_mem r (k + 1) q
    unfold hps at h
    split at h
    · rename_i hh
      rcases List.mem_cons.mp h with rfl | h
      · exact ⟨hh, Nat.le_refl _, by simp⟩
      · obtain ⟨a, b, c⟩ := ih h
        refine ⟨a, by omega, ?_⟩
        rw [show q.1 - k = (q.1 - (k + 1)) + 1 by omega, List.getElem?_cons_succ]; exact c
    · obtain ⟨a, b, c⟩ := ih h
      refine ⟨a, by omega, ?_⟩
      rw [show q.1 - k = (q.1 - (k + 1)) + 1 by omega, List.getElem?_cons_succ]; exact c
theorem mem_hps : ∀ (r : List Stp) (k j : Nat) (s : Stp), r[j]? = some s → isHard s.w = true → (k + j, s) ∈ hps k r
  | [], _, _, _, h, _ => by simp at h
  | t :: r, k, 0, s, h, hh => by
    simp at h
    subst h
    unfold hps
    rw [if_pos hh]; exact List.mem_cons_self
  | t :: r, k, j + 1, s, h, hh => by
    have ih := mem_hps r (k + 1) j s (by simpa using h) hh
    rw [show k + 1 + j = k + (j + 1) by omega] at ih
    unfold hps
    split
    · exact List.mem_cons_of_mem _ ih
    · exact ih
theorem hps_up : ∀ (r : List Stp) (k : Nat), (hps k r).Pairwise fun a b => a.1 < b.1
  | [], _ => List.Pairwise.nil
  | s :: r, k => by
    unfold hps
    split
    · exact List.pairwise_cons.mpr ⟨fun q hq => by have := (hps_mem r (k + 1) q hq).2.1; show k < q.1; omega, hps_up r (k + 1)⟩
    · exact hps_up r (k + 1)
theorem hps_len : ∀ (r : List Stp) (k : Nat), (hps k r).length ≤ r.length
  | [], _ => Nat.le_refl _
  | s :: r, k => by
    have := hps_len r (k + 1)
    unfold hps
    split <;> simp <;> omega
theorem hps_rng (pl : List Stp) : ∀ (r : List Stp) (k : Nat), pl.drop k = r → (rngL (k : Int) 1 r.length).filter (fun d => match d with
    | .int i => isHard (pl.getD i.toNat .free).w
    | _ => false) = (hps k r).map fun q => iN q.1
  | [], k, _ => rfl
  | s :: r, k, h => by
    have hg : pl[k]? = some s := by
      have := congrArg (fun l => l[0]?) h
      simpa using this
    have ih := hps_rng pl r (k + 1) (by rw [← List.drop_drop, h]; rfl)
    rw [List.length_cons, rngL, List.filter_cons]
    have e : (pl.getD (k : Int).toNat .free) = s := by rw [Int.toNat_natCast, List.getD_eq_getElem?_getD, hg]; rfl
    simp only [e]
    have ek : ((k + 1 : Nat) : Int) = (k : Int) + 1 := by omega
    rw [ek] at ih
    rw [ih, show hps k (s :: r) = if isHard s.w then (k, s) :: hps (k + 1) r else hps (k + 1) r from rfl]
    cases isHard s.w <;> rfl
/-- what a condition is worth at whole points -/
def worthI (s : Stp) (f : Nat → IP) : Int := match s with
  | .meet a b c d => crI (wI (f a) (f b)) (wI (f c) (f d))
  | .cross a b c d e => crI (wI (f a) (f b)) (wI (f d) (f e))
  | .foot a b c => dtI (wI (f b) (f c)) (wI (f b) (f c))
  | .upright a b c d e => dtI (wI (f a) (f b)) (wI (f d) (f e))
  | .center a b c => crI (wI (f a) (f b)) (wI (f a) (f c))
  | .again a b c => dtI (wI (f a) (f b)) (wI (f a) (f b))
  | _ => 0
theorem cond_worth {S : Int} (hS : S ≠ 0) {s : Stp} (h : isHard s.w = true) (f : Nat → IP) : condR s (fun i => scR S (f i)) = 0 ↔ worthI s f = 0 := by
  cases s with
  | meet a b c d => simp only [condR, shrR, worthI, way_sc, cr_sc hS]; exact frac0 hS
  | cross a b c d e => simp only [condR, shrR, worthI, way_sc, cr_sc hS]; exact frac0 hS
  | foot a b c => simp only [condR, shrR, worthI, way_sc, dt_sc hS]; exact frac0 hS
  | upright a b c d e => simp only [condR, shrR, worthI, way_sc, dt_sc hS]; exact frac0 hS
  | center a b c => simp only [condR, shrR, worthI, way_sc, cr_sc hS]; exact frac0 hS
  | again a b c => simp only [condR, shrR, worthI, way_sc, dt_sc hS]; exact frac0 hS
  | _ => cases h
theorem sm_condD (s : Stp) : Sm 1 (condD s) := by
  have hs : ∀ u : Str, eqOk (.str u) = true → Sm 0 (.str u) := fun u h => by
    simp only [eqOk, Bool.and_eq_true] at h
    exact ⟨h.1, Nat.zero_le _⟩
  have h1 := hs "cross" (by decide +kernel)
  have h2 := hs "far" (by decide +kernel)
  have h3 := hs "dots" (by decide +kernel)
  have h4 := hs "area" (by decide +kernel)
  have hn : ∀ k, Sm 0 (iN k) := fun k => Sm.int 0 _
  cases s <;> simp only [condD]
  all_goals first
    | exact ⟨rfl, Nat.zero_le _⟩
    | (refine Sm.tup fun x hx => ?_
       simp only [List.mem_cons, List.not_mem_nil, or_false] at hx
       rcases hx with rfl | rfl | rfl | rfl | rfl <;> first | assumption | exact hn _)
    | (refine Sm.tup fun x hx => ?_
       simp only [List.mem_cons, List.not_mem_nil, or_false] at hx
       rcases hx with rfl | rfl | rfl | rfl <;> first | assumption | exact hn _)
    | (refine Sm.tup fun x hx => ?_
       simp only [List.mem_cons, List.not_mem_nil, or_false] at hx
       rcases hx with rfl | rfl | rfl <;> first | assumption | exact hn _)
end Ad
set_option Elab.async false
set_option linter.all false
set_option maxRecDepth 100000
set_option maxHeartbeats 1000000
/-! Claims, by their kinds. -/
namespace Ad
open PySem
inductive Wc where
  | line | parallel | right | same | middle | long | areas | share | round | one | angle
  deriving DecidableEq
def Wc.s : Wc → Str
  | .line => "line" | .parallel => "parallel" | .right => "right" | .same => "same" | .middle => "middle" | .long => "long" | .areas => "areas" | .share => "share" | .round => "round" | .one => "one" | .angle => "angle"
def Wc.k : Wc → Nat
  | .line => 3 | .parallel => 4 | .right => 4 | .same => 2 | .middle => 3 | .long => 4 | .areas => 6 | .share => 4 | .round => 4 | .one => 6 | .angle => 8
def wcs : List Wc := [.line, .parallel, .right, .same, .middle, .long, .areas, .share, .round, .one, .angle]
theorem wcs_all (w : Wc) : w ∈ wcs := by cases w <;> decide
theorem wc_eqv (u v : Wc) : (PyData.eqv (.str u.s) (.str v.s)) = decide (u = v) := by
  have h : (wcs.all fun u => wcs.all fun v => PyData.eqv (.str u.s) (.str v.s) == decide (u = v)) = true := by decide +kernel
  exact beq_iff_eq.mp (List.all_eq_true.mp (List.all_eq_true.mp h u (wcs_all u)) v (wcs_all v))
theorem wc_ok (u : Wc) : eqOk (.str u.s) = true := by
  have h : (wcs.all fun u => eqOk (.str u.s)) = true := by decide +kernel
  exact List.all_eq_true.mp h u (wcs_all u)
theorem wc_eq (u v : Wc) : cmpD .Eq (.str u.s) (.str v.s) = .ok (decide (u = v)) := by rw [n_eq _ _ (wc_ok u) (wc_ok v), wc_eqv]
theorem wc_cls (u : Wc) : clsW u.s = some u.k := by cases u <;> decide +kernel
theorem wc_beq (u v : Wc) : (u.s == v.s) = decide (u = v) := wc_eqv u v
theorem cS0 : (Str.ofString "line") = Wc.line.s := rfl
theorem cS1 : (Str.ofString "parallel") = Wc.parallel.s := rfl
theorem cS2 : (Str.ofString "right") = Wc.right.s := rfl
theorem cS3 : (Str.ofString "same") = Wc.same.s := rfl
theorem cS4 : (Str.ofString "middle") = Wc.middle.s := rfl
theorem cS5 : (Str.ofString "long") = Wc.long.s := rfl
theorem cS6 : (Str.ofString "areas") = Wc.areas.s := rfl
theorem cS7 : (Str.ofString "share") = Wc.share.s := rfl
theorem cS8 : (Str.ofString "round") = Wc.round.s := rfl
theorem cS9 : (Str.ofString "one") = Wc.one.s := rfl
theorem cSa : (Str.ofString "angle") = Wc.angle.s := rfl
inductive Clm where
  | line (a b c : Nat)
  | parallel (a b c d : Nat)
  | right (a b c d : Nat)
  | same (a b : Nat)
  | middle (a b c : Nat)
  | long (a b c d : Nat)
  | areas (a b c d e f : Nat)
  | share (a b c d : Nat) (t u : Int)
  | round (a b c d : Nat)
  | one (a b c d e f : Nat)
  | angle (a b c d e f g h : Nat)
def Clm.w : Clm → Wc
  | .line .. => .line | .parallel .. => .parallel | .right .. => .right | .same .. => .same | .middle .. => .middle | .long .. => .long | .areas .. => .areas | .share .. => .share | .round .. => .round | .one .. => .one | .angle .. => .angle
def Clm.nm : Clm → List Nat
  | .line a b c => [a, b, c] | .parallel a b c d => [a, b, c, d] | .right a b c d => [a, b, c, d] | .same a b => [a, b] | .middle a b c => [a, b, c] | .long a b c d => [a, b, c, d] | .areas a b c d e f => [a, b, c, d, e, f]
  | .share a b c d _ _ => [a, b, c, d] | .round a b c d => [a, b, c, d] | .one a b c d e f => [a, b, c, d, e, f] | .angle a b c d e f g h => [a, b, c, d, e, f, g, h]
def Clm.more : Clm → List Int
  | .share _ _ _ _ t u => [t, u]
  | _ => []
def Clm.enc (c : Clm) : D := .tuple (.str c.w.s :: (c.nm.map iN ++ c.more.map .int))
structure Clm.In (c : Clm) (k : Nat) : Prop where
  nm : ∀ i ∈ c.nm, i < k
  mo : ∀ a b d e t u, c = .share a b d e t u → (-9 ≤ t ∧ t ≤ 9) ∧ 1 ≤ u ∧ u ≤ 9
theorem clm_nm (c : Clm) : c.nm.length = c.w.k := by cases c <;> rfl
theorem clm_sm (c : Clm) : Sm 1 c.enc := Sm.tup fun x hx => by
  rcases List.mem_cons.mp hx with rfl | hx
  · have := wc_ok c.w
    simp only [eqOk, Bool.and_eq_true] at this
    exact ⟨this.1, Nat.zero_le _⟩
  · rcases List.mem_append.mp hx with hx | hx
    · obtain ⟨i, _, rfl⟩ := List.mem_map.mp hx; exact Sm.int 0 _
    · obtain ⟨i, _, rfl⟩ := List.mem_map.mp hx; exact Sm.int 0 _
theorem clm_is {c : Clm} {k : Nat} (h : c.In k) : isClaim k c.enc = true := by
  have hsh : isShare c.w.s = decide (c.w = .share) := wc_beq c.w .share
  have hall : ((c.nm.map iN ++ c.more.map PyData.int).take c.w.k).all (fun x => isW x 0 ((k : Int) - 1)) = true := by
    rw [← clm_nm c, ← List.length_map (f := iN), List.take_left, List.all_eq_true]
    intro x hx
    obtain ⟨i, hi, rfl⟩ := List.mem_map.mp hx
    have := h.nm i hi
    simp only [iN, isW, Bool.and_eq_true, decide_eq_true_eq]
    omega
  unfold Clm.enc isClaim
  simp only [wc_cls, hsh]
  cases c with
  | share a b d e t u =>
    obtain ⟨h1, h2⟩ := h.mo a b d e t u rfl
    have g1 : isW (.int t) (-9) 9 = true := by simp only [isW, Bool.and_eq_true, decide_eq_true_eq]; exact h1
    have g2 : isW (.int u) 1 9 = true := by simp only [isW, Bool.and_eq_true, decide_eq_true_eq]; exact h2
    simp only [Clm.w, Clm.nm, Clm.more] at hall ⊢
    simp [Wc.k] at hall
    simp [hall, g1, g2, Wc.k]
  | _ =>
    all_goals (
      simp only [Clm.w, Clm.nm, Clm.more] at hall ⊢
      simp [Wc.k] at hall
      simp [hall, Wc.k])
/-! ### what must be nought -/
def sidesR (c : Clm) (f : Nat → Pt) : List Rat := match c with
  | .line a b c => [crR (wayR (f a) (f b)) (wayR (f a) (f c))]
  | .parallel a b c d => [crR (wayR (f a) (f b)) (wayR (f c) (f d))]
  | .right a b c d => [dtR (wayR (f a) (f b)) (wayR (f c) (f d))]
  | .same a b => [(wayR (f a) (f b)).1, (wayR (f a) (f b)).2]
  | .middle a b c => [(wayR (f a) (f c)).1 - (wayR (f c) (f b)).1, (wayR (f a) (f c)).2 - (wayR (f c) (f b)).2]
  | .long a b c d => [dtR (wayR (f a) (f b)) (wayR (f a) (f b)) - dtR (wayR (f c) (f d)) (wayR (f c) (f d))]
  | .areas a b c d e g => [crR (wayR (f a) (f b)) (wayR (f a) (f c)) - crR (wayR (f d) (f e)) (wayR (f d) (f g))]
  | .share a b c d t u => [(u : Rat) * (wayR (f a) (f b)).1 - (t : Rat) * (wayR (f c) (f d)).1, (u : Rat) * (wayR (f a) (f b)).2 - (t : Rat) * (wayR (f c) (f d)).2]
  | .round a b c d => [dtR (wayR (f d) (f a)) (wayR (f d) (f a)) * crR (wayR (f d) (f b)) (wayR (f d) (f c)) + dtR (wayR (f d) (f b)) (wayR (f d) (f b)) * crR (wayR (f d) (f c)) (wayR (f d) (f a)) + dtR (wayR (f d) (f c)) (wayR (f d) (f c)) * crR (wayR (f d) (f a)) (wayR (f d) (f b))]
  | .one a b c d e g => [crR (f a) (f b) * crR (wayR (f c) (f d)) (wayR (f e) (f g)) + crR (f c) (f d) * crR (wayR (f e) (f g)) (wayR (f a) (f b)) + crR (f e) (f g) * crR (wayR (f a) (f b)) (wayR (f c) (f d))]
  | .angle a b c d e g h i => [crR (wayR (f a) (f b)) (wayR (f c) (f d)) * dtR (wayR (f e) (f g)) (wayR (f h) (f i)) - crR (wayR (f e) (f g)) (wayR (f h) (f i)) * dtR (wayR (f a) (f b)) (wayR (f c) (f d))]
def holdsR (c : Clm) (f : Nat → Pt) : Bool := (sidesR c f).all fun x => decide (x = 0)
def sidesI (c : Clm) (f : Nat → IP) : List Int := match c with
  | .line a b c => [crI (wI (f a) (f b)) (wI (f a) (f c))]
  | .parallel a b c d => [crI (wI (f a) (f b)) (wI (f c) (f d))]
  | .right a b c d => [dtI (wI (f a) (f b)) (wI (f c) (f d))]
  | .same a b => [(wI (f a) (f b)).1, (wI (f a) (f b)).2]
  | .middle a b c => [(wI (f a) (f c)).1 - (wI (f c) (f b)).1, (wI (f a) (f c)).2 - (wI (f c) (f b)).2]
  | .long a b c d => [dtI (wI (f a) (f b)) (wI (f a) (f b)) - dtI (wI (f c) (f d)) (wI (f c) (f d))]
  | .areas a b c d e g => [crI (wI (f a) (f b)) (wI (f a) (f c)) - crI (wI (f d) (f e)) (wI (f d) (f g))]
  | .share a b c d t u => [u * (wI (f a) (f b)).1 - t * (wI (f c) (f d)).1, u * (wI (f a) (f b)).2 - t * (wI (f c) (f d)).2]
  | .round a b c d => [dtI (wI (f d) (f a)) (wI (f d) (f a)) * crI (wI (f d) (f b)) (wI (f d) (f c)) + dtI (wI (f d) (f b)) (wI (f d) (f b)) * crI (wI (f d) (f c)) (wI (f d) (f a)) + dtI (wI (f d) (f c)) (wI (f d) (f c)) * crI (wI (f d) (f a)) (wI (f d) (f b))]
  | .one a b c d e g => [crI (f a) (f b) * crI (wI (f c) (f d)) (wI (f e) (f g)) + crI (f c) (f d) * crI (wI (f e) (f g)) (wI (f a) (f b)) + crI (f e) (f g) * crI (wI (f a) (f b)) (wI (f c) (f d))]
  | .angle a b c d e g h i => [crI (wI (f a) (f b)) (wI (f c) (f d)) * dtI (wI (f e) (f g)) (wI (f h) (f i)) - crI (wI (f e) (f g)) (wI (f h) (f i)) * dtI (wI (f a) (f b)) (wI (f c) (f d))]
theorem div0 {S x y : Rat} (hS : S ≠ 0) (e : y = x / S) : y = 0 ↔ x = 0 := by
  subst e
  constructor
  · intro h; grind
  · rintro rfl; rw [Rat.div_def, Rat.zero_mul]
theorem cast0 {x : Int} : (x : Rat) = 0 ↔ x = 0 := ⟨fun h => Rat.intCast_inj.mp (h.trans (by rfl : (0 : Rat) = ((0 : Int) : Rat))), fun h => by rw [h]; rfl⟩
theorem holds_RI {S : Int} (hS : S ≠ 0) (c : Clm) (f : Nat → IP) : holdsR c (fun i => scR S (f i)) = (sidesI c f).all fun x => decide (x = 0) := by
  have h := ne_cast hS
  have hSS : (S : Rat) * (S : Rat) ≠ 0 := by grind
  have key : ∀ (T : Rat) (y : Rat) (x : Int), T ≠ 0 → y = (x : Rat) / T → decide (y = 0) = decide (x = 0) := fun T y x hT e => by
    rw [decide_eq_decide]
    exact (div0 hT e).trans cast0
  unfold holdsR
  cases c with
  | line a b c =>
    simp only [sidesR, sidesI, List.all_cons, List.all_nil, Bool.and_true, way_sc, cr_sc hS]
    exact key _ _ _ hSS rfl
  | parallel a b c d =>
    simp only [sidesR, sidesI, List.all_cons, List.all_nil, Bool.and_true, way_sc, cr_sc hS]
    exact key _ _ _ hSS rfl
  | right a b c d =>
    simp only [sidesR, sidesI, List.all_cons, List.all_nil, Bool.and_true, way_sc, dt_sc hS]
    exact key _ _ _ hSS rfl
  | same a b =>
    simp only [sidesR, sidesI, List.all_cons, List.all_nil, Bool.and_true, way_sc]
    rw [key _ (scR S (wI (f a) (f b))).1 _ h rfl, key _ (scR S (wI (f a) (f b))).2 _ h rfl]
  | middle a b c =>
    simp only [sidesR, sidesI, List.all_cons, List.all_nil, Bool.and_true, way_sc]
    rw [key (S : Rat) _ ((wI (f a) (f c)).1 - (wI (f c) (f b)).1) h (by simp only [scR, Rat.intCast_sub, div_sub']), key (S : Rat) _ ((wI (f a) (f c)).2 - (wI (f c) (f b)).2) h (by simp only [scR, Rat.intCast_sub, div_sub'])]
  | long a b c d =>
    simp only [sidesR, sidesI, List.all_cons, List.all_nil, Bool.and_true, way_sc, dt_sc hS]
    exact key _ _ _ hSS (by simp only [Rat.intCast_sub, div_sub'])
  | areas a b c d e g =>
    simp only [sidesR, sidesI, List.all_cons, List.all_nil, Bool.and_true, way_sc, cr_sc hS]
    exact key _ _ _ hSS (by simp only [Rat.intCast_sub, div_sub'])
  | share a b c d t u =>
    simp only [sidesR, sidesI, List.all_cons, List.all_nil, Bool.and_true, way_sc]
    rw [key (S : Rat) _ (u * (wI (f a) (f b)).1 - t * (wI (f c) (f d)).1) h (by simp only [scR, Rat.intCast_sub, Rat.intCast_mul]; grind), key (S : Rat) _ (u * (wI (f a) (f b)).2 - t * (wI (f c) (f d)).2) h (by simp only [scR, Rat.intCast_sub, Rat.intCast_mul]; grind)]
  | round a b c d =>
    simp only [sidesR, sidesI, List.all_cons, List.all_nil, Bool.and_true, way_sc, cr_sc hS, dt_sc hS]
    refine key ((S : Rat) * S * ((S : Rat) * S)) _ _ (by grind) ?_
    simp only [Rat.intCast_add, Rat.intCast_mul]
    generalize (S : Rat) * (S : Rat) = T at *
    grind
  | one a b c d e g =>
    simp only [sidesR, sidesI, List.all_cons, List.all_nil, Bool.and_true, way_sc, cr_sc hS]
    refine key ((S : Rat) * S * ((S : Rat) * S)) _ _ (by grind) ?_
    simp only [Rat.intCast_add, Rat.intCast_mul]
    generalize (S : Rat) * (S : Rat) = T at *
    grind
  | angle a b c d e g i j =>
    simp only [sidesR, sidesI, List.all_cons, List.all_nil, Bool.and_true, way_sc, cr_sc hS, dt_sc hS]
    refine key ((S : Rat) * S * ((S : Rat) * S)) _ _ (by grind) ?_
    simp only [Rat.intCast_sub, Rat.intCast_mul]
    generalize (S : Rat) * (S : Rat) = T at *
    grind
end Ad
set_option Elab.async false
set_option linter.all false
set_option maxRecDepth 100000
/-! Comprehensions over lists that are written out. -/
namespace Ad
open PySem
section
variable (cl : Cl0)
def lcSome : R D → R (Option D)
  | .ok x => .ok (some x)
  | .ex c fs => .ex c fs
  | .bad => .bad
def lcIf (ρ : List Sl) (elt : E) : R Bool → R (Option D)
  | .ok true => lcSome (ev cl ρ .v elt)
  | .ok false => .ok none
  | .ex c fs => .ex c fs
  | .bad => .bad
def lcOne (elt : E) (ifs : List E) : Option (List Sl) → R (Option D)
  | some ρ => lcIf cl ρ elt (evFs cl ρ ifs)
  | none => .bad
def lcT : R (Option D) → R (List D) → R (List D)
  | .ok (some y), .ok ys => .ok (y :: ys)
  | .ok none, .ok ys => .ok ys
  | .ok _, .ex c fs => .ex c fs
  | _, _ => .bad
def lcL (ρ : List Sl) (elt : E) (t : T) (ifs : List E) : List D → R (List D)
  | [] => .ok []
  | d :: r => lcT (lcOne cl elt ifs (bindT ρ t d)) (lcL ρ elt t ifs r)
def lcN (n : Nat) (m : Md) : R (List D) → R D
  | .ok xs => if fits n then m.fin (.list xs) else .bad
  | .ex c fs => .ex c fs
  | .bad => .bad
def lcE (ρ : List Sl) (m : Md) (elt : E) (t : T) (ifs : List E) : R (List D) → R D
  | .ok ds => lcN ds.length m (lcL cl ρ elt t ifs ds)
  | .ex c fs => .ex c fs
  | .bad => .bad
theorem filt_lcL (ρ : List Sl) (elt : E) (t : T) (ifs : List E) : ∀ ds : List D, filtD (fun d => match bindT ρ t d with
      | some ρ' => (evFs cl ρ' ifs).bind fun b => if b then (ev cl ρ' .v elt).bind fun x => .ok (some x) else .ok none
      | none => .bad) ds = lcL cl ρ elt t ifs ds
  | [] => rfl
  | d :: r => by
    have ih := filt_lcL ρ elt t ifs r
    rw [filtD, lcL]
    cases bindT ρ t d with
    | none => simp only [lcOne, lcT]
    | some ρ' =>
      simp only [lcOne]
      cases evFs cl ρ' ifs with
      | ok b =>
        cases b with
        | true =>
          simp only [lcIf, n_ok, if_true]
          cases ev cl ρ' .v elt with
          | ok x =>
            simp only [lcSome, n_ok]
            rw [ih]
            cases lcL cl ρ elt t ifs r <;> rfl
          | ex c fs => simp only [lcSome, n_ex, lcT]
          | bad => simp only [lcSome, n_bad, lcT]
        | false =>
          simp only [lcIf, n_ok, Bool.false_eq_true, if_false]
          rw [ih]
          cases lcL cl ρ elt t ifs r <;> rfl
      | ex c fs => simp only [lcIf, n_ex, lcT]
      | bad => simp only [lcIf, n_bad, lcT]
theorem x_lc (ρ : List Sl) (m : Md) (elt : E) (t : T) (it : I) (ifs : List E) (own : List Nat) : ev cl ρ m (.lc elt t it ifs own) = lcE cl (wipeS (lend ρ) own) m elt t ifs (evI cl ρ .r it) := by
  rw [ev]
  cases evI cl ρ .r it with
  | ok ds =>
    rw [n_ok]
    have := filt_lcL cl (wipeS (lend ρ) own) elt t ifs ds
    refine (congrArg (fun z : R (List D) => z.bind fun xs => if fits ds.length then m.fin (.list xs) else .bad) this).trans ?_
    simp only [lcE, lcN]
    cases lcL cl (wipeS (lend ρ) own) elt t ifs ds <;> rfl
  | ex c fs => rfl
  | bad => rfl
theorem lcE_ok (ρ : List Sl) (m : Md) (elt : E) (t : T) (ifs : List E) (ds : List D) : lcE cl ρ m elt t ifs (.ok ds) = lcN ds.length m (lcL cl ρ elt t ifs ds) := rfl
theorem lcL_nil (ρ : List Sl) (elt : E) (t : T) (ifs : List E) : lcL cl ρ elt t ifs [] = .ok [] := rfl
theorem lcL_cons (ρ : List Sl) (elt : E) (t : T) (ifs : List E) (d : D) (r : List D) : lcL cl ρ elt t ifs (d :: r) = lcT (lcOne cl elt ifs (bindT ρ t d)) (lcL cl ρ elt t ifs r) := rfl
theorem lcOne_s (elt : E) (ifs : List E) (ρ : List Sl) : lcOne cl elt ifs (some ρ) = lcIf cl ρ elt (evFs cl ρ ifs) := rfl
theorem lcIf_1 (ρ : List Sl) (elt : E) : lcIf cl ρ elt (.ok true) = lcSome (ev cl ρ .v elt) := rfl
theorem lcIf_0 (ρ : List Sl) (elt : E) : lcIf cl ρ elt (.ok false) = .ok none := rfl
theorem lcIf_b (ρ : List Sl) (elt : E) (b : Bool) : lcIf cl ρ elt (.ok b) = if b then lcSome (ev cl ρ .v elt) else .ok none := by cases b <;> rfl
end
theorem lcSome_ok (x : D) : lcSome (.ok x) = .ok (some x) := rfl
theorem lcT_s (y : D) (ys : List D) : lcT (.ok (some y)) (.ok ys) = .ok (y :: ys) := rfl
theorem lcT_n (ys : List D) : lcT (.ok none) (.ok ys) = .ok ys := rfl
theorem lcN_ok (n : Nat) (m : Md) (xs : List D) : lcN n m (.ok xs) = if fits n then m.fin (.list xs) else .bad := rfl
theorem fits_2 : fits 2 = true := by decide
theorem fits_3 : fits 3 = true := by decide
theorem fits_4 : fits 4 = true := by decide
theorem fits_5 : fits 5 = true := by decide
theorem fits_6 : fits 6 = true := by decide
theorem fits_8 : fits 8 = true := by decide
theorem at_fp {q : List Pt} {i : Nat} (h : i < q.length) : at? (q.map fp) (i : Int) = some (fp (fnd q i)) := n_at (by simp [fnd, h, List.getD_eq_getElem?_getD])
end Ad
set_option linter.all false
set_option maxRecDepth 100000
/-! The law's functions. -/
namespace Ad.Lk31
open PySem
def c_CLAIMS : D := .dict [(.str "line", .int 3), (.str "parallel", .int 4), (.str "right", .int 4), (.str "same", .int 2), (.str "middle", .int 3), (.str "long", .int 4), (.str "areas", .int 6), (.str "share", .int 4), (.str "round", .int 4), (.str "one", .int 6), (.str "angle", .int 8)]
def c_FIGURES : D := .str "0123456789"
def c_HARD : D := .tuple [.str "meet", .str "cross", .str "foot", .str "upright", .str "center", .str "again"]
def c_MOST_FREE : D := .int 4
def c_MOST_HARD : D := .int 3
def c_MOST_LETTERS : D := .int 12
def c_MOST_NUMBER : D := .int 1000000
def c_MOST_SLIDES : D := .int 1
def c_MOST_STEPS : D := .int 10
def c_MOST_TEXT : D := .int 1000
def c_POINTS : D := .dict [(.str "free", .int 0), (.str "slide", .int 2), (.str "share", .int 2), (.str "shift", .int 3), (.str "turn", .int 2), (.str "meet", .int 4), (.str "cross", .int 5), (.str "foot", .int 3), (.str "upright", .int 5), (.str "center", .int 3), (.str "again", .int 3)]
def c_ROWS : D := .dict [(.str "bisects", .tuple [.str "free; free; free; share 0 1 1 2; share 0 2 1 2", .str "share 3 4 1 2 1 2"]), (.str "center", .tuple [.str "free; free; free; center 0 1 2", .str "long 3 0 3 2"]), (.str "euler", .tuple [.str "free; free; free; center 0 1 2; foot 0 1 2; upright 0 4 1 0 2; share 1 2 1 2", .str "share 0 5 3 6 2 1"]), (.str "foot", .tuple [.str "free; free; free; foot 0 1 2", .str "right 0 3 1 2"]), (.str "four", .tuple [.str "free; free; free; free; share 0 1 1 2; share 1 2 1 2; share 2 3 1 2; share 3 0 1 2", .str "share 4 5 7 6 1 1"]), (.str "heights", .tuple [.str "free; free; free; foot 0 1 2; foot 1 2 0; foot 2 0 1", .str "one 0 3 1 4 2 5"]), (.str "medians", .tuple [.str "free; free; free; share 1 2 1 2; share 2 0 1 2; share 0 1 1 2", .str "one 0 3 1 4 2 5"]), (.str "nine", .tuple [.str "free; free; free; share 1 2 1 2; share 2 0 1 2; share 0 1 1 2; foot 0 1 2", .str "round 3 4 5 6"]), (.str "squares", .tuple [.str "free; free; free; turn 0 1; turn 0 2", .str "areas 0 1 4 0 2 3"]), (.str "third", .tuple [.str "free; free; free; share 1 2 1 2; share 2 0 1 2; share 0 1 1 2; meet 0 3 1 4", .str "share 0 6 0 3 2 3"])]
def c_SMALL : D := .str "abcdefghijklmnopqrstuvwxyz"
abbrev f_is_within : Nat := 0
abbrev f_points_of : Nat := 1
abbrev f_is_step : Nat := 2
abbrev f_count : Nat := 3
abbrev f_is_plan : Nat := 4
abbrev f_look : Nat := 5
abbrev f_look_point : Nat := 6
abbrev f_many_numbers : Nat := 7
abbrev f_needed : Nat := 8
abbrev f_depends_on : Nat := 9
abbrev f_look_numbers : Nat := 10
abbrev f_drawn : Nat := 11
abbrev f_whole : Nat := 12
abbrev f_single : Nat := 13
abbrev f_added : Nat := 14
abbrev f_scaled : Nat := 15
abbrev f_lessened : Nat := 16
abbrev f_multiplied : Nat := 17
abbrev f_area : Nat := 18
abbrev f_far_sum : Nat := 19
abbrev f_is_claim : Nat := 20
abbrev f_look_claim : Nat := 21
abbrev f_squares_of : Nat := 22
abbrev f_sum_of : Nat := 23
abbrev f_over_of : Nat := 24
abbrev f_product : Nat := 25
abbrev f_way_to : Nat := 26
abbrev f_crossed : Nat := 27
abbrev f_part_way : Nat := 28
abbrev f_place_of : Nat := 29
abbrev f_free_place : Nat := 30
abbrev f_sign_at : Nat := 31
abbrev f_below_of : Nat := 32
abbrev f_sum_at : Nat := 33
abbrev f_places_of : Nat := 34
abbrev f_is_so : Nat := 35
abbrev f_judged : Nat := 36
abbrev f_counter : Nat := 37
abbrev f_with_row : Nat := 38
abbrev f_number_of : Nat := 39
abbrev f_thing_of : Nat := 40
abbrev f_read : Nat := 41
abbrev f_known : Nat := 42
abbrev f_paper : Nat := 43
abbrev g_cell : Nat := 44
abbrev g_refused_by : Nat := 45
abbrev f_law : Nat := 46
def i_f_is_within : Fn := {
  name := "is_within", ps := ["thing", "low", "high"], kwd := [],
  N := ["thing", "low", "high"],
  body := [
    .ret (.bop .And [.isi (.var 0) .int, .not (.isi (.var 0) .bool), .chn .LtE .LtE (.var 1) (.var 0) (.var 2)])] }
def i_f_points_of : Fn := {
  name := "points_of", ps := ["step"], kwd := [],
  N := ["step"],
  body := [
    .ret (.pr .list [.slc (.var 0) (some (.lit (.int 1))) (some (.bin .Add (.lit (.int 1)) (.idx (.gl "POINTS" c_POINTS) (.idx (.var 0) (.lit (.int 0))))))])] }
def i_f_is_step : Fn := {
  name := "is_step", ps := ["thing", "many"], kwd := [],
  N := ["thing", "many", "size", "one"],
  body := [
    .ifs (.bop .Or [.not (.isi (.var 0) .tuple), .not (.var 0), .not (.isi (.idx (.var 0) (.lit (.int 0))) .str), .cmp .NotIn (.idx (.var 0) (.lit (.int 0))) (.gl "POINTS" c_POINTS)]) [
      .ret (.lit (.bool false))] [],
    .asg (.nm 2) (.bin .Add (.bin .Add (.lit (.int 1)) (.idx (.gl "POINTS" c_POINTS) (.idx (.var 0) (.lit (.int 0))))) (.ite (.cmp .Eq (.idx (.var 0) (.lit (.int 0))) (.lit (.str "share"))) (.lit (.int 2)) (.lit (.int 0)))),
    .ifs (.bop .Or [.cmp .NotEq (.pr .len [.var 0]) (.var 2), .lc (.var 3) (.nm 3) (.seq (.call f_points_of [.var 0] [])) [.not (.call f_is_within [.var 3, .lit (.int 0), .bin .Sub (.var 1) (.lit (.int 1))] [])] [3]]) [
      .ret (.lit (.bool false))] [],
    .ret (.bop .Or [.cmp .NotEq (.idx (.var 0) (.lit (.int 0))) (.lit (.str "share")), .bop .And [.call f_is_within [.idx (.var 0) (.lit (.int 3)), .neg (.lit (.int 9)), .lit (.int 9)] [], .call f_is_within [.idx (.var 0) (.lit (.int 4)), .lit (.int 1), .lit (.int 9)] []]])] }
def i_f_count : Fn := {
  name := "count", ps := ["plan", "words"], kwd := [],
  N := ["plan", "words", "step"],
  body := [
    .ret (.pr .len [.lc (.var 2) (.nm 2) (.seq (.var 0)) [.cmp .In (.idx (.var 2) (.lit (.int 0))) (.var 1)] [2]])] }
def i_f_is_plan : Fn := {
  name := "is_plan", ps := ["thing"], kwd := [],
  N := ["thing", "number", "step"],
  body := [
    .ifs (.bop .Or [.not (.isi (.var 0) .tuple), .not (.chn .LtE .LtE (.lit (.int 1)) (.pr .len [.var 0]) (.gl "MOST_STEPS" c_MOST_STEPS))]) [
      .ret (.lit (.bool false))] [],
    .ifs (.lc (.lit (.int 1)) (.tp [.nm 1, .nm 2]) (.enum (.var 0)) [.not (.call f_is_step [.var 2, .var 1] [])] [1, 2]) [
      .ret (.lit (.bool false))] [],
    .ifs (.bop .Or [.cmp .Gt (.call f_count [.var 0, .tup [.lit (.str "free")]] []) (.gl "MOST_FREE" c_MOST_FREE), .cmp .Gt (.call f_count [.var 0, .tup [.lit (.str "slide")]] []) (.gl "MOST_SLIDES" c_MOST_SLIDES)]) [
      .ret (.lit (.bool false))] [],
    .ret (.cmp .LtE (.call f_count [.var 0, .gl "HARD" c_HARD] []) (.gl "MOST_HARD" c_MOST_HARD))] }
def i_f_look : Fn := {
  name := "look", ps := ["plan"], kwd := [],
  N := ["plan"],
  body := [
    .ifs (.not (.call f_is_plan [.var 0] [])) [
      .raise "BadPlan" [] []] []] }
def i_f_look_point : Fn := {
  name := "look_point", ps := ["plan", "point"], kwd := [],
  N := ["plan", "point"],
  body := [
    .ifs (.not (.call f_is_within [.var 1, .lit (.int 0), .bin .Sub (.pr .len [.var 0]) (.lit (.int 1))] [])) [
      .raise "BadPoint" ["point"] [.var 1]] []] }
def i_f_many_numbers : Fn := {
  name := "many_numbers", ps := ["plan"], kwd := [],
  N := ["plan"],
  body := [
    .ret (.bin .Add (.bin .Mult (.lit (.int 2)) (.call f_count [.var 0, .tup [.lit (.str "free")]] [])) (.call f_count [.var 0, .tup [.lit (.str "slide")]] []))] }
def i_f_needed : Fn := {
  name := "needed", ps := ["plan"], kwd := [],
  N := ["plan"],
  body := [
    .expr (.call f_look [.var 0] []),
    .never] }
def i_f_depends_on : Fn := {
  name := "depends_on", ps := ["plan", "point"], kwd := [],
  N := ["plan", "point", "found", "number", "one"],
  body := [
    .expr (.call f_look [.var 0] []),
    .expr (.call f_look_point [.var 0, .var 1] []),
    .never,
    .never,
    .never] }
def i_f_look_numbers : Fn := {
  name := "look_numbers", ps := ["plan", "numbers"], kwd := [],
  N := ["plan", "numbers", "one"],
  body := [
    .ifs (.bop .Or [.not (.isi (.var 1) .list), .cmp .NotEq (.pr .len [.var 1]) (.call f_many_numbers [.var 0] [])]) [
      .raise "BadNumbers" [] []] [],
    .ifs (.lc (.var 2) (.nm 2) (.seq (.var 1)) [.not (.call f_is_within [.var 2, .neg (.gl "MOST_NUMBER" c_MOST_NUMBER), .gl "MOST_NUMBER" c_MOST_NUMBER] [])] [2]) [
      .raise "BadNumbers" [] []] []] }
def i_f_drawn : Fn := {
  name := "drawn", ps := ["plan", "numbers"], kwd := [],
  N := ["plan", "numbers"],
  body := [
    .expr (.call f_look [.var 0] []),
    .expr (.call f_look_numbers [.var 0, .var 1] []),
    .never] }
def i_f_whole : Fn := {
  name := "whole", ps := ["number"], kwd := [],
  N := ["number"],
  body := [
    .ret (.ite (.cmp .NotEq (.var 0) (.lit (.int 0))) (.dct [(.tup [], .var 0)]) (.dct []))] }
def i_f_single : Fn := {
  name := "single", ps := ["sign"], kwd := [],
  N := ["sign"],
  body := [
    .ret (.dct [(.tup [.var 0], .lit (.int 1))])] }
def i_f_added : Fn := {
  name := "added", ps := ["one", "other"], kwd := [],
  N := ["one", "other", "found", "signs", "number", "more"],
  body := [
    .own 2 (.pr .dict [.var 0]),
    .forS (.tp [.nm 3, .nm 4]) (.items (.var 1)) [
      .asg (.nm 5) (.bin .Add (.mt .get (.var 2) [.var 3, .lit (.int 0)]) (.var 4)),
      .ifs (.cmp .NotEq (.var 5) (.lit (.int 0))) [
        .put 2 (.var 3) (.var 5)] [
        .never]],
    .frz 2,
    .ret (.var 2)] }
def i_f_scaled : Fn := {
  name := "scaled", ps := ["one", "factor"], kwd := [],
  N := ["one", "factor", "signs", "number"],
  body := [
    .ifs (.cmp .Eq (.var 1) (.lit (.int 0))) [
      .ret (.dct [])] [],
    .ret (.dc (.var 2) (.bin .Mult (.var 1) (.var 3)) (.tp [.nm 2, .nm 3]) (.items (.var 0)) [] [2, 3])] }
def i_f_lessened : Fn := {
  name := "lessened", ps := ["one", "other"], kwd := [],
  N := ["one", "other"],
  body := [
    .ret (.call f_added [.var 0, .call f_scaled [.var 1, .neg (.lit (.int 1))] []] [])] }
def i_f_multiplied : Fn := {
  name := "multiplied", ps := ["one", "other"], kwd := [],
  N := ["one", "other", "found", "signs", "number", "more", "factor", "both"],
  body := [
    .own 2 (.dct []),
    .forS (.tp [.nm 3, .nm 4]) (.items (.var 0)) [
      .forS (.tp [.nm 5, .nm 6]) (.items (.var 1)) [
        .asg (.nm 7) (.pr .tuple [.pr .sorted [.bin .Add (.var 3) (.var 5)]]),
        .put 2 (.var 7) (.bin .Add (.mt .get (.var 2) [.var 7, .lit (.int 0)]) (.bin .Mult (.var 4) (.var 6)))]],
    .ret (.dc (.var 3) (.var 4) (.tp [.nm 3, .nm 4]) (.items (.var 2)) [.cmp .NotEq (.var 4) (.lit (.int 0))] [3, 4])] }
def i_f_area : Fn := {
  name := "area", ps := ["one", "other", "third"], kwd := [],
  N := ["one", "other", "third", "turns", "found"],
  body := [
    .ifs (.bop .Or [.cmp .Eq (.var 0) (.var 1), .cmp .Eq (.var 1) (.var 2), .cmp .Eq (.var 0) (.var 2)]) [
      .never] [],
    .asg (.nm 3) (.bin .Add (.bin .Add (.pr .int [.cmp .Gt (.var 0) (.var 1)]) (.pr .int [.cmp .Gt (.var 1) (.var 2)])) (.pr .int [.cmp .Gt (.var 0) (.var 2)])),
    .asg (.nm 4) (.call f_single [.bin .Add (.tup [.lit (.str "area")]) (.pr .tuple [.pr .sorted [.lst [.var 0, .var 1, .var 2]]])] []),
    .ret (.ite (.cmp .Eq (.bin .Mod (.var 3) (.lit (.int 2))) (.lit (.int 1))) (.fnv 0) (.var 4))] }
def i_f_far_sum : Fn := {
  name := "far_sum", ps := ["one", "other"], kwd := [],
  N := ["one", "other"],
  body := [
    .ifs (.cmp .Eq (.var 0) (.var 1)) [
      .ret (.dct [])] [],
    .ret (.call f_single [.tup [.lit (.str "far"), .pr .min2 [.var 0, .var 1], .pr .max2 [.var 0, .var 1]]] [])] }
def i_f_is_claim : Fn := {
  name := "is_claim", ps := ["plan", "thing"], kwd := [],
  N := ["plan", "thing", "many", "one"],
  body := [
    .ifs (.bop .Or [.not (.isi (.var 1) .tuple), .not (.var 1), .not (.isi (.idx (.var 1) (.lit (.int 0))) .str), .cmp .NotIn (.idx (.var 1) (.lit (.int 0))) (.gl "CLAIMS" c_CLAIMS)]) [
      .ret (.lit (.bool false))] [],
    .asg (.nm 2) (.bin .Add (.lit (.int 1)) (.idx (.gl "CLAIMS" c_CLAIMS) (.idx (.var 1) (.lit (.int 0))))),
    .ifs (.cmp .NotEq (.pr .len [.var 1]) (.bin .Add (.var 2) (.ite (.cmp .Eq (.idx (.var 1) (.lit (.int 0))) (.lit (.str "share"))) (.lit (.int 2)) (.lit (.int 0))))) [
      .ret (.lit (.bool false))] [],
    .ifs (.lc (.var 3) (.nm 3) (.seq (.slc (.var 1) (some (.lit (.int 1))) (some (.var 2)))) [.not (.call f_is_within [.var 3, .lit (.int 0), .bin .Sub (.pr .len [.var 0]) (.lit (.int 1))] [])] [3]) [
      .ret (.lit (.bool false))] [],
    .ret (.bop .Or [.cmp .NotEq (.idx (.var 1) (.lit (.int 0))) (.lit (.str "share")), .bop .And [.call f_is_within [.idx (.var 1) (.lit (.int 5)), .neg (.lit (.int 9)), .lit (.int 9)] [], .call f_is_within [.idx (.var 1) (.lit (.int 6)), .lit (.int 1), .lit (.int 9)] []]])] }
def i_f_look_claim : Fn := {
  name := "look_claim", ps := ["plan", "claim"], kwd := [],
  N := ["plan", "claim"],
  body := [
    .expr (.call f_look [.var 0] []),
    .ifs (.not (.call f_is_claim [.var 0, .var 1] [])) [
      .raise "BadClaim" [] []] []] }
def i_f_squares_of : Fn := {
  name := "squares_of", ps := ["some", "claim"], kwd := [],
  N := ["some", "claim", "found", "top", "bottom"],
  body := [
    .ifs (.cmp .Eq (.idx (.var 1) (.lit (.int 0))) (.lit (.str "same"))) [
      .ret (.call f_far_sum [.idx (.var 0) (.lit (.int 0)), .idx (.var 0) (.lit (.int 1))] [])] [],
    .never,
    .never,
    .never,
    .never] }
def i_f_sum_of : Fn := {
  name := "sum_of", ps := ["claim"], kwd := [],
  N := ["claim", "some", "left", "right"],
  body := [
    .asg (.nm 1) (.pr .list [.slc (.var 0) (some (.lit (.int 1))) (some (.bin .Add (.lit (.int 1)) (.idx (.gl "CLAIMS" c_CLAIMS) (.idx (.var 0) (.lit (.int 0))))))]),
    .ifs (.cmp .Eq (.idx (.var 0) (.lit (.int 0))) (.lit (.str "line"))) [
      .ret (.call f_area [.idx (.var 1) (.lit (.int 0)), .idx (.var 1) (.lit (.int 1)), .idx (.var 1) (.lit (.int 2))] [])] [],
    .ifs (.cmp .In (.idx (.var 0) (.lit (.int 0))) (.tup [.lit (.str "same"), .lit (.str "middle"), .lit (.str "share")])) [
      .ret (.call f_squares_of [.var 1, .var 0] [])] [],
    .never,
    .never,
    .never,
    .never,
    .never,
    .never,
    .never,
    .never,
    .never] }
def i_f_over_of : Fn := {
  name := "over_of", ps := ["step"], kwd := [],
  N := ["step", "some", "found", "at"],
  body := [
    .asg (.nm 1) (.call f_points_of [.var 0] []),
    .ifs (.cmp .Eq (.idx (.var 0) (.lit (.int 0))) (.lit (.str "meet"))) [
      .never] [],
    .ifs (.cmp .Eq (.idx (.var 0) (.lit (.int 0))) (.lit (.str "cross"))) [
      .never] [],
    .ifs (.cmp .Eq (.idx (.var 0) (.lit (.int 0))) (.lit (.str "foot"))) [
      .ret (.call f_scaled [.call f_far_sum [.idx (.var 1) (.lit (.int 1)), .idx (.var 1) (.lit (.int 2))] [], .lit (.int 2)] [])] [],
    .never,
    .never,
    .never,
    .never,
    .never] }
def i_f_product : Fn := {
  name := "product", ps := ["some"], kwd := [],
  N := ["some", "found", "one"],
  body := [
    .asg (.nm 1) (.call f_whole [.lit (.int 1)] []),
    .forS (.nm 2) (.seq (.var 0)) [
      .asg (.nm 1) (.call f_multiplied [.var 1, .var 2] [])],
    .ret (.var 1)] }
def i_f_way_to : Fn := {
  name := "way_to", ps := ["one", "other"], kwd := [],
  N := ["one", "other", "across", "up"],
  body := [
    .asg (.nm 2) (.call f_lessened [.call f_multiplied [.idx (.var 1) (.lit (.int 0)), .idx (.var 0) (.lit (.int 2))] [], .call f_multiplied [.idx (.var 0) (.lit (.int 0)), .idx (.var 1) (.lit (.int 2))] []] []),
    .asg (.nm 3) (.call f_lessened [.call f_multiplied [.idx (.var 1) (.lit (.int 1)), .idx (.var 0) (.lit (.int 2))] [], .call f_multiplied [.idx (.var 0) (.lit (.int 1)), .idx (.var 1) (.lit (.int 2))] []] []),
    .ret (.tup [.var 2, .var 3, .lst [.idx (.var 0) (.lit (.int 2)), .idx (.var 1) (.lit (.int 2))]])] }
def i_f_crossed : Fn := {
  name := "crossed", ps := ["one", "other"], kwd := [],
  N := ["one", "other"],
  body := [
    .ret (.tup [.call f_lessened [.call f_multiplied [.idx (.var 0) (.lit (.int 0)), .idx (.var 1) (.lit (.int 1))] [], .call f_multiplied [.idx (.var 0) (.lit (.int 1)), .idx (.var 1) (.lit (.int 0))] []] [], .bin .Add (.idx (.var 0) (.lit (.int 2))) (.idx (.var 1) (.lit (.int 2)))])] }
def i_f_part_way : Fn := {
  name := "part_way", ps := ["start", "end", "above", "below"], kwd := [],
  N := ["start", "end", "above", "below", "first", "then", "across", "up", "under"],
  body := [
    .asg (.tp [.nm 6, .nm 7, .nm 8]) (.call f_way_to [.var 0, .var 1] []),
    .asg (.nm 4) (.call f_added [.call f_multiplied [.call f_multiplied [.idx (.var 0) (.lit (.int 0)), .idx (.var 1) (.lit (.int 2))] [], .var 3] [], .call f_multiplied [.var 2, .var 6] []] []),
    .asg (.nm 5) (.call f_added [.call f_multiplied [.call f_multiplied [.idx (.var 0) (.lit (.int 1)), .idx (.var 1) (.lit (.int 2))] [], .var 3] [], .call f_multiplied [.var 2, .var 7] []] []),
    .ret (.tup [.var 4, .var 5, .call f_multiplied [.var 3, .call f_product [.var 8] []] []])] }
def i_f_place_of : Fn := {
  name := "place_of", ps := ["step", "some", "number"], kwd := [],
  N := ["step", "some", "number", "line", "under", "first", "then", "above", "below", "start", "end", "across", "up"],
  body := [
    .ifs (.cmp .Eq (.idx (.var 0) (.lit (.int 0))) (.lit (.str "slide"))) [
      .ret (.call f_part_way [.idx (.var 1) (.lit (.int 0)), .idx (.var 1) (.lit (.int 1)), .call f_single [.tup [.lit (.str "slide"), .var 2]] [], .call f_whole [.lit (.int 1)] []] [])] [],
    .never,
    .never,
    .never,
    .never,
    .never] }
def i_f_free_place : Fn := {
  name := "free_place", ps := ["number", "many", "far"], kwd := [],
  N := ["number", "many", "far"],
  body := [
    .ifs (.cmp .Eq (.var 1) (.lit (.int 0))) [
      .ret (.tup [.call f_whole [.lit (.int 0)] [], .call f_whole [.lit (.int 0)] [], .call f_whole [.lit (.int 1)] []])] [],
    .ifs (.cmp .Eq (.var 1) (.lit (.int 1))) [
      .ret (.tup [.ite (.var 2) (.fnv 0) (.call f_whole [.lit (.int 1)] []), .call f_whole [.lit (.int 0)] [], .call f_whole [.lit (.int 1)] []])] [],
    .never] }
def i_f_sign_at : Fn := {
  name := "sign_at", ps := ["sign", "points"], kwd := [],
  N := ["sign", "points", "line"],
  body := [
    .ifs (.cmp .Eq (.idx (.var 0) (.lit (.int 0))) (.lit (.str "slide"))) [
      .never] [],
    .asg (.nm 2) (.call f_way_to [.idx (.var 1) (.idx (.var 0) (.lit (.int 1))), .idx (.var 1) (.idx (.var 0) (.lit (.int 2)))] []),
    .ifs (.cmp .Eq (.idx (.var 0) (.lit (.int 0))) (.lit (.str "far"))) [
      .never] [],
    .ret (.idx (.call f_crossed [.var 2, .call f_way_to [.idx (.var 1) (.idx (.var 0) (.lit (.int 1))), .idx (.var 1) (.idx (.var 0) (.lit (.int 3)))] []] []) (.lit (.int 0)))] }
def i_f_below_of : Fn := {
  name := "below_of", ps := ["sign"], kwd := [],
  N := ["sign"],
  body := [
    .ifs (.cmp .Eq (.idx (.var 0) (.lit (.int 0))) (.lit (.str "slide"))) [
      .never] [],
    .ifs (.cmp .Eq (.idx (.var 0) (.lit (.int 0))) (.lit (.str "far"))) [
      .never] [],
    .ret (.lst [.idx (.var 0) (.lit (.int 1)), .idx (.var 0) (.lit (.int 1)), .idx (.var 0) (.lit (.int 2)), .idx (.var 0) (.lit (.int 3))])] }
def i_f_sum_at : Fn := {
  name := "sum_at", ps := ["one", "points"], kwd := [],
  N := ["one", "points", "most", "rows", "found", "signs", "number", "above", "below", "sign", "point", "time"],
  body := [
    .own 2 (.dct []),
    .own 3 (.lst []),
    .forS (.tp [.nm 5, .nm 6]) (.items (.var 0)) [
      .asg (.nm 7) (.call f_whole [.var 6] []),
      .own 8 (.dct []),
      .forS (.nm 9) (.seq (.var 5)) [
        .asg (.nm 7) (.call f_multiplied [.var 7, .call f_sign_at [.var 9, .var 1] []] []),
        .forS (.nm 10) (.seq (.call f_below_of [.var 9] [])) [
          .put 8 (.var 10) (.bin .Add (.mt .get (.var 8) [.var 10, .lit (.int 0)]) (.lit (.int 1)))]],
      .frz 8,
      .app 3 (.pure (.tup [.var 7, .var 8])),
      .frz 8,
      .forS (.nm 10) (.seq (.var 8)) [
        .put 2 (.var 10) (.pr .max2 [.mt .get (.var 2) [.var 10, .lit (.int 0)], .idx (.var 8) (.var 10)])]],
    .asg (.nm 4) (.dct []),
    .frz 3,
    .forS (.tp [.nm 7, .nm 8]) (.seq (.var 3)) [
      .forS (.nm 10) (.seq (.pr .sorted [.var 2])) [
        .forS (.nm 11) (.rng [.bin .Sub (.idx (.var 2) (.var 10)) (.mt .get (.var 8) [.var 10, .lit (.int 0)])]) [
          .asg (.nm 7) (.fnv 0)]],
      .asg (.nm 4) (.call f_added [.var 4, .var 7] [])],
    .ret (.var 4)] }
def i_f_places_of : Fn := {
  name := "places_of", ps := ["plan", "far"], kwd := [("far", .bool false)],
  N := ["plan", "far", "found", "many", "number", "step", "one"],
  body := [
    .own 2 (.lst []),
    .asg (.nm 3) (.lit (.int 0)),
    .forS (.tp [.nm 4, .nm 5]) (.enum (.var 0)) [
      .ifs (.cmp .Eq (.idx (.var 5) (.lit (.int 0))) (.lit (.str "free"))) [
        .app 2 (.pure (.call f_free_place [.var 4, .var 3, .var 1] [])),
        .aug 3 (.lit (.int 1))] [
        .ifs (.bop .And [.cmp .In (.idx (.var 5) (.lit (.int 0))) (.gl "HARD" c_HARD), .not (.call f_sum_at [.call f_over_of [.var 5] [], .var 2] [])]) [
          .raise "Falls" ["step"] [.var 4]] [],
        .app 2 (.pure (.call f_place_of [.var 5, .lc (.idx (.var 2) (.var 6)) (.nm 6) (.seq (.call f_points_of [.var 5] [])) [] [6], .var 4] []))]],
    .frz 2,
    .ret (.var 2)] }
def i_f_is_so : Fn := {
  name := "is_so", ps := ["plan", "claim"], kwd := [],
  N := ["plan", "claim"],
  body := [
    .ret (.not (.call f_sum_at [.call f_sum_of [.var 1] [], .call f_places_of [.var 0] []] []))] }
def i_f_judged : Fn := {
  name := "judged", ps := ["plan", "claim", "road"], kwd := [("road", .str "coordinates")],
  N := ["plan", "claim", "road", "good"],
  body := [
    .expr (.call f_look_claim [.var 0, .var 1] []),
    .ifs (.bop .Or [.not (.isi (.var 2) .str), .cmp .NotIn (.var 2) (.tup [.lit (.str "coordinates"), .lit (.str "points")])]) [
      .raise "BadText" [] []] [],
    .tryS [
      .asg (.nm 3) (.ite (.cmp .Eq (.var 2) (.lit (.str "points"))) (.fnv 0) (.call f_is_so [.var 0, .var 1] []))] [(["Falls"], none, [
      .ret (.lit (.str "never"))])],
    .ret (.ite (.var 3) (.lit (.str "yes")) (.lit (.str "no")))] }
def i_f_counter : Fn := {
  name := "counter", ps := ["plan", "claim"], kwd := [],
  N := ["plan", "claim"],
  body := [
    .expr (.call f_look_claim [.var 0, .var 1] []),
    .ifs (.call f_is_so [.var 0, .var 1] []) [
      .raise "NotSo" [] []] [],
    .never] }
def i_f_with_row : Fn := {
  name := "with_row", ps := ["rows", "name", "row"], kwd := [],
  N := ["rows", "name", "row", "found"],
  body := [
    .own 3 (.pr .dict [.var 0]),
    .put 3 (.var 1) (.var 2),
    .frz 3,
    .ret (.var 3)] }
def i_f_number_of : Fn := {
  name := "number_of", ps := ["word"], kwd := [],
  N := ["word", "figures", "sign"],
  body := [
    .asg (.nm 1) (.ite (.cmp .Eq (.slc (.var 0) none (some (.lit (.int 1)))) (.lit (.str "-"))) (.slc (.var 0) (some (.lit (.int 1))) none) (.var 0)),
    .ifs (.bop .Or [.not (.chn .LtE .LtE (.lit (.int 1)) (.pr .len [.var 1]) (.lit (.int 3))), .lc (.var 2) (.nm 2) (.seq (.var 1)) [.cmp .NotIn (.var 2) (.gl "FIGURES" c_FIGURES)] [2]]) [
      .ret (.lit (.none))] [],
    .ret (.ite (.cmp .Eq (.slc (.var 0) none (some (.lit (.int 1)))) (.lit (.str "-"))) (.neg (.pr .int [.var 1])) (.pr .int [.var 1]))] }
def i_f_thing_of : Fn := {
  name := "thing_of", ps := ["text"], kwd := [],
  N := ["text", "first", "rest", "word"],
  body := [
    .asg (.st 1 2) (.mt .split (.var 0) [.lit (.str " ")]),
    .ret (.bin .Add (.tup [.var 1]) (.pr .tuple [.lc (.call f_number_of [.var 3] []) (.nm 3) (.seq (.var 2)) [] [3]]))] }
def i_f_read : Fn := {
  name := "read", ps := ["text"], kwd := [],
  N := ["text", "found", "part"],
  body := [
    .ifs (.bop .Or [.not (.isi (.var 0) .str), .cmp .Gt (.pr .len [.var 0]) (.gl "MOST_TEXT" c_MOST_TEXT)]) [
      .raise "BadText" [] []] [],
    .asg (.nm 1) (.pr .tuple [.lc (.call f_thing_of [.var 2] []) (.nm 2) (.seq (.mt .split (.var 0) [.lit (.str "; ")])) [] [2]]),
    .ifs (.bop .Or [.not (.call f_is_plan [.var 1] []), .fnv 0]) [
      .raise "BadText" [] []] [],
    .never] }
def i_f_known : Fn := {
  name := "known", ps := ["name"], kwd := [],
  N := ["name", "plan"],
  body := [
    .ifs (.bop .Or [.not (.isi (.var 0) .str), .cmp .NotIn (.var 0) (.gl "ROWS" c_ROWS)]) [
      .raise "BadName" ["name"] [.var 0]] [],
    .never,
    .never] }
def i_f_paper : Fn := {
  name := "paper", ps := ["plan", "claim"], kwd := [],
  N := ["plan", "claim", "point", "here"],
  body := [
    .expr (.call f_look_claim [.var 0, .var 1] []),
    .ifs (.not (.call f_is_so [.var 0, .var 1] [])) [
      .never] [],
    .never] }
def i_g_cell : Fn := {
  name := "_law_cell", ps := ["script", "k"], kwd := [],
  N := ["script", "k"],
  body := [
    .ifs (.cmp .Lt (.var 1) (.pr .len [.var 0])) [
      .ret (.idx (.var 0) (.var 1))] [],
    .ret (.lit (.int 0))] }
def i_g_refused_by : Fn := {
  name := "_law_refused_by", ps := ["way"], kwd := [],
  N := ["way", "plan", "book"],
  body := [
    .asg (.nm 1) (.tup [.tup [.lit (.str "free")], .tup [.lit (.str "free")], .tup [.lit (.str "slide"), .lit (.int 0), .lit (.int 1)]]),
    .ifs (.cmp .Eq (.var 0) (.lit (.int 0))) [
      .ret (.call f_needed [.tup []] [])] [],
    .ifs (.cmp .Eq (.var 0) (.lit (.int 1))) [
      .ret (.call f_judged [.var 1, .tup []] [])] [],
    .ifs (.cmp .Eq (.var 0) (.lit (.int 2))) [
      .ret (.call f_drawn [.var 1, .lst []] [])] [],
    .ifs (.cmp .Eq (.var 0) (.lit (.int 3))) [
      .ret (.call f_depends_on [.var 1, .lit (.int 3)] [])] [],
    .ifs (.cmp .Eq (.var 0) (.lit (.int 4))) [
      .ret (.call f_paper [.tup [.tup [.lit (.str "free")], .tup [.lit (.str "foot"), .lit (.int 0), .lit (.int 0), .lit (.int 0)]], .tup [.lit (.str "same"), .lit (.int 0), .lit (.int 1)]] [])] [],
    .ifs (.cmp .Eq (.var 0) (.lit (.int 5))) [
      .ret (.call f_counter [.var 1, .tup [.lit (.str "line"), .lit (.int 0), .lit (.int 1), .lit (.int 2)]] [])] [],
    .ifs (.cmp .Eq (.var 0) (.lit (.int 6))) [
      .ret (.call f_read [.lit (.str "")] [])] [],
    .ifs (.cmp .Eq (.var 0) (.lit (.int 7))) [
      .ret (.call f_known [.lit (.str "")] [])] [],
    .ifs (.cmp .Eq (.var 0) (.lit (.int 8))) [
      .asgN 2 (.tup [.lit (.str "a"), .var 1, .tup [.lit (.str "line"), .lit (.int 0), .lit (.int 1), .lit (.int 2)], .lit (.str "a"), .var 1, .lst []]) 21036038 5] [],
    .raise "Nothing" [] []] }
def i_f_law : Fn := {
  name := "law", ps := ["script"], kwd := [],
  N := ["script", "way", "told", "under", "thing", "e", "at"],
  body := [
    .asg (.nm 1) (.bin .Mod (.call g_cell [.var 0, .lit (.int 0)] []) (.lit (.int 10))),
    .asg (.nm 2) (.lst []),
    .asg (.nm 3) (.lit (.bool false)),
    .own 4 (.lst []),
    .tryS [
      .expr (.call g_refused_by [.var 1] [])] [(["PlanError", "BadPlan", "BadClaim", "BadNumbers", "BadPoint", "Falls", "NotSo", "BadText", "BadName", "BadPicks", "Nothing"], some 5, [
      .asg (.nm 2) (.lst [.isi (.var 5) (.cls "BadPlan" ["BadPlan"]), .isi (.var 5) (.cls "BadClaim" ["BadClaim"]), .isi (.var 5) (.cls "BadNumbers" ["BadNumbers"]), .isi (.var 5) (.cls "BadPoint" ["BadPoint"])]),
      .asg (.nm 2) (.bin .Add (.var 2) (.lst [.isi (.var 5) (.cls "Falls" ["Falls"]), .isi (.var 5) (.cls "NotSo" ["NotSo"]), .isi (.var 5) (.cls "BadText" ["BadText"]), .isi (.var 5) (.cls "BadName" ["BadName"])])),
      .asg (.nm 2) (.bin .Add (.var 2) (.lst [.isi (.var 5) (.cls "BadPicks" ["BadPicks"]), .isi (.var 5) (.cls "Nothing" ["Nothing"])])),
      .asg (.nm 3) (.isi (.var 5) (.cls "ValueError" ["PlanError", "BadPlan", "BadClaim", "BadNumbers", "BadPoint", "Falls", "NotSo", "BadText", "BadName", "BadPicks", "Nothing"]))])],
    .tryS [
      .expr (.call g_refused_by [.lit (.int 4)] [])] [(["Falls"], some 5, [
      .app 4 (.pure (.fld 5 "step"))])],
    .tryS [
      .expr (.call f_depends_on [.tup [.tup [.lit (.str "free")]], .lst [.var 1]] [])] [(["BadPoint"], some 5, [
      .own 4 (.bin .Add (.var 4) (.fld 5 "point"))])],
    .ret (.bop .And [.var 3, .cmp .Eq (.var 4) (.lst [.lit (.int 1), .var 1]), .cmp .Eq (.var 2) (.lc (.cmp .Eq (.var 6) (.var 1)) (.nm 6) (.rng [.lit (.int 10)]) [] [6])])] }
def Γ : List Fn := [i_f_is_within, i_f_points_of, i_f_is_step, i_f_count, i_f_is_plan, i_f_look, i_f_look_point, i_f_many_numbers, i_f_needed, i_f_depends_on, i_f_look_numbers, i_f_drawn, i_f_whole, i_f_single, i_f_added, i_f_scaled, i_f_lessened, i_f_multiplied, i_f_area, i_f_far_sum, i_f_is_claim, i_f_look_claim, i_f_squares_of, i_f_sum_of, i_f_over_of, i_f_product, i_f_way_to, i_f_crossed, i_f_part_way, i_f_place_of, i_f_free_place, i_f_sign_at, i_f_below_of, i_f_sum_at, i_f_places_of, i_f_is_so, i_f_judged, i_f_counter, i_f_with_row, i_f_number_of, i_f_thing_of, i_f_read, i_f_known, i_f_paper, i_g_cell, i_g_refused_by, i_f_law]
end Ad.Lk31
set_option linter.all false
set_option maxRecDepth 100000
set_option maxHeartbeats 4000000
/-! The law's own helpers. -/
namespace Ad.Lk31
open PySem Ad
theorem cell (n : Nat) (ns : List Int) (k : Nat) : callF Γ (n + 1) g_cell [.list (ns.map .int), .int k] [] = .ok (.int (ns.getD k 0)) := by
  rw [call1 (fn := i_g_cell) rfl rfl]
  show endF (evSs (callF Γ n) [.fz (.list (ns.map .int)), .fz (.int k)] [.ifs (.cmp .Lt (.var 1) (.pr .len [.var 0])) [.ret (.idx (.var 0) (.var 1))] [], .ret (.lit (.int 0))]) = _
  have h : ev (callF Γ n) [.fz (.list (ns.map .int)), .fz (.int k)] .t (.cmp .Lt (.var 1) (.pr .len [.var 0])) = .ok (.bool (decide (k < ns.length))) := by
    rw [n_cmp (x := .int k) (y := .int ((ns.map PyData.int).length : Nat)) rfl rfl, n_lt, List.length_map]
    exact congrArg (fun b => R.ok (PyData.bool b)) (dlt k ns.length)
  by_cases q : k < ns.length
  · rw [decide_eq_true q] at h
    rw [n_rt (d := .int ns[k]) (by intro i z; cases z) (by
      rw [n_if1 h]
      refine n_rt (by intro i z; cases z) (n_ret ?_)
      rw [n_idx (x := .list (ns.map .int)) (y := .int k) rfl rfl, n_idxL, n_at (ints_get q)]
      rfl), n_ert]
    simp [List.getD, q]
  · rw [decide_eq_false q] at h
    rw [n_nx (ρ' := [.fz (.list (ns.map .int)), .fz (.int k)]) (by intro i z; cases z) (n_if0 h)]
    rw [n_rt (by intro i z; cases z) (n_ret rfl), n_ert]
    simp [List.getD, q]
end Ad.Lk31
set_option linter.all false
set_option maxRecDepth 100000
set_option maxHeartbeats 4000000
/-! The law of the refusals: each of the ten ways is run. -/
namespace Ad.Lk31
open PySem Ad
abbrev rest : List Ad.S := i_f_law.body.tail
theorem way0 (S : D) : evSs (callF Γ 19) [.fz S, .fz (.int 0), .un, .un, .un, .un, .un] rest = some (.rt (.bool true)) := by kernel_rfl
theorem way1 (S : D) : evSs (callF Γ 19) [.fz S, .fz (.int 1), .un, .un, .un, .un, .un] rest = some (.rt (.bool true)) := by kernel_rfl
theorem way2 (S : D) : evSs (callF Γ 19) [.fz S, .fz (.int 2), .un, .un, .un, .un, .un] rest = some (.rt (.bool true)) := by kernel_rfl
theorem way3 (S : D) : evSs (callF Γ 19) [.fz S, .fz (.int 3), .un, .un, .un, .un, .un] rest = some (.rt (.bool true)) := by kernel_rfl
theorem way4 (S : D) : evSs (callF Γ 19) [.fz S, .fz (.int 4), .un, .un, .un, .un, .un] rest = some (.rt (.bool true)) := by kernel_rfl
theorem way5 (S : D) : evSs (callF Γ 19) [.fz S, .fz (.int 5), .un, .un, .un, .un, .un] rest = some (.rt (.bool true)) := by kernel_rfl
theorem way6 (S : D) : evSs (callF Γ 19) [.fz S, .fz (.int 6), .un, .un, .un, .un, .un] rest = some (.rt (.bool true)) := by kernel_rfl
theorem way7 (S : D) : evSs (callF Γ 19) [.fz S, .fz (.int 7), .un, .un, .un, .un, .un] rest = some (.rt (.bool true)) := by kernel_rfl
theorem way8 (S : D) : evSs (callF Γ 19) [.fz S, .fz (.int 8), .un, .un, .un, .un, .un] rest = some (.rt (.bool true)) := by kernel_rfl
theorem way9 (S : D) : evSs (callF Γ 19) [.fz S, .fz (.int 9), .un, .un, .un, .un, .un] rest = some (.rt (.bool true)) := by kernel_rfl
theorem m10 (i : Int) : Int.fmod i 10 = 0 ∨ Int.fmod i 10 = 1 ∨ Int.fmod i 10 = 2 ∨ Int.fmod i 10 = 3 ∨ Int.fmod i 10 = 4 ∨ Int.fmod i 10 = 5 ∨ Int.fmod i 10 = 6 ∨ Int.fmod i 10 = 7 ∨ Int.fmod i 10 = 8 ∨ Int.fmod i 10 = 9 := by
  have h : Int.fmod i 10 = i % 10 := Int.fmod_eq_emod_of_nonneg _ (by decide)
  rw [h]; omega
theorem plain (ns : List Int) : callF Γ 20 f_law [.list (ns.map .int)] [] = .ok (.bool true) := by
  rw [call1 (fn := i_f_law) rfl rfl]
  show endF (evSs (callF Γ 19) [.fz (.list (ns.map .int)), .un, .un, .un, .un, .un, .un] (.asg (.nm 1) (.bin .Mod (.call g_cell [.var 0, .lit (.int 0)] []) (.lit (.int 10))) :: rest)) = _
  have hc := cell 18 ns 0
  have hc : callF Γ 19 g_cell [.list (ns.map .int), .int 0] [] = .ok (.int (ns.getD 0 0)) := hc
  have n10 : binD .Mod (.int (ns.getD 0 0)) (.int 10) = .ok (.int ((ns.getD 0 0).fmod 10)) := n_modI _ _ (by decide)
  rw [n_nx (ρ' := [.fz (.list (ns.map .int)), .fz (.int ((ns.getD 0 0).fmod 10)), .un, .un, .un, .un, .un]) (by intro i z; cases z) (by simp only [runF, startS, sz_nil, sz_frz, frz_ow, frz_fz, sz_asg, sz_asgN, sz_own, sz_asgF, sz_par, sz_app, sz_put, sz_aug, sz_augI, sz_popD, sz_rem, sz_ext, sz_put2, sz_expr, sz_ret, sz_retN, sz_ifs, sz_forS, sz_whil, sz_raise, sz_tryS, sz_pass, sz_cont, sz_never, q_nx, q_rt, q_ct, q_ex, e_asg, e_own, e_asgF, e_par, e_app, e_put, e_aug, e_popD, e_expr, e_ret, e_retN, e_pass, e_cont, e_ifs, e_raise, e_for, e_try, asg_ok, asg_ex, own_ok, own_ex, asgF_ok, par_ok, app2_ow, app_ok, app_ex, putv_ok, put2_ow, nxO_s, aug_ok, pop_ok, pop2_ow, expr_ok, expr_ex, ret_ok, ret_ex, if_1, if_0, if_ok, if_x, for_ok, raise_0, raise_1, y_nx, y_rt, y_ct, y_ex, h_nil, h_no, h_as, u_nx, u_rt, u_ct, v_nx, v_rt, v_ct, Sl.unx, x_varv, x_varr, x_vart, x_lit, x_gl, x_bin, bin_ok, x_neg, neg_ok, x_not, not_b, not_ok, not_ex, x_bop, b_one, b_two, bop_and, bop_or, bop_ok, bop_ex, x_ite, ite_b, x_cmp, cmp_ok, cmpF_ok, x_chn, chn_ok, chn_0, chn_1, es_nil, es_cons, cons_ok, cons_ex, cons_xe, x_tup, tup_ok, x_lst, lst_ok, x_dct, dc_nil, dc_cons, dct_ok, x_idx, idx_ok, o_none, o_some, o_int, x_slc, slc_ok, x_call, call_ok, call_ex, k_nil, k_cons, k_ok, x_pr, pr_ok, pr_ex, x_isiv, x_isii, isi_ok, x_mt, mt_ok, x_fld, fld_st, fld_pt, fld_nm, x_callV, callV_ok, f_nil, f_one, t_b, i_seq, seq1_ok, seq1_ex, i_rng, rng_ok, i_enum, enum_t, enum_l, i_zip, zip_ok, zip_l, zip_t, i_items, it_ok, g_pure, pure_ok, pure_ex, g_pop, pop1_ok, popF_0, g_tup, tupF_ok, g_ite, iteF_b, gl_nil, gl_cons, gl_ok, gl2_ok, getR, getV, n_ok, n_ex, n_bad, n_of, n_fr, n_fv, fin_tb, n_ft, n_sv, n_sr, n_st, n_idxT, n_idxL, at0', at1', at2', at3', at4', at5', at6', at7', n_addI, n_subI, lentDict, lentAny, isLent, isLentD, cut_0, nox_ok, n_ert, n_enx, n_eex, b_nm, b_tp, b_tl, bs_nil, bs_cons, ob_s, p_nil, p_cons, o_nx, sq_l, sq_t, sq_d, l_nx, l_ct, l_rt, l_ex, bn_s, len_l, len_t, len_d, list_l, list_t, tuple_l, tuple_t, prD, mtTy, Mt.md, isMut, isiV, isiD, n_tokb, n_toki, n_tokl, n_tokt, n_tokn, n_trb, n_trl, n_trt, z_n, z_b, z_i, z_s, z_l, z_t, cmpIs0, cmpIsN, n_lt, n_gt, n_le, n_ge, eqI, neI, lend, Sl.lend, wipeS, List.map_cons, List.map_nil, List.getElem?_cons_zero, List.getElem?_cons_succ, List.set_cons_zero, List.set_cons_succ, List.length_cons, List.length_nil, List.cons_append, List.nil_append, List.replicate_succ, List.replicate_zero, Nat.reduceAdd, Nat.reduceSub, Nat.reduceLT, Nat.reduceEqDiff, Nat.zero_add, ↓reduceIte, Bool.false_eq_true, Bool.true_and, Bool.and_true, Bool.and_self, Bool.or_self, Bool.false_or, Bool.or_false, Bool.true_or, Bool.or_true, Bool.not_true, Bool.not_false, Bool.not_not, Bool.and_false, Bool.false_and, decide_true, decide_false, Int.reduceEq, Int.reduceLT, Int.reduceNe, hc, n10])]
  rcases m10 (ns.getD 0 0) with e | e | e | e | e | e | e | e | e | e
  · rw [e, way0]; rfl
  · rw [e, way1]; rfl
  · rw [e, way2]; rfl
  · rw [e, way3]; rfl
  · rw [e, way4]; rfl
  · rw [e, way5]; rfl
  · rw [e, way6]; rfl
  · rw [e, way7]; rfl
  · rw [e, way8]; rfl
  · rw [e, way9]; rfl
end Ad.Lk31
set_option Elab.async false
set_option linter.all false
set_option maxRecDepth 100000
set_option maxHeartbeats 0
/-! The law's head. -/
namespace Ad.Lk31
open PySem PySem.Spec PyProof.Rows L2 Ad
abbrev prog : Program := PySem.Challenge.pw_alldrawings_k31_refusals_stand_apart
def top (i : Nat) : Stmt := prog.main.body.getD i (.Pass ⟨0, 0, 0, 0⟩)
def gG : List (Str × D) := [("CLAIMS", c_CLAIMS), ("FIGURES", c_FIGURES), ("HARD", c_HARD), ("MOST_FREE", c_MOST_FREE), ("MOST_HARD", c_MOST_HARD), ("MOST_LETTERS", c_MOST_LETTERS), ("MOST_NUMBER", c_MOST_NUMBER), ("MOST_SLIDES", c_MOST_SLIDES), ("MOST_STEPS", c_MOST_STEPS), ("MOST_TEXT", c_MOST_TEXT), ("POINTS", c_POINTS), ("ROWS", c_ROWS), ("SMALL", c_SMALL)]
def gc : Gc := { G := gG, fn := Γ.map (·.name), N := [], calm := true, xs := ["PlanError", "BadPlan", "BadClaim", "BadNumbers", "NotSo", "BadText", "BadPicks", "Nothing"], hd := [("PlanError", ["PlanError", "BadPlan", "BadClaim", "BadNumbers", "BadPoint", "Falls", "NotSo", "BadText", "BadName", "BadPicks", "Nothing"]), ("BadPlan", ["BadPlan"]), ("BadClaim", ["BadClaim"]), ("BadNumbers", ["BadNumbers"]), ("BadPoint", ["BadPoint"]), ("Falls", ["Falls"]), ("NotSo", ["NotSo"]), ("BadText", ["BadText"]), ("BadName", ["BadName"]), ("BadPicks", ["BadPicks"]), ("Nothing", ["Nothing"])], kw := [("places_of", "far"), ("judged", "road")], xi := [("BadPoint", "point"), ("Falls", "step"), ("BadName", "name")], bk := some 6021036038 }
def d_f_is_within : He.DefD := ⟨("is_within", none), "is_within", "is_within", defArgs (top 26), defBody (top 26), defScope (top 26), [], []⟩
def d_f_points_of : He.DefD := ⟨("points_of", none), "points_of", "points_of", defArgs (top 27), defBody (top 27), defScope (top 27), [], []⟩
def d_f_is_step : He.DefD := ⟨("is_step", none), "is_step", "is_step", defArgs (top 28), defBody (top 28), defScope (top 28), [], []⟩
def d_f_count : He.DefD := ⟨("count", none), "count", "count", defArgs (top 29), defBody (top 29), defScope (top 29), [], []⟩
def d_f_is_plan : He.DefD := ⟨("is_plan", none), "is_plan", "is_plan", defArgs (top 30), defBody (top 30), defScope (top 30), [], []⟩
def d_f_look : He.DefD := ⟨("look", none), "look", "look", defArgs (top 31), defBody (top 31), defScope (top 31), [], []⟩
def d_f_look_point : He.DefD := ⟨("look_point", none), "look_point", "look_point", defArgs (top 32), defBody (top 32), defScope (top 32), [], []⟩
def d_f_many_numbers : He.DefD := ⟨("many_numbers", none), "many_numbers", "many_numbers", defArgs (top 33), defBody (top 33), defScope (top 33), [], []⟩
def d_f_needed : He.DefD := ⟨("needed", none), "needed", "needed", defArgs (top 34), defBody (top 34), defScope (top 34), [], []⟩
def d_f_depends_on : He.DefD := ⟨("depends_on", none), "depends_on", "depends_on", defArgs (top 35), defBody (top 35), defScope (top 35), [], []⟩
def d_f_look_numbers : He.DefD := ⟨("look_numbers", none), "look_numbers", "look_numbers", defArgs (top 47), defBody (top 47), defScope (top 47), [], []⟩
def d_f_drawn : He.DefD := ⟨("drawn", none), "drawn", "drawn", defArgs (top 48), defBody (top 48), defScope (top 48), [], []⟩
def d_f_whole : He.DefD := ⟨("whole", none), "whole", "whole", defArgs (top 50), defBody (top 50), defScope (top 50), [], []⟩
def d_f_single : He.DefD := ⟨("single", none), "single", "single", defArgs (top 51), defBody (top 51), defScope (top 51), [], []⟩
def d_f_added : He.DefD := ⟨("added", none), "added", "added", defArgs (top 52), defBody (top 52), defScope (top 52), [], []⟩
def d_f_scaled : He.DefD := ⟨("scaled", none), "scaled", "scaled", defArgs (top 53), defBody (top 53), defScope (top 53), [], []⟩
def d_f_lessened : He.DefD := ⟨("lessened", none), "lessened", "lessened", defArgs (top 54), defBody (top 54), defScope (top 54), [], []⟩
def d_f_multiplied : He.DefD := ⟨("multiplied", none), "multiplied", "multiplied", defArgs (top 55), defBody (top 55), defScope (top 55), [], []⟩
def d_f_area : He.DefD := ⟨("area", none), "area", "area", defArgs (top 59), defBody (top 59), defScope (top 59), [], []⟩
def d_f_far_sum : He.DefD := ⟨("far_sum", none), "far_sum", "far_sum", defArgs (top 60), defBody (top 60), defScope (top 60), [], []⟩
def d_f_is_claim : He.DefD := ⟨("is_claim", none), "is_claim", "is_claim", defArgs (top 65), defBody (top 65), defScope (top 65), [], []⟩
def d_f_look_claim : He.DefD := ⟨("look_claim", none), "look_claim", "look_claim", defArgs (top 66), defBody (top 66), defScope (top 66), [], []⟩
def d_f_squares_of : He.DefD := ⟨("squares_of", none), "squares_of", "squares_of", defArgs (top 73), defBody (top 73), defScope (top 73), [], []⟩
def d_f_sum_of : He.DefD := ⟨("sum_of", none), "sum_of", "sum_of", defArgs (top 74), defBody (top 74), defScope (top 74), [], []⟩
def d_f_over_of : He.DefD := ⟨("over_of", none), "over_of", "over_of", defArgs (top 76), defBody (top 76), defScope (top 76), [], []⟩
def d_f_product : He.DefD := ⟨("product", none), "product", "product", defArgs (top 89), defBody (top 89), defScope (top 89), [], []⟩
def d_f_way_to : He.DefD := ⟨("way_to", none), "way_to", "way_to", defArgs (top 90), defBody (top 90), defScope (top 90), [], []⟩
def d_f_crossed : He.DefD := ⟨("crossed", none), "crossed", "crossed", defArgs (top 91), defBody (top 91), defScope (top 91), [], []⟩
def d_f_part_way : He.DefD := ⟨("part_way", none), "part_way", "part_way", defArgs (top 93), defBody (top 93), defScope (top 93), [], []⟩
def d_f_place_of : He.DefD := ⟨("place_of", none), "place_of", "place_of", defArgs (top 97), defBody (top 97), defScope (top 97), [], []⟩
def d_f_free_place : He.DefD := ⟨("free_place", none), "free_place", "free_place", defArgs (top 98), defBody (top 98), defScope (top 98), [], []⟩
def d_f_sign_at : He.DefD := ⟨("sign_at", none), "sign_at", "sign_at", defArgs (top 99), defBody (top 99), defScope (top 99), [], []⟩
def d_f_below_of : He.DefD := ⟨("below_of", none), "below_of", "below_of", defArgs (top 100), defBody (top 100), defScope (top 100), [], []⟩
def d_f_sum_at : He.DefD := ⟨("sum_at", none), "sum_at", "sum_at", defArgs (top 101), defBody (top 101), defScope (top 101), [], []⟩
def d_f_places_of : He.DefD := ⟨("places_of", none), "places_of", "places_of", defArgs (top 102), defBody (top 102), defScope (top 102), [], [("far", .bl false)]⟩
def d_f_is_so : He.DefD := ⟨("is_so", none), "is_so", "is_so", defArgs (top 104), defBody (top 104), defScope (top 104), [], []⟩
def d_f_judged : He.DefD := ⟨("judged", none), "judged", "judged", defArgs (top 107), defBody (top 107), defScope (top 107), [], [("road", .str "coordinates")]⟩
def d_f_counter : He.DefD := ⟨("counter", none), "counter", "counter", defArgs (top 111), defBody (top 111), defScope (top 111), [], []⟩
def d_f_with_row : He.DefD := ⟨("with_row", none), "with_row", "with_row", defArgs (top 117), defBody (top 117), defScope (top 117), [], []⟩
def d_f_number_of : He.DefD := ⟨("number_of", none), "number_of", "number_of", defArgs (top 124), defBody (top 124), defScope (top 124), [], []⟩
def d_f_thing_of : He.DefD := ⟨("thing_of", none), "thing_of", "thing_of", defArgs (top 125), defBody (top 125), defScope (top 125), [], []⟩
def d_f_read : He.DefD := ⟨("read", none), "read", "read", defArgs (top 126), defBody (top 126), defScope (top 126), [], []⟩
def d_f_known : He.DefD := ⟨("known", none), "known", "known", defArgs (top 132), defBody (top 132), defScope (top 132), [], []⟩
def d_f_paper : He.DefD := ⟨("paper", none), "paper", "paper", defArgs (top 134), defBody (top 134), defScope (top 134), [], []⟩
def d_g_cell : He.DefD := ⟨("_law_cell", none), "_law_cell", "_law_cell", defArgs (top 136), defBody (top 136), defScope (top 136), [], []⟩
def d_g_refused_by : He.DefD := ⟨("_law_refused_by", none), "_law_refused_by", "_law_refused_by", defArgs (top 137), defBody (top 137), defScope (top 137), [], []⟩
def d_f_law : He.DefD := ⟨("law", none), "law", "law", defArgs (top 138), defBody (top 138), defScope (top 138), [], []⟩
def di_BadPoint : He.DefD := ⟨("BadPoint", some "__init__"), "__init__", "BadPoint.__init__", defArgs (metS (top 6)), defBody (metS (top 6)), defScope (metS (top 6)), [], []⟩
def di_Falls : He.DefD := ⟨("Falls", some "__init__"), "__init__", "Falls.__init__", defArgs (metS (top 7)), defBody (metS (top 7)), defScope (metS (top 7)), [], []⟩
def di_BadName : He.DefD := ⟨("BadName", some "__init__"), "__init__", "BadName.__init__", defArgs (metS (top 10)), defBody (metS (top 10)), defScope (metS (top 10)), [], []⟩
def bkI : He.DefD := ⟨("Book", some "__init__"), "__init__", "Book.__init__", defArgs (inClass (top 118) 0), defBody (inClass (top 118) 0), defScope (inClass (top 118) 0), [], []⟩
def bkP : He.DefD := ⟨("Book", some "put"), "put", "Book.put", defArgs (inClass (top 118) 4), defBody (inClass (top 118) 4), defScope (inClass (top 118) 4), [], []⟩
def bkK : He.DefD := ⟨("Book", some "keep"), "keep", "Book.keep", defArgs (inClass (top 118) 6), defBody (inClass (top 118) 6), defScope (inClass (top 118) 6), [], []⟩
def bkR : He.DefD := ⟨("Book", some "known_row"), "known_row", "Book.known_row", defArgs (inClass (top 118) 5), defBody (inClass (top 118) 5), defScope (inClass (top 118) 5), [], []⟩
def bkU : He.DefD := ⟨("Book", some "used"), "used", "Book.used", defArgs (inClass (top 118) 8), defBody (inClass (top 118) 8), defScope (inClass (top 118) 8), [], []⟩
def bkB : He.DefD := ⟨("Book", some "back"), "back", "Book.back", defArgs (inClass (top 118) 9), defBody (inClass (top 118) 9), defScope (inClass (top 118) 9), [], []⟩
def md : Md0 := ⟨gc, [d_f_is_within, d_f_points_of, d_f_is_step, d_f_count, d_f_is_plan, d_f_look, d_f_look_point, d_f_many_numbers, d_f_needed, d_f_depends_on, d_f_look_numbers, d_f_drawn, d_f_whole, d_f_single, d_f_added, d_f_scaled, d_f_lessened, d_f_multiplied, d_f_area, d_f_far_sum, d_f_is_claim, d_f_look_claim, d_f_squares_of, d_f_sum_of, d_f_over_of, d_f_product, d_f_way_to, d_f_crossed, d_f_part_way, d_f_place_of, d_f_free_place, d_f_sign_at, d_f_below_of, d_f_sum_at, d_f_places_of, d_f_is_so, d_f_judged, d_f_counter, d_f_with_row, d_f_number_of, d_f_thing_of, d_f_read, d_f_known, d_f_paper, d_g_cell, d_g_refused_by, d_f_law], "PlanError", [("BadPoint", "point", di_BadPoint), ("Falls", "step", di_Falls), ("BadName", "name", di_BadName)], [bkI, bkP, bkK, bkR, bkU, bkB]⟩
theorem bi_BadPoint (kV doc pm : Value) (an : Option Addr) (cdv ct : Value) : ∀ (us : List Value), us.length = 2 → bindArgs (PySem.W.fnOf di_BadPoint.name di_BadPoint.qual di_BadPoint.params di_BadPoint.body di_BadPoint.scope .none kV doc pm an cdv ct) ⟨us, []⟩ = pure ([("self" : PySem.Str), "point"].zip us)
  | [], h => nomatch h
  | [_], h => nomatch h
  | [_, _], _ => rfl
  | _ :: _ :: _ :: _, h => by simp at h
theorem oi_BadPoint : IniOk gc "PlanError" ("BadPoint", "point", di_BadPoint) := ⟨rfl, rfl, ⟨rfl, rfl, rfl, by decide +kernel, rfl, by decide +kernel, by decide +kernel⟩, by decide +kernel, by decide +kernel, bi_BadPoint, by decide +kernel⟩
theorem bi_Falls (kV doc pm : Value) (an : Option Addr) (cdv ct : Value) : ∀ (us : List Value), us.length = 2 → bindArgs (PySem.W.fnOf di_Falls.name di_Falls.qual di_Falls.params di_Falls.body di_Falls.scope .none kV doc pm an cdv ct) ⟨us, []⟩ = pure ([("self" : PySem.Str), "step"].zip us)
  | [], h => nomatch h
  | [_], h => nomatch h
  | [_, _], _ => rfl
  | _ :: _ :: _ :: _, h => by simp at h
theorem oi_Falls : IniOk gc "PlanError" ("Falls", "step", di_Falls) := ⟨rfl, rfl, ⟨rfl, rfl, rfl, by decide +kernel, rfl, by decide +kernel, by decide +kernel⟩, by decide +kernel, by decide +kernel, bi_Falls, by decide +kernel⟩
theorem bi_BadName (kV doc pm : Value) (an : Option Addr) (cdv ct : Value) : ∀ (us : List Value), us.length = 2 → bindArgs (PySem.W.fnOf di_BadName.name di_BadName.qual di_BadName.params di_BadName.body di_BadName.scope .none kV doc pm an cdv ct) ⟨us, []⟩ = pure ([("self" : PySem.Str), "name"].zip us)
  | [], h => nomatch h
  | [_], h => nomatch h
  | [_, _], _ => rfl
  | _ :: _ :: _ :: _, h => by simp at h
theorem oi_BadName : IniOk gc "PlanError" ("BadName", "name", di_BadName) := ⟨rfl, rfl, ⟨rfl, rfl, rfl, by decide +kernel, rfl, by decide +kernel, by decide +kernel⟩, by decide +kernel, by decide +kernel, bi_BadName, by decide +kernel⟩
theorem allI : ∀ q ∈ md.ini, IniOk md.g md.px q := by
  intro q hq
  have hq : q ∈ ([("BadPoint", "point", di_BadPoint), ("Falls", "step", di_Falls), ("BadName", "name", di_BadName)] : List (PySem.Str × PySem.Str × He.DefD)) := hq
  simp only [List.mem_cons, List.not_mem_nil, or_false] at hq
  rcases hq with rfl | rfl | rfl
  · exact oi_BadPoint
  · exact oi_Falls
  · exact oi_BadName
theorem s_f_is_within : FnScope i_f_is_within.N i_f_is_within.ps d_f_is_within.scope := ⟨rfl, rfl, rfl, by decide +kernel, rfl, by decide +kernel, by decide +kernel⟩
theorem c_f_is_within : chkSs { gc with N := i_f_is_within.N, calm := true } d_f_is_within.scope i_f_is_within.body d_f_is_within.body = true := by decide +kernel
theorem b_f_is_within (kV doc pm : Value) (an : Option Addr) (cdv ct : Value) : ∀ (us : List Value), us.length = i_f_is_within.ps.length → bindArgs (PySem.W.fnOf d_f_is_within.name d_f_is_within.qual d_f_is_within.params d_f_is_within.body d_f_is_within.scope .none kV doc pm an cdv ct) ⟨us, []⟩ = pure (i_f_is_within.ps.zip us)
  | [], h => nomatch h
  | [_], h => nomatch h
  | [_, _], h => nomatch h
  | [_, _, _], _ => rfl
  | _ :: _ :: _ :: _ :: _, h => by simp [i_f_is_within] at h
theorem o_f_is_within : DefOk gc i_f_is_within d_f_is_within := ⟨rfl, rfl, rfl, s_f_is_within, bd0 rfl rfl b_f_is_within, c_f_is_within, fun kn h => (by have q : gc.kw.lookup i_f_is_within.name = none := (by decide +kernel); rw [q] at h; cases h)⟩
theorem s_f_points_of : FnScope i_f_points_of.N i_f_points_of.ps d_f_points_of.scope := ⟨rfl, rfl, rfl, by decide +kernel, rfl, by decide +kernel, by decide +kernel⟩
theorem c_f_points_of : chkSs { gc with N := i_f_points_of.N, calm := true } d_f_points_of.scope i_f_points_of.body d_f_points_of.body = true := by decide +kernel
theorem b_f_points_of (kV doc pm : Value) (an : Option Addr) (cdv ct : Value) : ∀ (us : List Value), us.length = i_f_points_of.ps.length → bindArgs (PySem.W.fnOf d_f_points_of.name d_f_points_of.qual d_f_points_of.params d_f_points_of.body d_f_points_of.scope .none kV doc pm an cdv ct) ⟨us, []⟩ = pure (i_f_points_of.ps.zip us)
  | [], h => nomatch h
  | [_], _ => rfl
  | _ :: _ :: _, h => by simp [i_f_points_of] at h
theorem o_f_points_of : DefOk gc i_f_points_of d_f_points_of := ⟨rfl, rfl, rfl, s_f_points_of, bd0 rfl rfl b_f_points_of, c_f_points_of, fun kn h => (by have q : gc.kw.lookup i_f_points_of.name = none := (by decide +kernel); rw [q] at h; cases h)⟩
theorem s_f_is_step : FnScope i_f_is_step.N i_f_is_step.ps d_f_is_step.scope := ⟨rfl, rfl, rfl, by decide +kernel, rfl, by decide +kernel, by decide +kernel⟩
theorem c_f_is_step : chkSs { gc with N := i_f_is_step.N, calm := true } d_f_is_step.scope i_f_is_step.body d_f_is_step.body = true := by decide +kernel
theorem b_f_is_step (kV doc pm : Value) (an : Option Addr) (cdv ct : Value) : ∀ (us : List Value), us.length = i_f_is_step.ps.length → bindArgs (PySem.W.fnOf d_f_is_step.name d_f_is_step.qual d_f_is_step.params d_f_is_step.body d_f_is_step.scope .none kV doc pm an cdv ct) ⟨us, []⟩ = pure (i_f_is_step.ps.zip us)
  | [], h => nomatch h
  | [_], h => nomatch h
  | [_, _], _ => rfl
  | _ :: _ :: _ :: _, h => by simp [i_f_is_step] at h
theorem o_f_is_step : DefOk gc i_f_is_step d_f_is_step := ⟨rfl, rfl, rfl, s_f_is_step, bd0 rfl rfl b_f_is_step, c_f_is_step, fun kn h => (by have q : gc.kw.lookup i_f_is_step.name = none := (by decide +kernel); rw [q] at h; cases h)⟩
theorem s_f_count : FnScope i_f_count.N i_f_count.ps d_f_count.scope := ⟨rfl, rfl, rfl, by decide +kernel, rfl, by decide +kernel, by decide +kernel⟩
theorem c_f_count : chkSs { gc with N := i_f_count.N, calm := true } d_f_count.scope i_f_count.body d_f_count.body = true := by decide +kernel
theorem b_f_count (kV doc pm : Value) (an : Option Addr) (cdv ct : Value) : ∀ (us : List Value), us.length = i_f_count.ps.length → bindArgs (PySem.W.fnOf d_f_count.name d_f_count.qual d_f_count.params d_f_count.body d_f_count.scope .none kV doc pm an cdv ct) ⟨us, []⟩ = pure (i_f_count.ps.zip us)
  | [], h => nomatch h
  | [_], h => nomatch h
  | [_, _], _ => rfl
  | _ :: _ :: _ :: _, h => by simp [i_f_count] at h
theorem o_f_count : DefOk gc i_f_count d_f_count := ⟨rfl, rfl, rfl, s_f_count, bd0 rfl rfl b_f_count, c_f_count, fun kn h => (by have q : gc.kw.lookup i_f_count.name = none := (by decide +kernel); rw [q] at h; cases h)⟩
theorem s_f_is_plan : FnScope i_f_is_plan.N i_f_is_plan.ps d_f_is_plan.scope := ⟨rfl, rfl, rfl, by decide +kernel, rfl, by decide +kernel, by decide +kernel⟩
theorem c_f_is_plan : chkSs { gc with N := i_f_is_plan.N, calm := true } d_f_is_plan.scope i_f_is_plan.body d_f_is_plan.body = true := by decide +kernel
theorem b_f_is_plan (kV doc pm : Value) (an : Option Addr) (cdv ct : Value) : ∀ (us : List Value), us.length = i_f_is_plan.ps.length → bindArgs (PySem.W.fnOf d_f_is_plan.name d_f_is_plan.qual d_f_is_plan.params d_f_is_plan.body d_f_is_plan.scope .none kV doc pm an cdv ct) ⟨us, []⟩ = pure (i_f_is_plan.ps.zip us)
  | [], h => nomatch h
  | [_], _ => rfl
  | _ :: _ :: _, h => by simp [i_f_is_plan] at h
theorem o_f_is_plan : DefOk gc i_f_is_plan d_f_is_plan := ⟨rfl, rfl, rfl, s_f_is_plan, bd0 rfl rfl b_f_is_plan, c_f_is_plan, fun kn h => (by have q : gc.kw.lookup i_f_is_plan.name = none := (by decide +kernel); rw [q] at h; cases h)⟩
theorem s_f_look : FnScope i_f_look.N i_f_look.ps d_f_look.scope := ⟨rfl, rfl, rfl, by decide +kernel, rfl, by decide +kernel, by decide +kernel⟩
theorem c_f_look : chkSs { gc with N := i_f_look.N, calm := true } d_f_look.scope i_f_look.body d_f_look.body = true := by decide +kernel
theorem b_f_look (kV doc pm : Value) (an : Option Addr) (cdv ct : Value) : ∀ (us : List Value), us.length = i_f_look.ps.length → bindArgs (PySem.W.fnOf d_f_look.name d_f_look.qual d_f_look.params d_f_look.body d_f_look.scope .none kV doc pm an cdv ct) ⟨us, []⟩ = pure (i_f_look.ps.zip us)
  | [], h => nomatch h
  | [_], _ => rfl
  | _ :: _ :: _, h => by simp [i_f_look] at h
theorem o_f_look : DefOk gc i_f_look d_f_look := ⟨rfl, rfl, rfl, s_f_look, bd0 rfl rfl b_f_look, c_f_look, fun kn h => (by have q : gc.kw.lookup i_f_look.name = none := (by decide +kernel); rw [q] at h; cases h)⟩
theorem s_f_look_point : FnScope i_f_look_point.N i_f_look_point.ps d_f_look_point.scope := ⟨rfl, rfl, rfl, by decide +kernel, rfl, by decide +kernel, by decide +kernel⟩
theorem c_f_look_point : chkSs { gc with N := i_f_look_point.N, calm := true } d_f_look_point.scope i_f_look_point.body d_f_look_point.body = true := by decide +kernel
theorem b_f_look_point (kV doc pm : Value) (an : Option Addr) (cdv ct : Value) : ∀ (us : List Value), us.length = i_f_look_point.ps.length → bindArgs (PySem.W.fnOf d_f_look_point.name d_f_look_point.qual d_f_look_point.params d_f_look_point.body d_f_look_point.scope .none kV doc pm an cdv ct) ⟨us, []⟩ = pure (i_f_look_point.ps.zip us)
  | [], h => nomatch h
  | [_], h => nomatch h
  | [_, _], _ => rfl
  | _ :: _ :: _ :: _, h => by simp [i_f_look_point] at h
theorem o_f_look_point : DefOk gc i_f_look_point d_f_look_point := ⟨rfl, rfl, rfl, s_f_look_point, bd0 rfl rfl b_f_look_point, c_f_look_point, fun kn h => (by have q : gc.kw.lookup i_f_look_point.name = none := (by decide +kernel); rw [q] at h; cases h)⟩
theorem s_f_many_numbers : FnScope i_f_many_numbers.N i_f_many_numbers.ps d_f_many_numbers.scope := ⟨rfl, rfl, rfl, by decide +kernel, rfl, by decide +kernel, by decide +kernel⟩
theorem c_f_many_numbers : chkSs { gc with N := i_f_many_numbers.N, calm := true } d_f_many_numbers.scope i_f_many_numbers.body d_f_many_numbers.body = true := by decide +kernel
theorem b_f_many_numbers (kV doc pm : Value) (an : Option Addr) (cdv ct : Value) : ∀ (us : List Value), us.length = i_f_many_numbers.ps.length → bindArgs (PySem.W.fnOf d_f_many_numbers.name d_f_many_numbers.qual d_f_many_numbers.params d_f_many_numbers.body d_f_many_numbers.scope .none kV doc pm an cdv ct) ⟨us, []⟩ = pure (i_f_many_numbers.ps.zip us)
  | [], h => nomatch h
  | [_], _ => rfl
  | _ :: _ :: _, h => by simp [i_f_many_numbers] at h
theorem o_f_many_numbers : DefOk gc i_f_many_numbers d_f_many_numbers := ⟨rfl, rfl, rfl, s_f_many_numbers, bd0 rfl rfl b_f_many_numbers, c_f_many_numbers, fun kn h => (by have q : gc.kw.lookup i_f_many_numbers.name = none := (by decide +kernel); rw [q] at h; cases h)⟩
theorem s_f_needed : FnScope i_f_needed.N i_f_needed.ps d_f_needed.scope := ⟨rfl, rfl, rfl, by decide +kernel, rfl, by decide +kernel, by decide +kernel⟩
theorem c_f_needed : chkSs { gc with N := i_f_needed.N, calm := true } d_f_needed.scope i_f_needed.body d_f_needed.body = true := by decide +kernel
theorem b_f_needed (kV doc pm : Value) (an : Option Addr) (cdv ct : Value) : ∀ (us : List Value), us.length = i_f_needed.ps.length → bindArgs (PySem.W.fnOf d_f_needed.name d_f_needed.qual d_f_needed.params d_f_needed.body d_f_needed.scope .none kV doc pm an cdv ct) ⟨us, []⟩ = pure (i_f_needed.ps.zip us)
  | [], h => nomatch h
  | [_], _ => rfl
  | _ :: _ :: _, h => by simp [i_f_needed] at h
theorem o_f_needed : DefOk gc i_f_needed d_f_needed := ⟨rfl, rfl, rfl, s_f_needed, bd0 rfl rfl b_f_needed, c_f_needed, fun kn h => (by have q : gc.kw.lookup i_f_needed.name = none := (by decide +kernel); rw [q] at h; cases h)⟩
theorem s_f_depends_on : FnScope i_f_depends_on.N i_f_depends_on.ps d_f_depends_on.scope := ⟨rfl, rfl, rfl, by decide +kernel, rfl, by decide +kernel, by decide +kernel⟩
theorem c_f_depends_on : chkSs { gc with N := i_f_depends_on.N, calm := true } d_f_depends_on.scope i_f_depends_on.body d_f_depends_on.body = true := by decide +kernel
theorem b_f_depends_on (kV doc pm : Value) (an : Option Addr) (cdv ct : Value) : ∀ (us : List Value), us.length = i_f_depends_on.ps.length → bindArgs (PySem.W.fnOf d_f_depends_on.name d_f_depends_on.qual d_f_depends_on.params d_f_depends_on.body d_f_depends_on.scope .none kV doc pm an cdv ct) ⟨us, []⟩ = pure (i_f_depends_on.ps.zip us)
  | [], h => nomatch h
  | [_], h => nomatch h
  | [_, _], _ => rfl
  | _ :: _ :: _ :: _, h => by simp [i_f_depends_on] at h
theorem o_f_depends_on : DefOk gc i_f_depends_on d_f_depends_on := ⟨rfl, rfl, rfl, s_f_depends_on, bd0 rfl rfl b_f_depends_on, c_f_depends_on, fun kn h => (by have q : gc.kw.lookup i_f_depends_on.name = none := (by decide +kernel); rw [q] at h; cases h)⟩
theorem s_f_look_numbers : FnScope i_f_look_numbers.N i_f_look_numbers.ps d_f_look_numbers.scope := ⟨rfl, rfl, rfl, by decide +kernel, rfl, by decide +kernel, by decide +kernel⟩
theorem c_f_look_numbers : chkSs { gc with N := i_f_look_numbers.N, calm := true } d_f_look_numbers.scope i_f_look_numbers.body d_f_look_numbers.body = true := by decide +kernel
theorem b_f_look_numbers (kV doc pm : Value) (an : Option Addr) (cdv ct : Value) : ∀ (us : List Value), us.length = i_f_look_numbers.ps.length → bindArgs (PySem.W.fnOf d_f_look_numbers.name d_f_look_numbers.qual d_f_look_numbers.params d_f_look_numbers.body d_f_look_numbers.scope .none kV doc pm an cdv ct) ⟨us, []⟩ = pure (i_f_look_numbers.ps.zip us)
  | [], h => nomatch h
  | [_], h => nomatch h
  | [_, _], _ => rfl
  | _ :: _ :: _ :: _, h => by simp [i_f_look_numbers] at h
theorem o_f_look_numbers : DefOk gc i_f_look_numbers d_f_look_numbers := ⟨rfl, rfl, rfl, s_f_look_numbers, bd0 rfl rfl b_f_look_numbers, c_f_look_numbers, fun kn h => (by have q : gc.kw.lookup i_f_look_numbers.name = none := (by decide +kernel); rw [q] at h; cases h)⟩
theorem s_f_drawn : FnScope i_f_drawn.N i_f_drawn.ps d_f_drawn.scope := ⟨rfl, rfl, rfl, by decide +kernel, rfl, by decide +kernel, by decide +kernel⟩
theorem c_f_drawn : chkSs { gc with N := i_f_drawn.N, calm := true } d_f_drawn.scope i_f_drawn.body d_f_drawn.body = true := by decide +kernel
theorem b_f_drawn (kV doc pm : Value) (an : Option Addr) (cdv ct : Value) : ∀ (us : List Value), us.length = i_f_drawn.ps.length → bindArgs (PySem.W.fnOf d_f_drawn.name d_f_drawn.qual d_f_drawn.params d_f_drawn.body d_f_drawn.scope .none kV doc pm an cdv ct) ⟨us, []⟩ = pure (i_f_drawn.ps.zip us)
  | [], h => nomatch h
  | [_], h => nomatch h
  | [_, _], _ => rfl
  | _ :: _ :: _ :: _, h => by simp [i_f_drawn] at h
theorem o_f_drawn : DefOk gc i_f_drawn d_f_drawn := ⟨rfl, rfl, rfl, s_f_drawn, bd0 rfl rfl b_f_drawn, c_f_drawn, fun kn h => (by have q : gc.kw.lookup i_f_drawn.name = none := (by decide +kernel); rw [q] at h; cases h)⟩
theorem s_f_whole : FnScope i_f_whole.N i_f_whole.ps d_f_whole.scope := ⟨rfl, rfl, rfl, by decide +kernel, rfl, by decide +kernel, by decide +kernel⟩
theorem c_f_whole : chkSs { gc with N := i_f_whole.N, calm := true } d_f_whole.scope i_f_whole.body d_f_whole.body = true := by decide +kernel
theorem b_f_whole (kV doc pm : Value) (an : Option Addr) (cdv ct : Value) : ∀ (us : List Value), us.length = i_f_whole.ps.length → bindArgs (PySem.W.fnOf d_f_whole.name d_f_whole.qual d_f_whole.params d_f_whole.body d_f_whole.scope .none kV doc pm an cdv ct) ⟨us, []⟩ = pure (i_f_whole.ps.zip us)
  | [], h => nomatch h
  | [_], _ => rfl
  | _ :: _ :: _, h => by simp [i_f_whole] at h
theorem o_f_whole : DefOk gc i_f_whole d_f_whole := ⟨rfl, rfl, rfl, s_f_whole, bd0 rfl rfl b_f_whole, c_f_whole, fun kn h => (by have q : gc.kw.lookup i_f_whole.name = none := (by decide +kernel); rw [q] at h; cases h)⟩
theorem s_f_single : FnScope i_f_single.N i_f_single.ps d_f_single.scope := ⟨rfl, rfl, rfl, by decide +kernel, rfl, by decide +kernel, by decide +kernel⟩
theorem c_f_single : chkSs { gc with N := i_f_single.N, calm := true } d_f_single.scope i_f_single.body d_f_single.body = true := by decide +kernel
theorem b_f_single (kV doc pm : Value) (an : Option Addr) (cdv ct : Value) : ∀ (us : List Value), us.length = i_f_single.ps.length → bindArgs (PySem.W.fnOf d_f_single.name d_f_single.qual d_f_single.params d_f_single.body d_f_single.scope .none kV doc pm an cdv ct) ⟨us, []⟩ = pure (i_f_single.ps.zip us)
  | [], h => nomatch h
  | [_], _ => rfl
  | _ :: _ :: _, h => by simp [i_f_single] at h
theorem o_f_single : DefOk gc i_f_single d_f_single := ⟨rfl, rfl, rfl, s_f_single, bd0 rfl rfl b_f_single, c_f_single, fun kn h => (by have q : gc.kw.lookup i_f_single.name = none := (by decide +kernel); rw [q] at h; cases h)⟩
theorem s_f_added : FnScope i_f_added.N i_f_added.ps d_f_added.scope := ⟨rfl, rfl, rfl, by decide +kernel, rfl, by decide +kernel, by decide +kernel⟩
theorem c_f_added : chkSs { gc with N := i_f_added.N, calm := true } d_f_added.scope i_f_added.body d_f_added.body = true := by decide +kernel
theorem b_f_added (kV doc pm : Value) (an : Option Addr) (cdv ct : Value) : ∀ (us : List Value), us.length = i_f_added.ps.length → bindArgs (PySem.W.fnOf d_f_added.name d_f_added.qual d_f_added.params d_f_added.body d_f_added.scope .none kV doc pm an cdv ct) ⟨us, []⟩ = pure (i_f_added.ps.zip us)
  | [], h => nomatch h
  | [_], h => nomatch h
  | [_, _], _ => rfl
  | _ :: _ :: _ :: _, h => by simp [i_f_added] at h
theorem o_f_added : DefOk gc i_f_added d_f_added := ⟨rfl, rfl, rfl, s_f_added, bd0 rfl rfl b_f_added, c_f_added, fun kn h => (by have q : gc.kw.lookup i_f_added.name = none := (by decide +kernel); rw [q] at h; cases h)⟩
theorem s_f_scaled : FnScope i_f_scaled.N i_f_scaled.ps d_f_scaled.scope := ⟨rfl, rfl, rfl, by decide +kernel, rfl, by decide +kernel, by decide +kernel⟩
theorem c_f_scaled : chkSs { gc with N := i_f_scaled.N, calm := true } d_f_scaled.scope i_f_scaled.body d_f_scaled.body = true := by decide +kernel
theorem b_f_scaled (kV doc pm : Value) (an : Option Addr) (cdv ct : Value) : ∀ (us : List Value), us.length = i_f_scaled.ps.length → bindArgs (PySem.W.fnOf d_f_scaled.name d_f_scaled.qual d_f_scaled.params d_f_scaled.body d_f_scaled.scope .none kV doc pm an cdv ct) ⟨us, []⟩ = pure (i_f_scaled.ps.zip us)
  | [], h => nomatch h
  | [_], h => nomatch h
  | [_, _], _ => rfl
  | _ :: _ :: _ :: _, h => by simp [i_f_scaled] at h
theorem o_f_scaled : DefOk gc i_f_scaled d_f_scaled := ⟨rfl, rfl, rfl, s_f_scaled, bd0 rfl rfl b_f_scaled, c_f_scaled, fun kn h => (by have q : gc.kw.lookup i_f_scaled.name = none := (by decide +kernel); rw [q] at h; cases h)⟩
theorem s_f_lessened : FnScope i_f_lessened.N i_f_lessened.ps d_f_lessened.scope := ⟨rfl, rfl, rfl, by decide +kernel, rfl, by decide +kernel, by decide +kernel⟩
theorem c_f_lessened : chkSs { gc with N := i_f_lessened.N, calm := true } d_f_lessened.scope i_f_lessened.body d_f_lessened.body = true := by decide +kernel
theorem b_f_lessened (kV doc pm : Value) (an : Option Addr) (cdv ct : Value) : ∀ (us : List Value), us.length = i_f_lessened.ps.length → bindArgs (PySem.W.fnOf d_f_lessened.name d_f_lessened.qual d_f_lessened.params d_f_lessened.body d_f_lessened.scope .none kV doc pm an cdv ct) ⟨us, []⟩ = pure (i_f_lessened.ps.zip us)
  | [], h => nomatch h
  | [_], h => nomatch h
  | [_, _], _ => rfl
  | _ :: _ :: _ :: _, h => by simp [i_f_lessened] at h
theorem o_f_lessened : DefOk gc i_f_lessened d_f_lessened := ⟨rfl, rfl, rfl, s_f_lessened, bd0 rfl rfl b_f_lessened, c_f_lessened, fun kn h => (by have q : gc.kw.lookup i_f_lessened.name = none := (by decide +kernel); rw [q] at h; cases h)⟩
theorem s_f_multiplied : FnScope i_f_multiplied.N i_f_multiplied.ps d_f_multiplied.scope := ⟨rfl, rfl, rfl, by decide +kernel, rfl, by decide +kernel, by decide +kernel⟩
theorem c_f_multiplied : chkSs { gc with N := i_f_multiplied.N, calm := true } d_f_multiplied.scope i_f_multiplied.body d_f_multiplied.body = true := by decide +kernel
theorem b_f_multiplied (kV doc pm : Value) (an : Option Addr) (cdv ct : Value) : ∀ (us : List Value), us.length = i_f_multiplied.ps.length → bindArgs (PySem.W.fnOf d_f_multiplied.name d_f_multiplied.qual d_f_multiplied.params d_f_multiplied.body d_f_multiplied.scope .none kV doc pm an cdv ct) ⟨us, []⟩ = pure (i_f_multiplied.ps.zip us)
  | [], h => nomatch h
  | [_], h => nomatch h
  | [_, _], _ => rfl
  | _ :: _ :: _ :: _, h => by simp [i_f_multiplied] at h
theorem o_f_multiplied : DefOk gc i_f_multiplied d_f_multiplied := ⟨rfl, rfl, rfl, s_f_multiplied, bd0 rfl rfl b_f_multiplied, c_f_multiplied, fun kn h => (by have q : gc.kw.lookup i_f_multiplied.name = none := (by decide +kernel); rw [q] at h; cases h)⟩
theorem s_f_area : FnScope i_f_area.N i_f_area.ps d_f_area.scope := ⟨rfl, rfl, rfl, by decide +kernel, rfl, by decide +kernel, by decide +kernel⟩
theorem c_f_area : chkSs { gc with N := i_f_area.N, calm := true } d_f_area.scope i_f_area.body d_f_area.body = true := by decide +kernel
theorem b_f_area (kV doc pm : Value) (an : Option Addr) (cdv ct : Value) : ∀ (us : List Value), us.length = i_f_area.ps.length → bindArgs (PySem.W.fnOf d_f_area.name d_f_area.qual d_f_area.params d_f_area.body d_f_area.scope .none kV doc pm an cdv ct) ⟨us, []⟩ = pure (i_f_area.ps.zip us)
  | [], h => nomatch h
  | [_], h => nomatch h
  | [_, _], h => nomatch h
  | [_, _, _], _ => rfl
  | _ :: _ :: _ :: _ :: _, h => by simp [i_f_area] at h
theorem o_f_area : DefOk gc i_f_area d_f_area := ⟨rfl, rfl, rfl, s_f_area, bd0 rfl rfl b_f_area, c_f_area, fun kn h => (by have q : gc.kw.lookup i_f_area.name = none := (by decide +kernel); rw [q] at h; cases h)⟩
theorem s_f_far_sum : FnScope i_f_far_sum.N i_f_far_sum.ps d_f_far_sum.scope := ⟨rfl, rfl, rfl, by decide +kernel, rfl, by decide +kernel, by decide +kernel⟩
theorem c_f_far_sum : chkSs { gc with N := i_f_far_sum.N, calm := true } d_f_far_sum.scope i_f_far_sum.body d_f_far_sum.body = true := by decide +kernel
theorem b_f_far_sum (kV doc pm : Value) (an : Option Addr) (cdv ct : Value) : ∀ (us : List Value), us.length = i_f_far_sum.ps.length → bindArgs (PySem.W.fnOf d_f_far_sum.name d_f_far_sum.qual d_f_far_sum.params d_f_far_sum.body d_f_far_sum.scope .none kV doc pm an cdv ct) ⟨us, []⟩ = pure (i_f_far_sum.ps.zip us)
  | [], h => nomatch h
  | [_], h => nomatch h
  | [_, _], _ => rfl
  | _ :: _ :: _ :: _, h => by simp [i_f_far_sum] at h
theorem o_f_far_sum : DefOk gc i_f_far_sum d_f_far_sum := ⟨rfl, rfl, rfl, s_f_far_sum, bd0 rfl rfl b_f_far_sum, c_f_far_sum, fun kn h => (by have q : gc.kw.lookup i_f_far_sum.name = none := (by decide +kernel); rw [q] at h; cases h)⟩
theorem s_f_is_claim : FnScope i_f_is_claim.N i_f_is_claim.ps d_f_is_claim.scope := ⟨rfl, rfl, rfl, by decide +kernel, rfl, by decide +kernel, by decide +kernel⟩
theorem c_f_is_claim : chkSs { gc with N := i_f_is_claim.N, calm := true } d_f_is_claim.scope i_f_is_claim.body d_f_is_claim.body = true := by decide +kernel
theorem b_f_is_claim (kV doc pm : Value) (an : Option Addr) (cdv ct : Value) : ∀ (us : List Value), us.length = i_f_is_claim.ps.length → bindArgs (PySem.W.fnOf d_f_is_claim.name d_f_is_claim.qual d_f_is_claim.params d_f_is_claim.body d_f_is_claim.scope .none kV doc pm an cdv ct) ⟨us, []⟩ = pure (i_f_is_claim.ps.zip us)
  | [], h => nomatch h
  | [_], h => nomatch h
  | [_, _], _ => rfl
  | _ :: _ :: _ :: _, h => by simp [i_f_is_claim] at h
theorem o_f_is_claim : DefOk gc i_f_is_claim d_f_is_claim := ⟨rfl, rfl, rfl, s_f_is_claim, bd0 rfl rfl b_f_is_claim, c_f_is_claim, fun kn h => (by have q : gc.kw.lookup i_f_is_claim.name = none := (by decide +kernel); rw [q] at h; cases h)⟩
theorem s_f_look_claim : FnScope i_f_look_claim.N i_f_look_claim.ps d_f_look_claim.scope := ⟨rfl, rfl, rfl, by decide +kernel, rfl, by decide +kernel, by decide +kernel⟩
theorem c_f_look_claim : chkSs { gc with N := i_f_look_claim.N, calm := true } d_f_look_claim.scope i_f_look_claim.body d_f_look_claim.body = true := by decide +kernel
theorem b_f_look_claim (kV doc pm : Value) (an : Option Addr) (cdv ct : Value) : ∀ (us : List Value), us.length = i_f_look_claim.ps.length → bindArgs (PySem.W.fnOf d_f_look_claim.name d_f_look_claim.qual d_f_look_claim.params d_f_look_claim.body d_f_look_claim.scope .none kV doc pm an cdv ct) ⟨us, []⟩ = pure (i_f_look_claim.ps.zip us)
  | [], h => nomatch h
  | [_], h => nomatch h
  | [_, _], _ => rfl
  | _ :: _ :: _ :: _, h => by simp [i_f_look_claim] at h
theorem o_f_look_claim : DefOk gc i_f_look_claim d_f_look_claim := ⟨rfl, rfl, rfl, s_f_look_claim, bd0 rfl rfl b_f_look_claim, c_f_look_claim, fun kn h => (by have q : gc.kw.lookup i_f_look_claim.name = none := (by decide +kernel); rw [q] at h; cases h)⟩
theorem s_f_squares_of : FnScope i_f_squares_of.N i_f_squares_of.ps d_f_squares_of.scope := ⟨rfl, rfl, rfl, by decide +kernel, rfl, by decide +kernel, by decide +kernel⟩
theorem c_f_squares_of : chkSs { gc with N := i_f_squares_of.N, calm := true } d_f_squares_of.scope i_f_squares_of.body d_f_squares_of.body = true := by decide +kernel
theorem b_f_squares_of (kV doc pm : Value) (an : Option Addr) (cdv ct : Value) : ∀ (us : List Value), us.length = i_f_squares_of.ps.length → bindArgs (PySem.W.fnOf d_f_squares_of.name d_f_squares_of.qual d_f_squares_of.params d_f_squares_of.body d_f_squares_of.scope .none kV doc pm an cdv ct) ⟨us, []⟩ = pure (i_f_squares_of.ps.zip us)
  | [], h => nomatch h
  | [_], h => nomatch h
  | [_, _], _ => rfl
  | _ :: _ :: _ :: _, h => by simp [i_f_squares_of] at h
theorem o_f_squares_of : DefOk gc i_f_squares_of d_f_squares_of := ⟨rfl, rfl, rfl, s_f_squares_of, bd0 rfl rfl b_f_squares_of, c_f_squares_of, fun kn h => (by have q : gc.kw.lookup i_f_squares_of.name = none := (by decide +kernel); rw [q] at h; cases h)⟩
theorem s_f_sum_of : FnScope i_f_sum_of.N i_f_sum_of.ps d_f_sum_of.scope := ⟨rfl, rfl, rfl, by decide +kernel, rfl, by decide +kernel, by decide +kernel⟩
theorem c_f_sum_of : chkSs { gc with N := i_f_sum_of.N, calm := true } d_f_sum_of.scope i_f_sum_of.body d_f_sum_of.body = true := by decide +kernel
theorem b_f_sum_of (kV doc pm : Value) (an : Option Addr) (cdv ct : Value) : ∀ (us : List Value), us.length = i_f_sum_of.ps.length → bindArgs (PySem.W.fnOf d_f_sum_of.name d_f_sum_of.qual d_f_sum_of.params d_f_sum_of.body d_f_sum_of.scope .none kV doc pm an cdv ct) ⟨us, []⟩ = pure (i_f_sum_of.ps.zip us)
  | [], h => nomatch h
  | [_], _ => rfl
  | _ :: _ :: _, h => by simp [i_f_sum_of] at h
theorem o_f_sum_of : DefOk gc i_f_sum_of d_f_sum_of := ⟨rfl, rfl, rfl, s_f_sum_of, bd0 rfl rfl b_f_sum_of, c_f_sum_of, fun kn h => (by have q : gc.kw.lookup i_f_sum_of.name = none := (by decide +kernel); rw [q] at h; cases h)⟩
theorem s_f_over_of : FnScope i_f_over_of.N i_f_over_of.ps d_f_over_of.scope := ⟨rfl, rfl, rfl, by decide +kernel, rfl, by decide +kernel, by decide +kernel⟩
theorem c_f_over_of : chkSs { gc with N := i_f_over_of.N, calm := true } d_f_over_of.scope i_f_over_of.body d_f_over_of.body = true := by decide +kernel
theorem b_f_over_of (kV doc pm : Value) (an : Option Addr) (cdv ct : Value) : ∀ (us : List Value), us.length = i_f_over_of.ps.length → bindArgs (PySem.W.fnOf d_f_over_of.name d_f_over_of.qual d_f_over_of.params d_f_over_of.body d_f_over_of.scope .none kV doc pm an cdv ct) ⟨us, []⟩ = pure (i_f_over_of.ps.zip us)
  | [], h => nomatch h
  | [_], _ => rfl
  | _ :: _ :: _, h => by simp [i_f_over_of] at h
theorem o_f_over_of : DefOk gc i_f_over_of d_f_over_of := ⟨rfl, rfl, rfl, s_f_over_of, bd0 rfl rfl b_f_over_of, c_f_over_of, fun kn h => (by have q : gc.kw.lookup i_f_over_of.name = none := (by decide +kernel); rw [q] at h; cases h)⟩
theorem s_f_product : FnScope i_f_product.N i_f_product.ps d_f_product.scope := ⟨rfl, rfl, rfl, by decide +kernel, rfl, by decide +kernel, by decide +kernel⟩
theorem c_f_product : chkSs { gc with N := i_f_product.N, calm := true } d_f_product.scope i_f_product.body d_f_product.body = true := by decide +kernel
theorem b_f_product (kV doc pm : Value) (an : Option Addr) (cdv ct : Value) : ∀ (us : List Value), us.length = i_f_product.ps.length → bindArgs (PySem.W.fnOf d_f_product.name d_f_product.qual d_f_product.params d_f_product.body d_f_product.scope .none kV doc pm an cdv ct) ⟨us, []⟩ = pure (i_f_product.ps.zip us)
  | [], h => nomatch h
  | [_], _ => rfl
  | _ :: _ :: _, h => by simp [i_f_product] at h
theorem o_f_product : DefOk gc i_f_product d_f_product := ⟨rfl, rfl, rfl, s_f_product, bd0 rfl rfl b_f_product, c_f_product, fun kn h => (by have q : gc.kw.lookup i_f_product.name = none := (by decide +kernel); rw [q] at h; cases h)⟩
theorem s_f_way_to : FnScope i_f_way_to.N i_f_way_to.ps d_f_way_to.scope := ⟨rfl, rfl, rfl, by decide +kernel, rfl, by decide +kernel, by decide +kernel⟩
theorem c_f_way_to : chkSs { gc with N := i_f_way_to.N, calm := true } d_f_way_to.scope i_f_way_to.body d_f_way_to.body = true := by decide +kernel
theorem b_f_way_to (kV doc pm : Value) (an : Option Addr) (cdv ct : Value) : ∀ (us : List Value), us.length = i_f_way_to.ps.length → bindArgs (PySem.W.fnOf d_f_way_to.name d_f_way_to.qual d_f_way_to.params d_f_way_to.body d_f_way_to.scope .none kV doc pm an cdv ct) ⟨us, []⟩ = pure (i_f_way_to.ps.zip us)
  | [], h => nomatch h
  | [_], h => nomatch h
  | [_, _], _ => rfl
  | _ :: _ :: _ :: _, h => by simp [i_f_way_to] at h
theorem o_f_way_to : DefOk gc i_f_way_to d_f_way_to := ⟨rfl, rfl, rfl, s_f_way_to, bd0 rfl rfl b_f_way_to, c_f_way_to, fun kn h => (by have q : gc.kw.lookup i_f_way_to.name = none := (by decide +kernel); rw [q] at h; cases h)⟩
theorem s_f_crossed : FnScope i_f_crossed.N i_f_crossed.ps d_f_crossed.scope := ⟨rfl, rfl, rfl, by decide +kernel, rfl, by decide +kernel, by decide +kernel⟩
theorem c_f_crossed : chkSs { gc with N := i_f_crossed.N, calm := true } d_f_crossed.scope i_f_crossed.body d_f_crossed.body = true := by decide +kernel
theorem b_f_crossed (kV doc pm : Value) (an : Option Addr) (cdv ct : Value) : ∀ (us : List Value), us.length = i_f_crossed.ps.length → bindArgs (PySem.W.fnOf d_f_crossed.name d_f_crossed.qual d_f_crossed.params d_f_crossed.body d_f_crossed.scope .none kV doc pm an cdv ct) ⟨us, []⟩ = pure (i_f_crossed.ps.zip us)
  | [], h => nomatch h
  | [_], h => nomatch h
  | [_, _], _ => rfl
  | _ :: _ :: _ :: _, h => by simp [i_f_crossed] at h
theorem o_f_crossed : DefOk gc i_f_crossed d_f_crossed := ⟨rfl, rfl, rfl, s_f_crossed, bd0 rfl rfl b_f_crossed, c_f_crossed, fun kn h => (by have q : gc.kw.lookup i_f_crossed.name = none := (by decide +kernel); rw [q] at h; cases h)⟩
theorem s_f_part_way : FnScope i_f_part_way.N i_f_part_way.ps d_f_part_way.scope := ⟨rfl, rfl, rfl, by decide +kernel, rfl, by decide +kernel, by decide +kernel⟩
theorem c_f_part_way : chkSs { gc with N := i_f_part_way.N, calm := true } d_f_part_way.scope i_f_part_way.body d_f_part_way.body = true := by decide +kernel
theorem b_f_part_way (kV doc pm : Value) (an : Option Addr) (cdv ct : Value) : ∀ (us : List Value), us.length = i_f_part_way.ps.length → bindArgs (PySem.W.fnOf d_f_part_way.name d_f_part_way.qual d_f_part_way.params d_f_part_way.body d_f_part_way.scope .none kV doc pm an cdv ct) ⟨us, []⟩ = pure (i_f_part_way.ps.zip us)
  | [], h => nomatch h
  | [_], h => nomatch h
  | [_, _], h => nomatch h
  | [_, _, _], h => nomatch h
  | [_, _, _, _], _ => rfl
  | _ :: _ :: _ :: _ :: _ :: _, h => by simp [i_f_part_way] at h
theorem o_f_part_way : DefOk gc i_f_part_way d_f_part_way := ⟨rfl, rfl, rfl, s_f_part_way, bd0 rfl rfl b_f_part_way, c_f_part_way, fun kn h => (by have q : gc.kw.lookup i_f_part_way.name = none := (by decide +kernel); rw [q] at h; cases h)⟩
theorem s_f_place_of : FnScope i_f_place_of.N i_f_place_of.ps d_f_place_of.scope := ⟨rfl, rfl, rfl, by decide +kernel, rfl, by decide +kernel, by decide +kernel⟩
theorem c_f_place_of : chkSs { gc with N := i_f_place_of.N, calm := true } d_f_place_of.scope i_f_place_of.body d_f_place_of.body = true := by decide +kernel
theorem b_f_place_of (kV doc pm : Value) (an : Option Addr) (cdv ct : Value) : ∀ (us : List Value), us.length = i_f_place_of.ps.length → bindArgs (PySem.W.fnOf d_f_place_of.name d_f_place_of.qual d_f_place_of.params d_f_place_of.body d_f_place_of.scope .none kV doc pm an cdv ct) ⟨us, []⟩ = pure (i_f_place_of.ps.zip us)
  | [], h => nomatch h
  | [_], h => nomatch h
  | [_, _], h => nomatch h
  | [_, _, _], _ => rfl
  | _ :: _ :: _ :: _ :: _, h => by simp [i_f_place_of] at h
theorem o_f_place_of : DefOk gc i_f_place_of d_f_place_of := ⟨rfl, rfl, rfl, s_f_place_of, bd0 rfl rfl b_f_place_of, c_f_place_of, fun kn h => (by have q : gc.kw.lookup i_f_place_of.name = none := (by decide +kernel); rw [q] at h; cases h)⟩
theorem s_f_free_place : FnScope i_f_free_place.N i_f_free_place.ps d_f_free_place.scope := ⟨rfl, rfl, rfl, by decide +kernel, rfl, by decide +kernel, by decide +kernel⟩
theorem c_f_free_place : chkSs { gc with N := i_f_free_place.N, calm := true } d_f_free_place.scope i_f_free_place.body d_f_free_place.body = true := by decide +kernel
theorem b_f_free_place (kV doc pm : Value) (an : Option Addr) (cdv ct : Value) : ∀ (us : List Value), us.length = i_f_free_place.ps.length → bindArgs (PySem.W.fnOf d_f_free_place.name d_f_free_place.qual d_f_free_place.params d_f_free_place.body d_f_free_place.scope .none kV doc pm an cdv ct) ⟨us, []⟩ = pure (i_f_free_place.ps.zip us)
  | [], h => nomatch h
  | [_], h => nomatch h
  | [_, _], h => nomatch h
  | [_, _, _], _ => rfl
  | _ :: _ :: _ :: _ :: _, h => by simp [i_f_free_place] at h
theorem o_f_free_place : DefOk gc i_f_free_place d_f_free_place := ⟨rfl, rfl, rfl, s_f_free_place, bd0 rfl rfl b_f_free_place, c_f_free_place, fun kn h => (by have q : gc.kw.lookup i_f_free_place.name = none := (by decide +kernel); rw [q] at h; cases h)⟩
theorem s_f_sign_at : FnScope i_f_sign_at.N i_f_sign_at.ps d_f_sign_at.scope := ⟨rfl, rfl, rfl, by decide +kernel, rfl, by decide +kernel, by decide +kernel⟩
theorem c_f_sign_at : chkSs { gc with N := i_f_sign_at.N, calm := true } d_f_sign_at.scope i_f_sign_at.body d_f_sign_at.body = true := by decide +kernel
theorem b_f_sign_at (kV doc pm : Value) (an : Option Addr) (cdv ct : Value) : ∀ (us : List Value), us.length = i_f_sign_at.ps.length → bindArgs (PySem.W.fnOf d_f_sign_at.name d_f_sign_at.qual d_f_sign_at.params d_f_sign_at.body d_f_sign_at.scope .none kV doc pm an cdv ct) ⟨us, []⟩ = pure (i_f_sign_at.ps.zip us)
  | [], h => nomatch h
  | [_], h => nomatch h
  | [_, _], _ => rfl
  | _ :: _ :: _ :: _, h => by simp [i_f_sign_at] at h
theorem o_f_sign_at : DefOk gc i_f_sign_at d_f_sign_at := ⟨rfl, rfl, rfl, s_f_sign_at, bd0 rfl rfl b_f_sign_at, c_f_sign_at, fun kn h => (by have q : gc.kw.lookup i_f_sign_at.name = none := (by decide +kernel); rw [q] at h; cases h)⟩
theorem s_f_below_of : FnScope i_f_below_of.N i_f_below_of.ps d_f_below_of.scope := ⟨rfl, rfl, rfl, by decide +kernel, rfl, by decide +kernel, by decide +kernel⟩
theorem c_f_below_of : chkSs { gc with N := i_f_below_of.N, calm := true } d_f_below_of.scope i_f_below_of.body d_f_below_of.body = true := by decide +kernel
theorem b_f_below_of (kV doc pm : Value) (an : Option Addr) (cdv ct : Value) : ∀ (us : List Value), us.length = i_f_below_of.ps.length → bindArgs (PySem.W.fnOf d_f_below_of.name d_f_below_of.qual d_f_below_of.params d_f_below_of.body d_f_below_of.scope .none kV doc pm an cdv ct) ⟨us, []⟩ = pure (i_f_below_of.ps.zip us)
  | [], h => nomatch h
  | [_], _ => rfl
  | _ :: _ :: _, h => by simp [i_f_below_of] at h
theorem o_f_below_of : DefOk gc i_f_below_of d_f_below_of := ⟨rfl, rfl, rfl, s_f_below_of, bd0 rfl rfl b_f_below_of, c_f_below_of, fun kn h => (by have q : gc.kw.lookup i_f_below_of.name = none := (by decide +kernel); rw [q] at h; cases h)⟩
theorem s_f_sum_at : FnScope i_f_sum_at.N i_f_sum_at.ps d_f_sum_at.scope := ⟨rfl, rfl, rfl, by decide +kernel, rfl, by decide +kernel, by decide +kernel⟩
theorem c_f_sum_at : chkSs { gc with N := i_f_sum_at.N, calm := true } d_f_sum_at.scope i_f_sum_at.body d_f_sum_at.body = true := by decide +kernel
theorem b_f_sum_at (kV doc pm : Value) (an : Option Addr) (cdv ct : Value) : ∀ (us : List Value), us.length = i_f_sum_at.ps.length → bindArgs (PySem.W.fnOf d_f_sum_at.name d_f_sum_at.qual d_f_sum_at.params d_f_sum_at.body d_f_sum_at.scope .none kV doc pm an cdv ct) ⟨us, []⟩ = pure (i_f_sum_at.ps.zip us)
  | [], h => nomatch h
  | [_], h => nomatch h
  | [_, _], _ => rfl
  | _ :: _ :: _ :: _, h => by simp [i_f_sum_at] at h
theorem o_f_sum_at : DefOk gc i_f_sum_at d_f_sum_at := ⟨rfl, rfl, rfl, s_f_sum_at, bd0 rfl rfl b_f_sum_at, c_f_sum_at, fun kn h => (by have q : gc.kw.lookup i_f_sum_at.name = none := (by decide +kernel); rw [q] at h; cases h)⟩
theorem s_f_places_of : FnScope i_f_places_of.N i_f_places_of.ps d_f_places_of.scope := ⟨rfl, rfl, rfl, by decide +kernel, rfl, by decide +kernel, by decide +kernel⟩
theorem c_f_places_of : chkSs { gc with N := i_f_places_of.N, calm := true } d_f_places_of.scope i_f_places_of.body d_f_places_of.body = true := by decide +kernel
theorem k_f_places_of (kn : Str) (h : gc.kw.lookup i_f_places_of.name = some kn) : i_f_places_of.kwd.map (·.1) = [kn] ∧ ∀ (K : Fr) (f : Addr) (fd : FuncData), FunD K d_f_places_of.name d_f_places_of.qual d_f_places_of.params d_f_places_of.body d_f_places_of.scope (d_f_places_of.dvs K) (d_f_places_of.kws K) f fd → KBn K fd i_f_places_of.ps (i_f_places_of.ps.length - 1) [kn] (fun us ws => us ++ ws) (fun us ws => us ++ ws) := by
  have e : kn = "far" := by
    have q : gc.kw.lookup i_f_places_of.name = some "far" := by decide +kernel
    rw [q] at h; cases h; rfl
  subst e
  refine ⟨rfl, fun K f fd F => ?_⟩
  obtain ⟨mv, hb⟩ := FunD.kbinds0 (ps := i_f_places_of.ps) F 1 ["far"] [] (fun us _ ws => us ++ ws) (by intro z; cases z) (fun q hq => by cases hq) (fun r1 _ r3 => r1.append r3) (fun D doc pm an cdv ct us mv ws hl hm hk => match us, hl, mv, hm, ws, hk with
    | [_], _, [], _, [_], _ => rfl)
  exact hb
theorem o_f_places_of : DefOk gc i_f_places_of d_f_places_of := ⟨rfl, rfl, rfl, s_f_places_of, fun w K f fd F => by
    obtain ⟨ds, h1, h2⟩ := FunD.binds0 (ps := i_f_places_of.ps) F 1 (by intro z; cases z) rfl (fun D doc pm an cdv ct us ks hl hk => match us, hl, ks, hk with
      | [_], _, [_], _ => ⟨_, _, _, _, _, _, rfl, rfl, rfl⟩)
    exact ⟨ds, _, h2, h1, by show RepL w K noH [V.bl false] [.bool false]; simp [RepL, Rep]⟩, c_f_places_of, k_f_places_of⟩
theorem s_f_is_so : FnScope i_f_is_so.N i_f_is_so.ps d_f_is_so.scope := ⟨rfl, rfl, rfl, by decide +kernel, rfl, by decide +kernel, by decide +kernel⟩
theorem c_f_is_so : chkSs { gc with N := i_f_is_so.N, calm := true } d_f_is_so.scope i_f_is_so.body d_f_is_so.body = true := by decide +kernel
theorem b_f_is_so (kV doc pm : Value) (an : Option Addr) (cdv ct : Value) : ∀ (us : List Value), us.length = i_f_is_so.ps.length → bindArgs (PySem.W.fnOf d_f_is_so.name d_f_is_so.qual d_f_is_so.params d_f_is_so.body d_f_is_so.scope .none kV doc pm an cdv ct) ⟨us, []⟩ = pure (i_f_is_so.ps.zip us)
  | [], h => nomatch h
  | [_], h => nomatch h
  | [_, _], _ => rfl
  | _ :: _ :: _ :: _, h => by simp [i_f_is_so] at h
theorem o_f_is_so : DefOk gc i_f_is_so d_f_is_so := ⟨rfl, rfl, rfl, s_f_is_so, bd0 rfl rfl b_f_is_so, c_f_is_so, fun kn h => (by have q : gc.kw.lookup i_f_is_so.name = none := (by decide +kernel); rw [q] at h; cases h)⟩
theorem s_f_judged : FnScope i_f_judged.N i_f_judged.ps d_f_judged.scope := ⟨rfl, rfl, rfl, by decide +kernel, rfl, by decide +kernel, by decide +kernel⟩
theorem c_f_judged : chkSs { gc with N := i_f_judged.N, calm := true } d_f_judged.scope i_f_judged.body d_f_judged.body = true := by decide +kernel
theorem k_f_judged (kn : Str) (h : gc.kw.lookup i_f_judged.name = some kn) : i_f_judged.kwd.map (·.1) = [kn] ∧ ∀ (K : Fr) (f : Addr) (fd : FuncData), FunD K d_f_judged.name d_f_judged.qual d_f_judged.params d_f_judged.body d_f_judged.scope (d_f_judged.dvs K) (d_f_judged.kws K) f fd → KBn K fd i_f_judged.ps (i_f_judged.ps.length - 1) [kn] (fun us ws => us ++ ws) (fun us ws => us ++ ws) := by
  have e : kn = "road" := by
    have q : gc.kw.lookup i_f_judged.name = some "road" := by decide +kernel
    rw [q] at h; cases h; rfl
  subst e
  refine ⟨rfl, fun K f fd F => ?_⟩
  obtain ⟨mv, hb⟩ := FunD.kbinds0 (ps := i_f_judged.ps) F 2 ["road"] [] (fun us _ ws => us ++ ws) (by intro z; cases z) (fun q hq => by cases hq) (fun r1 _ r3 => r1.append r3) (fun D doc pm an cdv ct us mv ws hl hm hk => match us, hl, mv, hm, ws, hk with
    | [_, _], _, [], _, [_], _ => rfl)
  exact hb
theorem o_f_judged : DefOk gc i_f_judged d_f_judged := ⟨rfl, rfl, rfl, s_f_judged, fun w K f fd F => by
    obtain ⟨ds, h1, h2⟩ := FunD.binds0 (ps := i_f_judged.ps) F 2 (by intro z; cases z) rfl (fun D doc pm an cdv ct us ks hl hk => match us, hl, ks, hk with
      | [_, _], _, [_], _ => ⟨_, _, _, _, _, _, rfl, rfl, rfl⟩)
    exact ⟨ds, _, h2, h1, by show RepL w K noH [V.str "coordinates"] [.str "coordinates"]; simp [RepL, Rep]⟩, c_f_judged, k_f_judged⟩
theorem s_f_counter : FnScope i_f_counter.N i_f_counter.ps d_f_counter.scope := ⟨rfl, rfl, rfl, by decide +kernel, rfl, by decide +kernel, by decide +kernel⟩
theorem c_f_counter : chkSs { gc with N := i_f_counter.N, calm := true } d_f_counter.scope i_f_counter.body d_f_counter.body = true := by decide +kernel
theorem b_f_counter (kV doc pm : Value) (an : Option Addr) (cdv ct : Value) : ∀ (us : List Value), us.length = i_f_counter.ps.length → bindArgs (PySem.W.fnOf d_f_counter.name d_f_counter.qual d_f_counter.params d_f_counter.body d_f_counter.scope .none kV doc pm an cdv ct) ⟨us, []⟩ = pure (i_f_counter.ps.zip us)
  | [], h => nomatch h
  | [_], h => nomatch h
  | [_, _], _ => rfl
  | _ :: _ :: _ :: _, h => by simp [i_f_counter] at h
theorem o_f_counter : DefOk gc i_f_counter d_f_counter := ⟨rfl, rfl, rfl, s_f_counter, bd0 rfl rfl b_f_counter, c_f_counter, fun kn h => (by have q : gc.kw.lookup i_f_counter.name = none := (by decide +kernel); rw [q] at h; cases h)⟩
theorem s_f_with_row : FnScope i_f_with_row.N i_f_with_row.ps d_f_with_row.scope := ⟨rfl, rfl, rfl, by decide +kernel, rfl, by decide +kernel, by decide +kernel⟩
theorem c_f_with_row : chkSs { gc with N := i_f_with_row.N, calm := true } d_f_with_row.scope i_f_with_row.body d_f_with_row.body = true := by decide +kernel
theorem b_f_with_row (kV doc pm : Value) (an : Option Addr) (cdv ct : Value) : ∀ (us : List Value), us.length = i_f_with_row.ps.length → bindArgs (PySem.W.fnOf d_f_with_row.name d_f_with_row.qual d_f_with_row.params d_f_with_row.body d_f_with_row.scope .none kV doc pm an cdv ct) ⟨us, []⟩ = pure (i_f_with_row.ps.zip us)
  | [], h => nomatch h
  | [_], h => nomatch h
  | [_, _], h => nomatch h
  | [_, _, _], _ => rfl
  | _ :: _ :: _ :: _ :: _, h => by simp [i_f_with_row] at h
theorem o_f_with_row : DefOk gc i_f_with_row d_f_with_row := ⟨rfl, rfl, rfl, s_f_with_row, bd0 rfl rfl b_f_with_row, c_f_with_row, fun kn h => (by have q : gc.kw.lookup i_f_with_row.name = none := (by decide +kernel); rw [q] at h; cases h)⟩
theorem s_f_number_of : FnScope i_f_number_of.N i_f_number_of.ps d_f_number_of.scope := ⟨rfl, rfl, rfl, by decide +kernel, rfl, by decide +kernel, by decide +kernel⟩
theorem c_f_number_of : chkSs { gc with N := i_f_number_of.N, calm := true } d_f_number_of.scope i_f_number_of.body d_f_number_of.body = true := by decide +kernel
theorem b_f_number_of (kV doc pm : Value) (an : Option Addr) (cdv ct : Value) : ∀ (us : List Value), us.length = i_f_number_of.ps.length → bindArgs (PySem.W.fnOf d_f_number_of.name d_f_number_of.qual d_f_number_of.params d_f_number_of.body d_f_number_of.scope .none kV doc pm an cdv ct) ⟨us, []⟩ = pure (i_f_number_of.ps.zip us)
  | [], h => nomatch h
  | [_], _ => rfl
  | _ :: _ :: _, h => by simp [i_f_number_of] at h
theorem o_f_number_of : DefOk gc i_f_number_of d_f_number_of := ⟨rfl, rfl, rfl, s_f_number_of, bd0 rfl rfl b_f_number_of, c_f_number_of, fun kn h => (by have q : gc.kw.lookup i_f_number_of.name = none := (by decide +kernel); rw [q] at h; cases h)⟩
theorem s_f_thing_of : FnScope i_f_thing_of.N i_f_thing_of.ps d_f_thing_of.scope := ⟨rfl, rfl, rfl, by decide +kernel, rfl, by decide +kernel, by decide +kernel⟩
theorem c_f_thing_of : chkSs { gc with N := i_f_thing_of.N, calm := true } d_f_thing_of.scope i_f_thing_of.body d_f_thing_of.body = true := by decide +kernel
theorem b_f_thing_of (kV doc pm : Value) (an : Option Addr) (cdv ct : Value) : ∀ (us : List Value), us.length = i_f_thing_of.ps.length → bindArgs (PySem.W.fnOf d_f_thing_of.name d_f_thing_of.qual d_f_thing_of.params d_f_thing_of.body d_f_thing_of.scope .none kV doc pm an cdv ct) ⟨us, []⟩ = pure (i_f_thing_of.ps.zip us)
  | [], h => nomatch h
  | [_], _ => rfl
  | _ :: _ :: _, h => by simp [i_f_thing_of] at h
theorem o_f_thing_of : DefOk gc i_f_thing_of d_f_thing_of := ⟨rfl, rfl, rfl, s_f_thing_of, bd0 rfl rfl b_f_thing_of, c_f_thing_of, fun kn h => (by have q : gc.kw.lookup i_f_thing_of.name = none := (by decide +kernel); rw [q] at h; cases h)⟩
theorem s_f_read : FnScope i_f_read.N i_f_read.ps d_f_read.scope := ⟨rfl, rfl, rfl, by decide +kernel, rfl, by decide +kernel, by decide +kernel⟩
theorem c_f_read : chkSs { gc with N := i_f_read.N, calm := true } d_f_read.scope i_f_read.body d_f_read.body = true := by decide +kernel
theorem b_f_read (kV doc pm : Value) (an : Option Addr) (cdv ct : Value) : ∀ (us : List Value), us.length = i_f_read.ps.length → bindArgs (PySem.W.fnOf d_f_read.name d_f_read.qual d_f_read.params d_f_read.body d_f_read.scope .none kV doc pm an cdv ct) ⟨us, []⟩ = pure (i_f_read.ps.zip us)
  | [], h => nomatch h
  | [_], _ => rfl
  | _ :: _ :: _, h => by simp [i_f_read] at h
theorem o_f_read : DefOk gc i_f_read d_f_read := ⟨rfl, rfl, rfl, s_f_read, bd0 rfl rfl b_f_read, c_f_read, fun kn h => (by have q : gc.kw.lookup i_f_read.name = none := (by decide +kernel); rw [q] at h; cases h)⟩
theorem s_f_known : FnScope i_f_known.N i_f_known.ps d_f_known.scope := ⟨rfl, rfl, rfl, by decide +kernel, rfl, by decide +kernel, by decide +kernel⟩
theorem c_f_known : chkSs { gc with N := i_f_known.N, calm := true } d_f_known.scope i_f_known.body d_f_known.body = true := by decide +kernel
theorem b_f_known (kV doc pm : Value) (an : Option Addr) (cdv ct : Value) : ∀ (us : List Value), us.length = i_f_known.ps.length → bindArgs (PySem.W.fnOf d_f_known.name d_f_known.qual d_f_known.params d_f_known.body d_f_known.scope .none kV doc pm an cdv ct) ⟨us, []⟩ = pure (i_f_known.ps.zip us)
  | [], h => nomatch h
  | [_], _ => rfl
  | _ :: _ :: _, h => by simp [i_f_known] at h
theorem o_f_known : DefOk gc i_f_known d_f_known := ⟨rfl, rfl, rfl, s_f_known, bd0 rfl rfl b_f_known, c_f_known, fun kn h => (by have q : gc.kw.lookup i_f_known.name = none := (by decide +kernel); rw [q] at h; cases h)⟩
theorem s_f_paper : FnScope i_f_paper.N i_f_paper.ps d_f_paper.scope := ⟨rfl, rfl, rfl, by decide +kernel, rfl, by decide +kernel, by decide +kernel⟩
theorem c_f_paper : chkSs { gc with N := i_f_paper.N, calm := true } d_f_paper.scope i_f_paper.body d_f_paper.body = true := by decide +kernel
theorem b_f_paper (kV doc pm : Value) (an : Option Addr) (cdv ct : Value) : ∀ (us : List Value), us.length = i_f_paper.ps.length → bindArgs (PySem.W.fnOf d_f_paper.name d_f_paper.qual d_f_paper.params d_f_paper.body d_f_paper.scope .none kV doc pm an cdv ct) ⟨us, []⟩ = pure (i_f_paper.ps.zip us)
  | [], h => nomatch h
  | [_], h => nomatch h
  | [_, _], _ => rfl
  | _ :: _ :: _ :: _, h => by simp [i_f_paper] at h
theorem o_f_paper : DefOk gc i_f_paper d_f_paper := ⟨rfl, rfl, rfl, s_f_paper, bd0 rfl rfl b_f_paper, c_f_paper, fun kn h => (by have q : gc.kw.lookup i_f_paper.name = none := (by decide +kernel); rw [q] at h; cases h)⟩
theorem s_g_cell : FnScope i_g_cell.N i_g_cell.ps d_g_cell.scope := ⟨rfl, rfl, rfl, by decide +kernel, rfl, by decide +kernel, by decide +kernel⟩
theorem c_g_cell : chkSs { gc with N := i_g_cell.N, calm := true } d_g_cell.scope i_g_cell.body d_g_cell.body = true := by decide +kernel
theorem b_g_cell (kV doc pm : Value) (an : Option Addr) (cdv ct : Value) : ∀ (us : List Value), us.length = i_g_cell.ps.length → bindArgs (PySem.W.fnOf d_g_cell.name d_g_cell.qual d_g_cell.params d_g_cell.body d_g_cell.scope .none kV doc pm an cdv ct) ⟨us, []⟩ = pure (i_g_cell.ps.zip us)
  | [], h => nomatch h
  | [_], h => nomatch h
  | [_, _], _ => rfl
  | _ :: _ :: _ :: _, h => by simp [i_g_cell] at h
theorem o_g_cell : DefOk gc i_g_cell d_g_cell := ⟨rfl, rfl, rfl, s_g_cell, bd0 rfl rfl b_g_cell, c_g_cell, fun kn h => (by have q : gc.kw.lookup i_g_cell.name = none := (by decide +kernel); rw [q] at h; cases h)⟩
theorem s_g_refused_by : FnScope i_g_refused_by.N i_g_refused_by.ps d_g_refused_by.scope := ⟨rfl, rfl, rfl, by decide +kernel, rfl, by decide +kernel, by decide +kernel⟩
theorem c_g_refused_by : chkSs { gc with N := i_g_refused_by.N, calm := true } d_g_refused_by.scope i_g_refused_by.body d_g_refused_by.body = true := by decide +kernel
theorem b_g_refused_by (kV doc pm : Value) (an : Option Addr) (cdv ct : Value) : ∀ (us : List Value), us.length = i_g_refused_by.ps.length → bindArgs (PySem.W.fnOf d_g_refused_by.name d_g_refused_by.qual d_g_refused_by.params d_g_refused_by.body d_g_refused_by.scope .none kV doc pm an cdv ct) ⟨us, []⟩ = pure (i_g_refused_by.ps.zip us)
  | [], h => nomatch h
  | [_], _ => rfl
  | _ :: _ :: _, h => by simp [i_g_refused_by] at h
theorem o_g_refused_by : DefOk gc i_g_refused_by d_g_refused_by := ⟨rfl, rfl, rfl, s_g_refused_by, bd0 rfl rfl b_g_refused_by, c_g_refused_by, fun kn h => (by have q : gc.kw.lookup i_g_refused_by.name = none := (by decide +kernel); rw [q] at h; cases h)⟩
theorem s_f_law : FnScope i_f_law.N i_f_law.ps d_f_law.scope := ⟨rfl, rfl, rfl, by decide +kernel, rfl, by decide +kernel, by decide +kernel⟩
theorem c_f_law : chkSs { gc with N := i_f_law.N, calm := true } d_f_law.scope i_f_law.body d_f_law.body = true := by decide +kernel
theorem b_f_law (kV doc pm : Value) (an : Option Addr) (cdv ct : Value) : ∀ (us : List Value), us.length = i_f_law.ps.length → bindArgs (PySem.W.fnOf d_f_law.name d_f_law.qual d_f_law.params d_f_law.body d_f_law.scope .none kV doc pm an cdv ct) ⟨us, []⟩ = pure (i_f_law.ps.zip us)
  | [], h => nomatch h
  | [_], _ => rfl
  | _ :: _ :: _, h => by simp [i_f_law] at h
theorem o_f_law : DefOk gc i_f_law d_f_law := ⟨rfl, rfl, rfl, s_f_law, bd0 rfl rfl b_f_law, c_f_law, fun kn h => (by have q : gc.kw.lookup i_f_law.name = none := (by decide +kernel); rw [q] at h; cases h)⟩
theorem allD : AllD gc Γ md.fn := .cons o_f_is_within (.cons o_f_points_of (.cons o_f_is_step (.cons o_f_count (.cons o_f_is_plan (.cons o_f_look (.cons o_f_look_point (.cons o_f_many_numbers (.cons o_f_needed (.cons o_f_depends_on (.cons o_f_look_numbers (.cons o_f_drawn (.cons o_f_whole (.cons o_f_single (.cons o_f_added (.cons o_f_scaled (.cons o_f_lessened (.cons o_f_multiplied (.cons o_f_area (.cons o_f_far_sum (.cons o_f_is_claim (.cons o_f_look_claim (.cons o_f_squares_of (.cons o_f_sum_of (.cons o_f_over_of (.cons o_f_product (.cons o_f_way_to (.cons o_f_crossed (.cons o_f_part_way (.cons o_f_place_of (.cons o_f_free_place (.cons o_f_sign_at (.cons o_f_below_of (.cons o_f_sum_at (.cons o_f_places_of (.cons o_f_is_so (.cons o_f_judged (.cons o_f_counter (.cons o_f_with_row (.cons o_f_number_of (.cons o_f_thing_of (.cons o_f_read (.cons o_f_known (.cons o_f_paper (.cons o_g_cell (.cons o_g_refused_by (.cons o_f_law (.nil)))))))))))))))))))))))))))))))))))))))))))))))
theorem bnI (kV doc pm : Value) (an : Option Addr) (cdv ct : Value) : ∀ (us : List Value), us.length = 1 → bindArgs (PySem.W.fnOf bkI.name bkI.qual bkI.params bkI.body bkI.scope .none kV doc pm an cdv ct) ⟨us, []⟩ = pure ([("self" : PySem.Str)].zip us)
  | [], h => nomatch h
  | [_], _ => rfl
  | _ :: _ :: _, h => by simp at h
theorem bnP (kV doc pm : Value) (an : Option Addr) (cdv ct : Value) : ∀ (us : List Value), us.length = 3 → bindArgs (PySem.W.fnOf bkP.name bkP.qual bkP.params bkP.body bkP.scope .none kV doc pm an cdv ct) ⟨us, []⟩ = pure ([("self" : PySem.Str), "call", "rows"].zip us)
  | [], h => nomatch h
  | [_], h => nomatch h
  | [_, _], h => nomatch h
  | [_, _, _], _ => rfl
  | _ :: _ :: _ :: _ :: _, h => by simp at h
theorem bnK (kV doc pm : Value) (an : Option Addr) (cdv ct : Value) : ∀ (us : List Value), us.length = 4 → bindArgs (PySem.W.fnOf bkK.name bkK.qual bkK.params bkK.body bkK.scope .none kV doc pm an cdv ct) ⟨us, []⟩ = pure (kP.zip us)
  | [], h => nomatch h
  | [_], h => nomatch h
  | [_, _], h => nomatch h
  | [_, _, _], h => nomatch h
  | [_, _, _, _], _ => rfl
  | _ :: _ :: _ :: _ :: _ :: _, h => by simp at h
theorem bnR (kV doc pm : Value) (an : Option Addr) (cdv ct : Value) : ∀ (us : List Value), us.length = 2 → bindArgs (PySem.W.fnOf bkR.name bkR.qual bkR.params bkR.body bkR.scope .none kV doc pm an cdv ct) ⟨us, []⟩ = pure (rN.zip us)
  | [], h => nomatch h
  | [_], h => nomatch h
  | [_, _], _ => rfl
  | _ :: _ :: _ :: _, h => by simp at h
theorem bnU (kV doc pm : Value) (an : Option Addr) (cdv ct : Value) : ∀ (us : List Value), us.length = 4 → bindArgs (PySem.W.fnOf bkU.name bkU.qual bkU.params bkU.body bkU.scope .none kV doc pm an cdv ct) ⟨us, []⟩ = pure (uP.zip us)
  | [], h => nomatch h
  | [_], h => nomatch h
  | [_, _], h => nomatch h
  | [_, _, _], h => nomatch h
  | [_, _, _, _], _ => rfl
  | _ :: _ :: _ :: _ :: _ :: _, h => by simp at h
theorem bnB (kV doc pm : Value) (an : Option Addr) (cdv ct : Value) : ∀ (us : List Value), us.length = 1 → bindArgs (PySem.W.fnOf bkB.name bkB.qual bkB.params bkB.body bkB.scope .none kV doc pm an cdv ct) ⟨us, []⟩ = pure ([("self" : PySem.Str)].zip us)
  | [], h => nomatch h
  | [_], _ => rfl
  | _ :: _ :: _, h => by simp at h
theorem bkT : BkT2 md 6021036038 bkI bkP bkK bkR bkU bkB := {
  bks := rfl, ge := by decide, len := by decide, aI := rfl, aP := rfl, aK := rfl, aR := rfl, aU := rfl, aB := rfl, fI := rfl, fP := rfl, fK := rfl, fR := rfl, fU := rfl, fB := rfl
  sI := ⟨rfl, rfl, rfl, by decide +kernel, rfl, by decide +kernel, by decide +kernel⟩
  sP := ⟨rfl, rfl, rfl, by decide +kernel, rfl, by decide +kernel, by decide +kernel⟩
  sK := ⟨rfl, rfl, rfl, by decide +kernel, rfl, by decide +kernel, by decide +kernel⟩
  sR := ⟨rfl, rfl, rfl, by decide +kernel, rfl, by decide +kernel, by decide +kernel⟩
  sU := ⟨rfl, rfl, rfl, by decide +kernel, rfl, by decide +kernel, by decide +kernel⟩
  sB := ⟨rfl, rfl, rfl, by decide +kernel, rfl, by decide +kernel, by decide +kernel⟩
  bI := by decide +kernel, bP := by decide +kernel, bK := by decide +kernel, bR := by decide +kernel, bU := by decide +kernel, bB := by decide +kernel, nI := bnI, nP := bnP, nK := bnK, nR := bnR, nU := bnU, nB := bnB }
theorem hB : ∀ i, md.g.bk = some i → BkAny md i := fun i h => by cases h; exact .inr ⟨_, _, _, _, _, _, bkT⟩
def names0 : List PySem.Str := ["_wall", "PlanError", "BadPlan", "BadClaim", "BadNumbers", "BadPoint", "Falls", "NotSo", "BadText", "BadName", "BadPicks", "Nothing", "least", "plus", "minus", "times", "over", "MOST_STEPS", "MOST_FREE", "MOST_SLIDES"]
def names1 : List PySem.Str := ["MOST_HARD", "POINTS", "HARD", "is_within", "points_of", "is_step", "count", "is_plan", "look", "look_point", "many_numbers", "needed", "depends_on", "MOST_NUMBER", "NOUGHT", "apart", "cross_of", "dot_of", "on_way", "center_of"]
def names2 : List PySem.Str := ["shares_of", "made", "points_at", "look_numbers", "drawn", "whole", "single", "added", "scaled", "lessened", "multiplied", "raised", "rows_of", "area", "far_sum", "cross", "dots", "CLAIMS", "is_claim", "look_claim"]
def names3 : List PySem.Str := ["sides_at", "round_at", "meet_at", "holds_at", "round_sum", "one_sum", "squares_of", "sum_of", "over_of", "center_share", "top_of", "shares_at", "has", "partners", "turned_out", "shared_out", "without", "left_out", "cancelled", "product"]
def names4 : List PySem.Str := ["way_to", "crossed", "dotted", "part_way", "ratio", "hard_share", "center_place", "place_of", "free_place", "sign_at", "below_of", "sum_at", "places_of", "is_so", "lines_of", "is_so_by_points", "judged", "next_trial", "fits", "searched"]
def names5 : List PySem.Str := ["counter", "SMALL", "MOST_LETTERS", "with_picks", "slide_fits", "with_row", "Book", "FIGURES", "MOST_TEXT", "written", "shown", "number_of", "thing_of", "read", "read_claim", "THREE", "SIDES", "ROWS", "known", "paper"]
def names6 : List PySem.Str := ["_law_cell", "_law_refused_by"]
def names : List PySem.Str := names0 ++ names1 ++ names2 ++ names3 ++ names4 ++ names5 ++ names6
abbrev rw : PySem.W.OpenLaw := PySem.Challenge.rw_alldrawings_k31_refusals_stand_apart
abbrev RR : PySem.W.OpenRow := PySem.W.OpenLaw.row rw
abbrev hk : PySem.W.Hook := hookM 3 md
def ob (s : PySem.W.SharedT) : AlH := obsMG 3 md (HandSHeadRun.getT s)
theorem ob_eq (s : PySem.W.SharedT) : ob s = hk.obs s.abs := obsMG_eq (HandSHeadRun.getT_eq s)
theorem run0a (w : World) (os : OsState) : (topE RR 9000 (w.withFollow "special-get-raises" false) os).map (fun s => (HandSHeadRun.looksF RR.prog (PySem.W.boot_heap (w.withFollow "special-get-raises" false).params) s.abs, HandSHeadRun.seenQ (PySem.W.view RR.prog [138]) names (importedModules RR.prog.main.body) (fun s => PySem.W.xlAt (PySem.W.view RR.prog [138]) [] s && PySem.W.recOk RR.toRowW.records s) s.abs)) = some (true, PySem.W.openGood (PySem.W.view RR.prog [138]) names) := by
  kernel_rfl
theorem run0b (w : World) (os : OsState) : (topE RR 9000 (w.withFollow "special-get-raises" false) os).map (fun s => (okA md (frT 3 md s), (obsM md (frT 3 md s)).2)) = some (true, (valM md (w.withFollow "special-get-raises" false)).2) := by
  kernel_rfl
theorem run0c (w : World) (os : OsState) : (topE RR 9000 (w.withFollow "special-get-raises" false) os).map (fun s => okB md (frT 3 md s)) = some true := by
  kernel_rfl
theorem run0 (w : World) : HandSHeadRun.RunEq RR (PySem.W.view RR.prog [138]) hk ob 9000 names (w.withFollow "special-get-raises" false) := run_parts (run0a w) (run0b w) (run0c w)
theorem run1a (w : World) (os : OsState) : (topE RR 9000 (w.withFollow "special-get-raises" true) os).map (fun s => (HandSHeadRun.looksF RR.prog (PySem.W.boot_heap (w.withFollow "special-get-raises" true).params) s.abs, HandSHeadRun.seenQ (PySem.W.view RR.prog [138]) names (importedModules RR.prog.main.body) (fun s => PySem.W.xlAt (PySem.W.view RR.prog [138]) [] s && PySem.W.recOk RR.toRowW.records s) s.abs)) = some (true, PySem.W.openGood (PySem.W.view RR.prog [138]) names) := by
  kernel_rfl
theorem run1b (w : World) (os : OsState) : (topE RR 9000 (w.withFollow "special-get-raises" true) os).map (fun s => (okA md (frT 3 md s), (obsM md (frT 3 md s)).2)) = some (true, (valM md (w.withFollow "special-get-raises" true)).2) := by
  kernel_rfl
theorem run1c (w : World) (os : OsState) : (topE RR 9000 (w.withFollow "special-get-raises" true) os).map (fun s => okB md (frT 3 md s)) = some true := by
  kernel_rfl
theorem run1 (w : World) : HandSHeadRun.RunEq RR (PySem.W.view RR.prog [138]) hk ob 9000 names (w.withFollow "special-get-raises" true) := run_parts (run1a w) (run1b w) (run1c w)
theorem run (w : World) : HandSHeadRun.RunEq RR (PySem.W.view RR.prog [138]) hk ob 9000 names w := PySem.W.byRow2 "special-get-raises" run0 run1 w
open PySem.W PySem.Calls in
theorem holds_of (plain : ∀ ns : List Int, ns.length ≤ 63 → callF Γ 20 46 [.list (ns.map .int)] [] = .ok (.bool true)) : (PySem.Challenge.rw_alldrawings_k31_refusals_stand_apart).Holds := by
  w_on; o_law
  refine HandSHeadRun.head_any (r := OpenLaw.row PySem.Challenge.rw_alldrawings_k31_refusals_stand_apart) (q := view (OpenLaw.row PySem.Challenge.rw_alldrawings_k31_refusals_stand_apart).prog [138]) (H := hk) (ob := ob) (M := 9000) (loose := names) (d := HandSHeadRun.topDef (OpenLaw.row PySem.Challenge.rw_alldrawings_k31_refusals_stand_apart).prog 138) (kwd := []) ob_eq
    (by kernel_rfl) (fun s => by kernel_rfl) run (by kernel_rfl) (by kernel_rfl) (by kernel_rfl) (by rfl) (by first | assumption | decide +kernel) (by decide +kernel) ⟨rfl, rfl, rfl, rfl, rfl, by decide +kernel⟩ ?hw ?hc
  case hw => w_witness2
  case hc => exact law_of (l := PySem.Challenge.rw_alldrawings_k31_refusals_stand_apart) (k := 20) (fi := 46) (fL := i_f_law) (dL := d_f_law) rfl (by decide) (by kernel_rfl) ⟨rfl, by decide, by decide⟩ (by kernel_rfl) allD rfl (by decide +kernel) allI (.inr (by decide +kernel)) (xi_of rfl) hB rfl rfl rfl rfl (by kernel_rfl) b_f_law plain
end Ad.Lk31
open PySem PySem.W PyProof.Rows
set_option maxRecDepth 100000 in
set_option maxHeartbeats 8000000 in
theorem PySem.Challenge.cw_alldrawings_k31_refusals_stand_apart_holds : PySem.Challenge.rw_alldrawings_k31_refusals_stand_apart.Holds := by
  exact Ad.Lk31.holds_of fun ns _ => Ad.Lk31.plain ns
