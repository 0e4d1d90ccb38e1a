import PyProof.Rows.All
import Wide.All
import OpenK.AllK
import Wide.FinOn
import KE.KStateDown
import Lean
import HandS.Base
import HandS.Call
import HandS.Ends
import HandS.More
import HandS.Words
import HandS.WordsExc
import HandS.Defaults
import HandS.Head0
import HandS.Head1
import HandS.Head2
import HandS.HeadEnd
import HandS.HeadHook1
import HandS.HeadHook2
import HandS.ForMost
import KE.SortData
import KE.DataMinMax
import HandS.Text
import KE.KeyNested
import KE.KDictKeyed
import KE.KDictWalk
import HandS.Style
import HandS.IsInst
import HandS.ExcOwn
import HandS.Iter
import KE.KItemsList
import HandS.DictComp
import HandS.TupAny
import HandS.Deep
import HandS.Dict
import HandS.ExcInit
import HandS.ExcField
import HandS.ExcIs
import HandS.Nested
import KE.KExcSuper
import HandS.TryMany
import KE.KExcIs
import KE.KDictDisplayH
import HandS.Conv
import KE.KDictCopyH
import KE.KDictSum
import KE.KDictPairs
import PySem.Challenge.RW_treestold_k01_trees_and_parts
set_option Elab.async false
set_option linter.all false
section
set_option maxHeartbeats 200000
set_option maxRecDepth 100000
/-! The evaluator: plain data, a small form of expressions and statements, what they come to. No heap. -/
namespace Ev
open PySem
abbrev D := PyData
/-- a slot: frozen data; a list or dict of one's own (lent: a caller's) -/
inductive Sl where
  | val (d : D) | own (lent : Bool) (d : D)
def Sl.d : Sl → D
  | .val d => d
  | .own _ d => d
/-- an exception: its class's number in the table, its fields -/
structure Exn where
  cls : Nat
  args : List (Str × D)
abbrev M (α : Type) := Option (Except Exn α)
@[reducible] def rt {α : Type} (a : α) : M α := some (.ok a)
def bd {α β : Type} (m : M α) (f : α → M β) : M β := match m with
  | none => none
  | some (.error x) => some (.error x)
  | some (.ok a) => f a
abbrev Env := List (Option Sl)
inductive Bop where
  | add | sub | mul | fdiv | mod | pow
inductive Cop where
  | eq | ne | lt | le | gt | ge | isin | notin
inductive Ty where
  | int | str | bool | tuple | list | dict
  deriving DecidableEq
inductive Blt where
  | len | sum | sorted | min | max | abs | int | str | tuple | list | dict
inductive Mth where
  | get | join | split | index | count
inductive Mut where
  | append | pop | reverse | extend | update
/-- a target: a name; names of a tuple -/
inductive Tg where
  | name (i : Nat) | tup (is : List Nat)
mutual
inductive Ex where
  | var (i : Nat)
  | con (d : D)
  | tup (es : Exs) | lst (es : Exs) | dct (ds : Ds)
  | bin (o : Bop) (a b : Ex)
  | neg (a : Ex)
  | cmp (o : Cop) (a b : Ex)
  | chn (o p : Cop) (a b c : Ex)
  | isn (neg : Bool) (a : Ex)
  | isb (neg b : Bool) (a : Ex)
  | and (a b : Ex) | or (a b : Ex) | not (a : Ex)
  | ite (c : Tx) (a b : Ex)
  | idx (a b : Ex)
  | sl (a : Ex) (lo hi : Ox)
  | call (f : Nat) (es : Exs)
  | blt (b : Blt) (es : Exs)
  | isi (a : Ex) (t : Ty)
  | mth (m : Mth) (o : Ex) (es : Exs)
  | mut (m : Mut) (i : Nat) (es : Exs)
  | comp (own : List Nat) (elt : Ex) (tg : Tg) (it : Ix) (ifs : Tx)
  | glo (x : Str) (d : D)
  | mxd (least : Bool) (a : Ex) (i : Int)
  | dcomp (own : List Nat) (k v : Ex) (tg : Tg) (it : Ix) (ifs : Tx)
  | stk
inductive Exs where
  | nil | cons (e : Ex) (es : Exs)
inductive Ds where
  | nil | cons (k v : Ex) (ds : Ds)
inductive Ox where
  | non | som (e : Ex)
/-- a test -/
inductive Tx where
  | and (a b : Tx) | or (a b : Tx) | not (a : Tx) | ite (c a b : Tx) | tr (e : Ex) | yes
/-- what is walked -/
inductive Ix where
  | seq (e : Ex) | rng1 (e : Ex) | rng2 (a b : Ex) | items (e : Ex)
end
/-! what an except suite may say: err.f, isinstance(err, C), and little more -/
mutual
inductive Hx where
  | con (d : D) | var (i : Nat) | fld (f : Str) | ise (k : Nat) (s : List Nat)
  | not (a : Hx) | and (a b : Hx) | or (a b : Hx) | ite (t : Ht) (a b : Hx) | cmp (o : Cop) (a b : Hx)
  | tup (es : Hxs) | lst (es : Hxs)
inductive Hxs where
  | nil | cons (e : Hx) (es : Hxs)
inductive Ht where
  | and (a b : Ht) | or (a b : Ht) | not (a : Ht) | tr (e : Hx)
end
/-- return e; if t: return e .. -/
inductive Hd where
  | ret (e : Hx) | ifr (t : Ht) (e : Hx) (r : Hd)
/-- the clauses: the class's number, its subclasses' numbers, the name's slot, the suite -/
inductive Hds where
  | nil | cons (k : Nat) (s : List Nat) (i : Option Nat) (h : Hd) (r : Hds)
mutual
inductive St where
  | asg (i : Nat) (e : Ex)
  | asgT (is : List Nat) (e : Ex)
  | sto (i : Nat) (k v : Ex)
  | drop (e : Ex)
  | ret (e : Ex) | retN
  | iff (c : Tx) (a b : Sts)
  | fr (tg : Tg) (it : Ix) (body : Sts)
  | whl (c : Tx) (body : Sts)
  | brk | cnt | pas
  | stk
  | rse (k : Nat) (fs : List Str) (es : Exs)
  | tri (body : Sts) (hs : Hds)
inductive Sts where
  | nil | cons (s : St) (ss : Sts)
end
/-- a flow -/
inductive Fl where
  | nx (ρ : Env) | rt (r : Sl) (ρ : Env) | bk (ρ : Env) | ct (ρ : Env)
inductive Opd where
  | d (d : D) | s (i : Nat) | t (d : D)
def rdo (ρ : Env) : Opd → Option D
  | .d d => some d
  | .t d => some d
  | .s i => match ρ[i]? with
    | some (some s) => some s.d
    | _ => none
/-! ### operations on data -/
def isStrD : D → Bool
  | .str _ => true
  | _ => false
/-- no dict, no great depth: what == is asked of -/
def eqOk (a : D) : Bool := SeqAt.shaped a
/-! ### keys -/
mutual
def keyN : D → NestedKey
  | .none => .none
  | .bool b => .num (if b then 1 else 0)
  | .int i => .num i
  | .str x => .text x
  | .tuple ds => .tup (keyNs ds)
  | .list _ => .none
  | .dict _ => .none
def keyNs : List D → List NestedKey
  | [] => []
  | d :: ds => keyN d :: keyNs ds
end
/-- two dicts: as many keys, the same under each -/
def lookD (k : D) : List (D × D) → Option D
  | [] => none
  | (a, v) :: r => if keyN a = keyN k then some v else lookD k r
mutual
/-- what may be a key within a tuple -/
def keyD : Nat → D → Bool
  | _, .none => true
  | _, .int _ => true
  | _, .str _ => true
  | n + 1, .tuple ds => keysD n ds
  | _, _ => false
def keysD : Nat → List D → Bool
  | _, [] => true
  | n, d :: ds => keyD n d && keysD n ds
end
/-- kinds of dicts by their keys: ints and texts; tuples -/
def keyK : D → Option Bool
  | .int _ => some false
  | .str _ => some false
  | .tuple ds => if keysD 7 ds then some true else none
  | _ => none
def kindOk (k : D) (kvs : List (D × D)) : Bool := match keyK k with
  | none => false
  | some b => kvs.all fun p => keyK p.1 == some b
def hasD (k : D) (kvs : List (D × D)) : Bool := (lookD k kvs).isSome
def putD (k v : D) : List (D × D) → List (D × D)
  | [] => [(k, v)]
  | (a, u) :: r => if keyN a = keyN k then (a, v) :: r else (a, u) :: putD k v r
def putAll : List (D × D) → List (D × D) → List (D × D)
  | kvs, [] => kvs
  | kvs, (k, v) :: r => putAll (putD k v kvs) r
def eqDict (a b : List (D × D)) : Bool := a.length == b.length && a.all fun p => match lookD p.1 b with
  | some v => PyData.eqv p.2 v
  | none => false
def flatD : D → Bool
  | .none => true
  | .bool _ => true
  | .int _ => true
  | .str _ => true
  | _ => false
def eqD (a b : D) : Option Bool := if eqOk a && eqOk b then some (PyData.eqv a b) else none
mutual
/-- a < b of ints, of texts, of tuples of such; none: never asked -/
def ltD : D → D → Option Bool
  | .int i, .int j => some (decide (i < j))
  | .str x, .str y => some (decide (x.cps.toList < y.cps.toList))
  | .tuple xs, .tuple ys => ltDs xs ys
  | _, _ => none
def ltDs : List D → List D → Option Bool
  | [], [] => some false
  | [], _ :: _ => some true
  | _ :: _, [] => some false
  | x :: xs, y :: ys => if PyData.eqv x y then ltDs xs ys else ltD x y
end
/-- one sign in a text -/
def signIn (a : D) (z : Str) : Option Bool := match a with
  | .str x => (match x.cps.toList with
    | [c] => some (decide (c ∈ z.cps.toList))
    | _ => none)
  | _ => none
def cmpD (o : Cop) (a b : D) : Option Bool := match o with
  | .eq => eqD a b
  | .ne => (eqD a b).map (!·)
  | .lt => (match a, b with
    | .int i, .int j => some (decide (i < j))
    | .str x, .str y => some (decide (x.cps.toList < y.cps.toList))
    | _, _ => none)
  | .le => (match a, b with
    | .int i, .int j => some (decide (i ≤ j))
    | _, _ => none)
  | .gt => (match a, b with
    | .int i, .int j => some (decide (j < i))
    | _, _ => none)
  | .ge => (match a, b with
    | .int i, .int j => some (decide (j ≤ i))
    | _, _ => none)
  | .isin => inD a b
  | .notin => (inD a b).map (!·)
where
  inD (a b : D) : Option Bool := match b with
    | .list ds => if eqOk a && eqOk (.list ds) then some (ds.any fun x => PyData.eqv x a) else none
    | .tuple ds => if eqOk a && eqOk (.tuple ds) then some (ds.any fun x => PyData.eqv x a) else none
    | .dict kvs => if kindOk a kvs then some (hasD a kvs) else none
    | .str z => signIn a z
    | _ => none
def binD (o : Bop) (a b : D) : Option Sl := match o, a, b with
  | .add, .int i, .int j => some (.val (.int (i + j)))
  | .add, .str x, .str y => if x.length + y.length ≤ sizeLine then some (.val (.str (x ++ y))) else none
  | .add, .list xs, .list ys => if xs.length + ys.length ≤ sizeLine then some (.own false (.list (xs ++ ys))) else none
  | .add, .tuple xs, .tuple ys => if xs.length + ys.length ≤ sizeLine then some (.val (.tuple (xs ++ ys))) else none
  | .sub, .int i, .int j => some (.val (.int (i - j)))
  | .mul, .int i, .int j => if (decide (i.natAbs < 2 ^ 64) || decide (j.natAbs < 2 ^ 64)) = true then some (.val (.int (i * j))) else none
  | .fdiv, .int i, .int j => if 0 < j ∧ j < 1073741824 then some (.val (.int (i / j))) else none
  | .mod, .int i, .int j => if 0 < j then some (.val (.int (i % j))) else none
  | .pow, .int i, .int j => if 0 ≤ j ∧ j ≤ 1000000 ∧ i.natAbs < 2 ^ 64 then some (.val (.int (i ^ j.toNat))) else none
  | _, _, _ => none
def atD (xs : List D) (i : Int) : Option D := L2.atI xs i
def idxD (a b : D) : Option D := match a, b with
  | .list xs, .int i => atD xs i
  | .tuple xs, .int i => atD xs i
  | .str x, .int i => if x.length ≤ sizeLine then (L2.atI x.cps.toList i).map fun c => .str ⟨#[c]⟩ else none
  | .dict kvs, k => if kindOk k kvs then lookD k kvs else none
  | _, _ => none
def cutD (xs : List D) (lo hi : Option Int) : List D := (xs.drop (HT.sIx xs.length 0 lo)).take (HT.sIx xs.length xs.length hi - HT.sIx xs.length 0 lo)
def slD (a : D) (lo hi : Option Int) : Option Sl := match a with
  | .list xs => some (.own false (.list (cutD xs lo hi)))
  | .tuple xs => some (.val (.tuple (cutD xs lo hi)))
  | .str z => if z.length ≤ sizeLine then some (.val (.str (L2.cutS z lo hi))) else none
  | _ => none
def truD : D → Option Bool
  | .none => some false
  | .bool b => some b
  | .int i => some (i != 0)
  | .str x => if x.length ≤ sizeLine then some (x.length != 0) else none
  | .list xs => some (!xs.isEmpty)
  | .tuple xs => some (!xs.isEmpty)
  | _ => none
def isiD (t : Ty) : D → Option Bool
  | .none => some false
  | .bool _ => some (t == .bool || t == .int)
  | .int _ => some (t == .int)
  | .str _ => some (t == .str)
  | .list _ => some (t == .list)
  | .tuple _ => some (t == .tuple)
  | .dict _ => some (t == .dict)
def tyD : D → Option Ty
  | .none => none
  | .bool _ => some .bool
  | .int _ => some .int
  | .str _ => some .str
  | .list _ => some .list
  | .tuple _ => some .tuple
  | .dict _ => some .dict
def mthTy : Mth → Option Ty
  | .get => some .dict
  | .join => some .str
  | .split => some .str
  | .index => some .list
  | .count => some .list
def mutTy : Mut → Option Ty
  | .update => some .dict
  | _ => some .list
def intsD : List D → Option (List Int)
  | [] => some []
  | .int i :: r => (intsD r).map (i :: ·)
  | _ :: _ => none
def lastMin : List Int → Option Int
  | [] => none
  | x :: xs => some (xs.foldl min x)
def lastMax : List Int → Option Int
  | [] => none
  | x :: xs => some (xs.foldl max x)
def pairsD : List D → Option (List (D × D))
  | [] => some []
  | .tuple [a, b] :: r => (pairsD r).map ((a, b) :: ·)
  | _ :: _ => none
/-- every key may be stored behind those ahead of it -/
def allKind : List (D × D) → Bool
  | [] => true
  | (k, v) :: r => kindOk k ((k, v) :: r) && allKind r
/-- may a list of these be sorted? -/
def sortOk (xs : List D) : Bool := decide (xs.length ≤ sizeLine) && (xs.all fun x => decide (x.depth ≤ 8) && x.canLay0 && xs.all fun y => PySem.W.alike x y) &&
  ((xs.all fun x => match x with
    | .tuple (_ :: _) => true
    | _ => false) || (xs.all fun x => match x with
    | .tuple _ => false
    | .none => false
    | _ => true))
def sortD (xs : List D) : List D := xs.mergeSort (PySem.W.dataLe false fun d => d)
def one (f : D → Option Sl) : List D → Option Sl
  | [x] => f x
  | _ => none
def lenD : D → Option Sl
  | .list xs => some (.val (.int xs.length))
  | .tuple xs => some (.val (.int xs.length))
  | .str x => if x.length ≤ sizeLine then some (.val (.int x.length)) else none
  | _ => none
def sumD : D → Option Sl
  | .list xs => (intsD xs).map fun ns => .val (.int ns.sum)
  | _ => none
def absD : D → Option Sl
  | .int i => some (.val (.int (if i < 0 then -i else i)))
  | _ => none
def intD : D → Option Sl
  | .int i => some (.val (.int i))
  | .bool b => some (.val (.int (if b then 1 else 0)))
  | _ => none
def strD : D → Option Sl
  | .int i => if i.natAbs.log2 < 1920 then some (.val (.str (Str.ofString (toString i)))) else none
  | _ => none
/-- the least, the greatest of alike data -/
def leastD (least : Bool) (xs : List D) : Option Sl := if sortOk xs then (match xs with
  | [] => none
  | y :: ys => some (.val (if least then PySem.W.minD y ys else PySem.W.maxD y ys))) else none
def minL : D → Option Sl
  | .list xs => (match intsD xs with
    | some ns => (lastMin ns).map fun n => .val (.int n)
    | none => leastD true xs)
  | _ => none
def maxL : D → Option Sl
  | .list xs => (match intsD xs with
    | some ns => (lastMax ns).map fun n => .val (.int n)
    | none => leastD false xs)
  | _ => none
/-- min(l, default=i), max(l, default=i) -/
def mxdD (least : Bool) (i : Int) : D → Option Sl
  | .list [] => some (.val (.int i))
  | .list (y :: ys) => leastD least (y :: ys)
  | _ => none
def min2 : D → D → Option Sl
  | .int i, .int j => some (.val (.int (if j < i then j else i)))
  | _, _ => none
def max2 : D → D → Option Sl
  | .int i, .int j => some (.val (.int (if j > i then j else i)))
  | _, _ => none
def minD : List D → Option Sl
  | [x] => minL x
  | [x, y] => min2 x y
  | _ => none
def maxD : List D → Option Sl
  | [x] => maxL x
  | [x, y] => max2 x y
  | _ => none
def tupD : D → Option Sl
  | .list xs => some (.val (.tuple xs))
  | .tuple xs => some (.val (.tuple xs))
  | .dict kvs => some (.val (.tuple (kvs.map (·.1))))
  | _ => none
def lstD : D → Option Sl
  | .list xs => some (.own false (.list xs))
  | .tuple xs => some (.own false (.list xs))
  | .dict kvs => some (.own false (.list (kvs.map (·.1))))
  | _ => none
def dctD : D → Option Sl
  | .list xs => (pairsD xs).bind fun ps => if allKind ps && decide (ps.length ≤ sizeLine) then some (.own false (.dict (putAll [] ps))) else none
  | _ => none
def srtD : D → Option Sl
  | .list xs => if sortOk xs then some (.own false (.list (sortD xs))) else none
  | .dict kvs => if sortOk (kvs.map (·.1)) then some (.own false (.list (sortD (kvs.map (·.1))))) else none
  | _ => none
def bltD (b : Blt) (ds : List D) : Option Sl := match b with
  | .len => one lenD ds
  | .sum => one sumD ds
  | .abs => one absD ds
  | .int => one intD ds
  | .str => one strD ds
  | .min => minD ds
  | .max => maxD ds
  | .tuple => one tupD ds
  | .list => one lstD ds
  | .dict => one dctD ds
  | .sorted => one srtD ds
def strsD : List D → Option (List Str)
  | [] => some []
  | .str x :: r => (strsD r).map (x :: ·)
  | _ :: _ => none
def joinD (a : Str) (xs : List D) : Option Sl := (strsD xs).bind fun ys => if (ys.map (·.length)).sum + ys.length * a.length ≤ 16777216 then some (.val (.str (Txt.join a ys))) else none
def mthD (m : Mth) (o : D) (ds : List D) : Option Sl := match m, o, ds with
  | .get, .dict kvs, [k] => if kindOk k kvs then some (.val ((lookD k kvs).getD .none)) else none
  | .get, .dict kvs, [k, v] => if kindOk k kvs then some (.val ((lookD k kvs).getD v)) else none
  | .join, .str a, [.list xs] => joinD a xs
  | .join, .str a, [.tuple xs] => joinD a xs
  | _, _, _ => none
def mutD (m : Mut) (o : D) (ds : List D) : Option (D × D) := match m, o, ds with
  | .append, .list xs, [d] => if xs.length < sizeLine then some (.none, .list (xs ++ [d])) else none
  | .pop, .list xs, [] => (xs[xs.length - 1]?).map fun d => (d, .list xs.dropLast)
  | .reverse, .list xs, [] => some (.none, .list xs.reverse)
  | _, _, _ => none
def setD (o k v : D) : Option D := match o, k with
  | .list xs, .int i => (L2.ixN xs.length i).map fun j => .list (xs.set j v)
  | .dict kvs, k => if kindOk k kvs && decide (kvs.length < sizeLine) then some (.dict (putD k v kvs)) else none
  | _, _ => none
/-! ### the walk -/
/-- f, the arguments, what comes, what its in-out arguments hold behind it -/
abbrev CallF := Nat → List D → M (Sl × List D)
/-- which parameters a def changes -/
abbrev Flags := Nat → List Bool
def evoOf (e : Ex) (f : Env → M (Sl × Env)) (ρ : Env) : M (Opd × Env) := match e with
  | .var i => (match ρ[i]? with
    | some (some (.own _ _)) => rt (.s i, ρ)
    | some (some (.val d)) => rt (.d d, ρ)
    | _ => none)
  | _ => bd (f ρ) fun p => rt (.d p.1.d, p.2)
/-- an in-out argument -/
def evlOf (e : Ex) (f : Env → M (Sl × Env)) (ρ : Env) : M (Opd × Env) := match e with
  | .var i => (match ρ[i]? with
    | some (some (.own _ _)) => rt (.s i, ρ)
    | _ => none)
  | _ => bd (f ρ) fun p => match p.1 with
    | .own false d => rt (.t d, p.2)
    | _ => none
def rdAll (ρ : Env) : List Opd → Option (List D)
  | [] => some []
  | o :: os => (rdo ρ o).bind fun d => (rdAll ρ os).map (d :: ·)
/-- the slots lent -/
def lentOf : List Bool → List Opd → List Nat
  | true :: fl, .s i :: os => i :: lentOf fl os
  | _ :: fl, _ :: os => lentOf fl os
  | _, _ => []
def ownAll (ρ : Env) (is : List Nat) : Bool := is.all fun i => match ρ[i]? with
  | some (some (.own _ _)) => true
  | _ => false
/-- a new object as an in-out argument: it is the only one -/
def tempOk (fl : List Bool) (os : List Opd) : Bool := (os.all fun o => match o with
  | .t _ => false
  | _ => true) || (fl.filter id).length == 1
/-- what came back into the lent slots -/
def backIn : List Bool → List Opd → List D → Env → Option Env
  | true :: fl, .s i :: os, d :: outs, ρ => (match ρ[i]? with
    | some (some (.own l _)) => backIn fl os outs (ρ.set i (some (.own l d)))
    | _ => none)
  | true :: fl, .t _ :: os, _ :: outs, ρ => backIn fl os outs ρ
  | true :: _, _ :: _, _, _ => none
  | false :: fl, _ :: os, outs, ρ => backIn fl os outs ρ
  | [], [], [], ρ => some ρ
  | _, _, _, _ => none
def lift {α : Type} (o : Option α) (ρ : Env) : M (α × Env) := match o with
  | some a => rt (a, ρ)
  | none => none
def setSl (ρ : Env) (i : Nat) (s : Sl) : Option Env := match ρ[i]? with
  | some (some (.own true _)) => none
  | some _ => some (ρ.set i (some s))
  | none => none
def setSls (ρ : Env) : List Nat → List D → Option Env
  | [], [] => some ρ
  | i :: is, d :: ds => (setSl ρ i (.val d)).bind fun ρ' => setSls ρ' is ds
  | _, _ => none
def tgS (tg : Tg) (d : D) (ρ : Env) : Option Env := match tg with
  | .name i => setSl ρ i (.val d)
  | .tup is => (match d with
    | .tuple ds => setSls ρ is ds
    | _ => none)
def wipeE (ρ : Env) : List Nat → Env
  | [] => ρ
  | i :: is => (wipeE ρ is).set i none
/-- the slots at is as in ρ0, all else as in ρ -/
def backE (ρ0 ρ : Env) : List Nat → Env
  | [] => ρ
  | i :: is => (backE ρ0 ρ is).set i (ρ0[i]?.getD none)
def clp (f : D → Env → M (Option D × Env)) : List D → Env → M (List D × Env)
  | [], ρ => rt ([], ρ)
  | x :: xs, ρ => bd (f x ρ) fun p => bd (clp f xs p.2) fun q => rt ((match p.1 with | some d => d :: q.1 | none => q.1), q.2)
def opt {α : Type} (o : Option α) : M α := match o with
  | some a => rt a
  | none => none
/-- a turn of a comprehension -/
def compTurn (tg : Tg) (own : List Nat) (t : Env → M (Bool × Env)) (e : Env → M (Sl × Env)) (x : D) (ρ1 : Env) : M (Option D × Env) :=
  bd (opt (tgS tg x (wipeE ρ1 own))) fun ρ2 => bd (t ρ2) fun t => if t.1 = true then bd (e t.2) fun q => rt (some q.1.d, q.2) else rt (none, t.2)
/-- a turn of a comprehension of a dict: a pair -/
def dcTurn (tg : Tg) (own : List Nat) (t : Env → M (Bool × Env)) (k v : Env → M (Sl × Env)) (x : D) (ρ1 : Env) : M (Option D × Env) :=
  bd (opt (tgS tg x (wipeE ρ1 own))) fun ρ2 => bd (t ρ2) fun t => if t.1 = true then bd (k t.2) fun p => bd (v p.2) fun q => rt (some (.tuple [p.1.d, q.1.d]), q.2) else rt (none, t.2)
/-- pairs whose keys are ints or texts -/
def pairsK (xs : List D) : Option (List (D × D)) := (pairsD xs).bind fun ps => if (ps.all fun p => keyK p.1 == some false) && decide (ps.length ≤ sizeLine) then some ps else none
def flp (body : D → Env → M Fl) : List D → Env → M Fl
  | [], ρ => rt (.nx ρ)
  | x :: xs, ρ => bd (body x ρ) fun f => match f with
    | .nx ρ' => flp body xs ρ'
    | .ct ρ' => flp body xs ρ'
    | .bk ρ' => rt (.nx ρ')
    | .rt r ρ' => rt (.rt r ρ')
def wlp (t : Env → M (Bool × Env)) (body : Env → M Fl) : Nat → Env → M Fl
  | 0, _ => none
  | n + 1, ρ => bd (t ρ) fun p => if p.1 = true then bd (body p.2) fun f => match f with
      | .nx ρ' => wlp t body n ρ'
      | .ct ρ' => wlp t body n ρ'
      | .bk ρ' => rt (.nx ρ')
      | .rt r ρ' => rt (.rt r ρ')
    else rt (.nx p.2)
/-- no exception leaves it -/
def nox {α : Type} (m : M α) : M α := match m with
  | some (.ok a) => some (.ok a)
  | _ => none
def iotaD (lo : Int) : Nat → List D
  | 0 => []
  | n + 1 => .int lo :: iotaD (lo + 1) n
/-- the walk of an own list: it is frozen -/
def itemsOf : D → Option (List D)
  | .list xs => some xs
  | .tuple xs => some xs
  | .dict kvs => some (kvs.map (·.1))
  | .str z => if z.length ≤ sizeLine then some (z.cps.toList.map fun c => .str ⟨#[c]⟩) else none
  | _ => none
mutual
def ev (fl : Flags) (c : CallF) : Ex → Env → M (Sl × Env)
  | .var i, ρ => (match ρ[i]? with
    | some (some (.val d)) => rt (.val d, ρ)
    | some (some (.own false d)) => rt (.val d, ρ.set i (some (.val d)))
    | _ => none)
  | .con d, ρ => rt (.val d, ρ)
  | .tup es, ρ => bd (evf fl c es ρ) fun p => if p.1.length ≤ sizeLine then rt (.val (.tuple p.1), p.2) else none
  | .lst es, ρ => bd (evf fl c es ρ) fun p => if p.1.length ≤ sizeLine then rt (.own false (.list p.1), p.2) else none
  | .dct ds, ρ => (match ds with
    | .nil => rt (.own false (.dict []), ρ)
    | _ => none)
  | .bin o a b, ρ => bd (evoOf a (ev fl c a) ρ) fun p => bd (evoOf b (ev fl c b) p.2) fun q => match rdo q.2 p.1, rdo q.2 q.1 with
    | some x, some y => lift (binD o x y) q.2
    | _, _ => none
  | .neg a, ρ => bd (ev fl c a ρ) fun p => match p.1.d with
    | .int i => rt (.val (.int (-i)), p.2)
    | _ => none
  | .cmp o a b, ρ => bd (evoOf a (ev fl c a) ρ) fun p => bd (evoOf b (ev fl c b) p.2) fun q => match rdo q.2 p.1, rdo q.2 q.1 with
    | some x, some y => lift ((cmpD o x y).map fun b => .val (.bool b)) q.2
    | _, _ => none
  | .chn o o' a b e, ρ => bd (ev fl c a ρ) fun p => bd (ev fl c b p.2) fun q => match cmpD o p.1.d q.1.d with
    | some false => rt (.val (.bool false), q.2)
    | some true => bd (ev fl c e q.2) fun r => lift ((cmpD o' q.1.d r.1.d).map fun b => .val (.bool b)) r.2
    | none => none
  | .isn neg a, ρ => bd (evoOf a (ev fl c a) ρ) fun p => match rdo p.2 p.1 with
    | some .none => rt (.val (.bool (!neg)), p.2)
    | some _ => rt (.val (.bool neg), p.2)
    | none => none
  | .isb neg b a, ρ => bd (ev fl c a ρ) fun p => match p.1.d with
    | .bool k => rt (.val (.bool ((k == b) != neg)), p.2)
    | _ => none
  | .and a b, ρ => bd (ev fl c a ρ) fun p => match p.1.d with
    | .bool true => ev fl c b p.2
    | .bool false => rt (.val (.bool false), p.2)
    | _ => none
  | .or a b, ρ => bd (ev fl c a ρ) fun p => match p.1.d with
    | .bool false => ev fl c b p.2
    | .bool true => rt (.val (.bool true), p.2)
    | _ => none
  | .not a, ρ => bd (ev fl c a ρ) fun p => match p.1.d with
    | .bool b => rt (.val (.bool (!b)), p.2)
    | _ => none
  | .ite t a b, ρ => bd (evt fl c t ρ) fun p => if p.1 = true then ev fl c a p.2 else ev fl c b p.2
  | .idx a b, ρ => bd (evoOf a (ev fl c a) ρ) fun p => bd (ev fl c b p.2) fun q => match rdo q.2 p.1 with
    | some x => lift ((idxD x q.1.d).map .val) q.2
    | none => none
  | .sl a lo hi, ρ => bd (evoOf a (ev fl c a) ρ) fun p => bd (evx fl c lo p.2) fun q => bd (evx fl c hi q.2) fun r => match rdo r.2 p.1 with
    | some x => lift (slD x q.1 r.1) r.2
    | none => none
  | .call f es, ρ => bd (eva fl c (fl f) es ρ) fun p => match rdAll p.2 p.1 with
    | some ds => if (lentOf (fl f) p.1).Nodup ∧ ownAll p.2 (lentOf (fl f) p.1) = true ∧ tempOk (fl f) p.1 = true then bd (c f ds) fun r => (match backIn (fl f) p.1 r.2 p.2 with
        | some ρ' => rt (r.1, ρ')
        | none => none) else none
    | none => none
  | .blt b es, ρ => bd (evos fl c es ρ) fun p => match rdAll p.2 p.1 with
    | some ds => lift (bltD b ds) p.2
    | none => none
  | .isi a t, ρ => bd (evoOf a (ev fl c a) ρ) fun p => match rdo p.2 p.1 with
    | some x => lift ((isiD t x).map fun b => .val (.bool b)) p.2
    | none => none
  | .mth m o es, ρ => bd (evoOf o (ev fl c o) ρ) fun p => match rdo p.2 p.1 with
    | some x0 => if tyD x0 = mthTy m then bd (evf fl c es p.2) fun q => (match rdo q.2 p.1 with
        | some x => lift (mthD m x q.1) q.2
        | none => none) else none
    | none => none
  | .mut m i es, ρ => (match ρ[i]? with
    | some (some (.own _ d0)) => if tyD d0 = mutTy m then bd (evf fl c es ρ) fun p => (match p.2[i]? with
        | some (some (.own l d)) => (match mutD m d p.1 with
          | some (r, d') => rt (.val r, p.2.set i (some (.own l d')))
          | none => none)
        | _ => none) else none
    | _ => none)
  | .comp own elt tg it ifs, ρ => bd (evi fl c it ρ) fun p =>
      bd (nox (clp (compTurn tg own (evt fl c ifs) (ev fl c elt)) p.1 p.2))
        fun q => rt (.own false (.list q.1), backE p.2 q.2 own)
  | .glo _ d, ρ => rt (.val d, ρ)
  | .mxd least a i, ρ => bd (evoOf a (ev fl c a) ρ) fun p => match rdo p.2 p.1 with
    | some x => lift (mxdD least i x) p.2
    | none => none
  | .dcomp own k v tg it ifs, ρ => bd (evi fl c it ρ) fun p =>
      bd (nox (clp (dcTurn tg own (evt fl c ifs) (ev fl c k) (ev fl c v)) p.1 p.2))
        fun q => match pairsK q.1 with
          | some ps => rt (.own false (.dict (putAll [] ps)), backE p.2 q.2 own)
          | none => none
  | .stk, _ => none
/-- frozen, from the left -/
def evf (fl : Flags) (c : CallF) : Exs → Env → M (List D × Env)
  | .nil, ρ => rt ([], ρ)
  | .cons e es, ρ => bd (ev fl c e ρ) fun p => bd (evf fl c es p.2) fun q => rt (p.1.d :: q.1, q.2)
/-- keys and values of a display -/
def evd (fl : Flags) (c : CallF) : Ds → Env → M (List (D × D) × Env)
  | .nil, ρ => rt ([], ρ)
  | .cons k v ds, ρ => bd (ev fl c k ρ) fun p => bd (ev fl c v p.2) fun q => bd (evd fl c ds q.2) fun r => rt ((p.1.d, q.1.d) :: r.1, r.2)
def evos (fl : Flags) (c : CallF) : Exs → Env → M (List Opd × Env)
  | .nil, ρ => rt ([], ρ)
  | .cons e es, ρ => bd (evoOf e (ev fl c e) ρ) fun p => bd (evos fl c es p.2) fun q => rt (p.1 :: q.1, q.2)
def eva (fl : Flags) (c : CallF) : List Bool → Exs → Env → M (List Opd × Env)
  | [], .nil, ρ => rt ([], ρ)
  | true :: bs, .cons e es, ρ => bd (evlOf e (ev fl c e) ρ) fun p => bd (eva fl c bs es p.2) fun q => rt (p.1 :: q.1, q.2)
  | false :: bs, .cons e es, ρ => bd (ev fl c e ρ) fun p => bd (eva fl c bs es p.2) fun q => rt (.d p.1.d :: q.1, q.2)
  | _, _, _ => none
/-- a part of a slice -/
def evx (fl : Flags) (c : CallF) : Ox → Env → M (Option Int × Env)
  | .non, ρ => rt (none, ρ)
  | .som e, ρ => bd (ev fl c e ρ) fun p => match p.1.d with
    | .int i => rt (some i, p.2)
    | _ => none
def evt (fl : Flags) (c : CallF) : Tx → Env → M (Bool × Env)
  | .and a b, ρ => bd (evt fl c a ρ) fun p => if p.1 = true then evt fl c b p.2 else rt (false, p.2)
  | .or a b, ρ => bd (evt fl c a ρ) fun p => if p.1 = true then rt (true, p.2) else evt fl c b p.2
  | .not a, ρ => bd (evt fl c a ρ) fun p => rt (!p.1, p.2)
  | .ite t a b, ρ => bd (evt fl c t ρ) fun p => if p.1 = true then evt fl c a p.2 else evt fl c b p.2
  | .tr e, ρ => bd (evoOf e (ev fl c e) ρ) fun p => match rdo p.2 p.1 with
    | some d => lift (truD d) p.2
    | none => none
  | .yes, ρ => rt (true, ρ)
def evi (fl : Flags) (c : CallF) : Ix → Env → M (List D × Env)
  | .seq e, ρ => bd (ev fl c e ρ) fun p => match itemsOf p.1.d with
    | some xs => rt (xs, p.2)
    | none => none
  | .rng1 e, ρ => bd (ev fl c e ρ) fun p => match p.1.d with
    | .int n => if n ≤ sizeLine ∧ -1000000000 ≤ n then rt (iotaD 0 n.toNat, p.2) else none
    | _ => none
  | .rng2 a b, ρ => bd (ev fl c a ρ) fun p => bd (ev fl c b p.2) fun q => match p.1.d, q.1.d with
    | .int i, .int j => if (j - i ≤ sizeLine ∧ -1000000000 ≤ i ∧ i ≤ 1000000000) ∧ -1000000000 ≤ j ∧ j ≤ 1000000000 then rt (iotaD i (j - i).toNat, q.2) else none
    | _, _ => none
  | .items e, ρ => bd (ev fl c e ρ) fun p => match p.1.d with
    | .dict kvs => rt (kvs.map (fun kv => .tuple [kv.1, kv.2]), p.2)
    | _ => none
end
/-- a def's answer: an own list goes out -/
def evrOf (e : Ex) (f : Env → M (Sl × Env)) (ρ : Env) : M (Sl × Env) := match e with
  | .var i => (match ρ[i]? with
    | some (some (.own false d)) => rt (.own false d, ρ.set i none)
    | some (some (.val d)) => rt (.val d, ρ)
    | _ => none)
  | _ => f ρ
def whileMost : Nat := 1000000
/-! ### except suites -/
mutual
def hxv (x : Exn) (ρ : Env) : Hx → Option D
  | .con d => some d
  | .var i => (match ρ[i]? with
    | some (some (.val d)) => some d
    | _ => none)
  | .fld f => x.args.lookup f
  | .ise _ s => some (.bool (s.contains x.cls))
  | .not a => (match hxv x ρ a with
    | some (.bool b) => some (.bool (!b))
    | _ => none)
  | .and a b => (match hxv x ρ a with
    | some (.bool true) => hxv x ρ b
    | some (.bool false) => some (.bool false)
    | _ => none)
  | .or a b => (match hxv x ρ a with
    | some (.bool false) => hxv x ρ b
    | some (.bool true) => some (.bool true)
    | _ => none)
  | .ite t a b => (match htv x ρ t with
    | some true => hxv x ρ a
    | some false => hxv x ρ b
    | none => none)
  | .cmp o a b => (match hxv x ρ a, hxv x ρ b with
    | some u, some v => (cmpD o u v).map PyData.bool
    | _, _ => none)
  | .tup es => (match hxs x ρ es with
    | some ds => if ds.length ≤ sizeLine then some (.tuple ds) else none
    | none => none)
  | .lst es => (match hxs x ρ es with
    | some ds => if ds.length ≤ sizeLine then some (.list ds) else none
    | none => none)
def hxs (x : Exn) (ρ : Env) : Hxs → Option (List D)
  | .nil => some []
  | .cons e es => (match hxv x ρ e, hxs x ρ es with
    | some d, some ds => some (d :: ds)
    | _, _ => none)
def htv (x : Exn) (ρ : Env) : Ht → Option Bool
  | .and a b => (match htv x ρ a with
    | some true => htv x ρ b
    | some false => some false
    | none => none)
  | .or a b => (match htv x ρ a with
    | some false => htv x ρ b
    | some true => some true
    | none => none)
  | .not a => (htv x ρ a).map (!·)
  | .tr e => (match hxv x ρ e with
    | some (.bool b) => some b
    | _ => none)
end
/-- an answer: a list that is made here is one's own -/
def hrv (x : Exn) (ρ : Env) : Hx → Option Sl
  | .lst es => (match hxs x ρ es with
    | some ds => if ds.length ≤ sizeLine then some (.own false (.list ds)) else none
    | none => none)
  | e => (hxv x ρ e).map .val
def hdv (x : Exn) (ρ : Env) : Hd → Option Sl
  | .ret e => hrv x ρ e
  | .ifr t e r => (match htv x ρ t with
    | some true => hrv x ρ e
    | some false => hdv x ρ r
    | none => none)
/-- the slots behind an exception: what was one's own may have changed -/
def poison (ρ : Env) : Env := ρ.map fun s => match s with
  | some (.val d) => some (.val d)
  | _ => none
def wipe1 (ρ : Env) : Option Nat → Env
  | some i => ρ.set i none
  | none => ρ
/-- the clauses, one after the other -/
def hdsv (x : Exn) (ρ : Env) : Hds → M Fl
  | .nil => some (.error x)
  | .cons _ s i h r => if s.contains x.cls = true then (match hdv x (wipe1 ρ i) h with
    | some a => rt (.rt a (wipe1 ρ i))
    | none => none) else hdsv x ρ r
mutual
def evS (fl : Flags) (c : CallF) : St → Env → M Fl
  | .asg i e, ρ => bd (ev fl c e ρ) fun p => bd (opt (setSl p.2 i p.1)) fun ρ' => rt (.nx ρ')
  | .asgT is e, ρ => bd (ev fl c e ρ) fun p => bd (opt (tgS (.tup is) p.1.d p.2)) fun ρ' => rt (.nx ρ')
  | .sto i k v, ρ => bd (ev fl c v ρ) fun p => if ownAll p.2 [i] = true then bd (ev fl c k p.2) fun q => (match q.2[i]? with
    | some (some (.own l d)) => (match setD d q.1.d p.1.d with
      | some d' => rt (.nx (q.2.set i (some (.own l d'))))
      | none => none)
    | _ => none) else none
  | .drop e, ρ => bd (ev fl c e ρ) fun p => rt (.nx p.2)
  | .ret e, ρ => bd (evrOf e (ev fl c e) ρ) fun p => rt (.rt p.1 p.2)
  | .retN, ρ => rt (.rt (.val .none) ρ)
  | .iff t a b, ρ => bd (evt fl c t ρ) fun p => if p.1 = true then evSs fl c a p.2 else evSs fl c b p.2
  | .fr tg it body, ρ => bd (evi fl c it ρ) fun p => flp (fun x ρ1 => bd (opt (tgS tg x ρ1)) fun ρ2 => evSs fl c body ρ2) p.1 p.2
  | .whl t body, ρ => wlp (evt fl c t) (evSs fl c body) whileMost ρ
  | .brk, ρ => rt (.bk ρ)
  | .cnt, ρ => rt (.ct ρ)
  | .pas, ρ => rt (.nx ρ)
  | .stk, _ => none
  | .rse k fs es, ρ => bd (evf fl c es ρ) fun p => if p.1.length = fs.length then some (.error ⟨k, fs.zip p.1⟩) else none
  | .tri body hs, ρ => (match evSs fl c body ρ with
    | some (.error x) => hdsv x (poison ρ) hs
    | out => out)
def evSs (fl : Flags) (c : CallF) : Sts → Env → M Fl
  | .nil, ρ => rt (.nx ρ)
  | .cons s .nil, ρ => evS fl c s ρ
  | .cons s ss, ρ => bd (evS fl c s ρ) fun f => match f with
    | .nx ρ' => evSs fl c ss ρ'
    | f => rt f
end
/-- a def: parameters (which are in-out), the number of names, the body -/
structure Def where
  flags : List Bool
  ns : Nat
  body : Sts
def startE (d : Def) (ds : List D) : Env := (List.zipWith (fun b x => if b then some (Sl.own true x) else some (Sl.val x)) d.flags ds) ++ List.replicate (d.ns - d.flags.length) none
def outsOf : List Bool → Env → Option (List D)
  | [], _ => some []
  | true :: fl, some (.own true d) :: ρ => (outsOf fl ρ).map (d :: ·)
  | true :: _, _ => none
  | false :: fl, _ :: ρ => outsOf fl ρ
  | false :: _, [] => none
def runDef (fl : Flags) (c : CallF) (d : Def) (ds : List D) : M (Sl × List D) :=
  if ds.length = d.flags.length then bd (evSs fl c d.body (startE d ds)) fun f => match f with
    | .nx ρ => (match outsOf d.flags ρ with
      | some os => rt (.val .none, os)
      | none => none)
    | .rt r ρ => (match outsOf d.flags ρ with
      | some os => rt (r, os)
      | none => none)
    | _ => none
  else none
def flagsOf (T : List Def) : Flags := fun f => match T[f]? with
  | some d => d.flags
  | none => []
def call (T : List Def) : Nat → CallF
  | 0 => fun _ _ => none
  | n + 1 => fun f ds => match T[f]? with
    | some d => runDef (flagsOf T) (call T n) d ds
    | none => none
end Ev
end
section
set_option maxHeartbeats 200000
set_option maxRecDepth 100000
/-! Does a small form stand for a text's own? -/
namespace Ev
open PySem L2
/-- a class of exceptions: its name, its fields, its subclasses' numbers -/
structure ClsD where
  name : Str
  flds : List Str
  subs : List Nat
/-- the defs of a text, its constants, its classes of exceptions -/
structure Nms where
  fn : List Str
  gl : List (Str × D)
  cl : List ClsD
def bltName : Blt → String
  | .len => "len" | .sum => "sum" | .sorted => "sorted" | .min => "min" | .max => "max" | .abs => "abs" | .int => "int" | .str => "str" | .tuple => "tuple" | .list => "list" | .dict => "dict"
def tyName : Ty → String
  | .int => "int" | .str => "str" | .bool => "bool" | .tuple => "tuple" | .list => "list" | .dict => "dict"
def mthName : Mth → String
  | .get => "get" | .join => "join" | .split => "split" | .index => "index" | .count => "count"
def mutName : Mut → String
  | .append => "append" | .pop => "pop" | .reverse => "reverse" | .extend => "extend" | .update => "update"
def bopOf : Bop → Operator
  | .add => .Add | .sub => .Sub | .mul => .Mult | .fdiv => .FloorDiv | .mod => .Mod | .pow => .Pow
def copOf : Cop → CmpOp
  | .eq => .Eq | .ne => .NotEq | .lt => .Lt | .le => .LtE | .gt => .Gt | .ge => .GtE | .isin => .In | .notin => .NotIn
/-- all names that a text may lean on as built-in -/
def bltNames : List Str := ["len", "sum", "sorted", "min", "max", "abs", "int", "str", "tuple", "list", "dict", "isinstance", "range", "bool"]
def visB (sc : Scope) (x : Str) : Bool := match sc.names.lookup x with
  | some .local => true
  | some .cell => true
  | some .free => true
  | _ => false
def locB (sc : Scope) (x : Str) : Bool := match sc.names.lookup x with
  | some .local => true
  | _ => false
def loccB (sc : Scope) (x : Str) : Bool := match sc.names.lookup x with
  | some .local => true
  | some .cell => true
  | _ => false
def gloB (sc : Scope) (x : Str) : Bool := match sc.names.lookup x with
  | some .globalImplicit => true
  | _ => false
def isN (N : List Str) (i : Nat) (x : Str) : Bool := decide (N[i]? = some x)
def okVar (N : List Str) (sc : Scope) (i : Nat) (x : Str) : Bool := isN N i x && visB sc x && !(x == ("__debug__" : Str)) && !(x == ("__classdict__" : Str))
/-- a built-in name in the place of a function -/
def okBlt (sc : Scope) (n : String) (x : Str) : Bool := decide (x = Str.ofString n) && gloB sc x
def conB : D → Const → Bool
  | .none, .none => true
  | .bool a, .bool b => a == b
  | .int i, .int j => decide (i = j)
  | .str x, .str y => decide (x = y)
  | _, _ => false
def ownP (N : List Str) : List Nat → List (Str × Nat)
  | [] => []
  | i :: is => (match N[i]? with
    | some x => [(x, i)]
    | none => []) ++ ownP N is
/-- a name that is stored -/
def okTg (N : List Str) (sc : Scope) (i : Nat) : Expr → Bool
  | .Name x _ => isN N i x && loccB sc x
  | _ => false
def okTgs (N : List Str) (sc : Scope) : List Nat → List Expr → Bool
  | [], [] => true
  | i :: is, e :: es => okTg N sc i e && okTgs N sc is es
  | _, _ => false
def chkTg (N : List Str) (sc : Scope) : Tg → Expr → Bool
  | .name i, e => okTg N sc i e
  | .tup is, .Tuple es _ _ => okTgs N sc is es
  | _, _ => false
/-- the target's names are among those -/
def tgIn : Tg → List Nat → Bool
  | .name i, own => own.contains i
  | .tup is, own => is.all fun i => own.contains i
def isCmp : Ex → Bool
  | .cmp _ _ _ => true
  | .chn _ _ _ _ _ => true
  | .isn _ _ => true
  | .isb _ _ _ => true
  | _ => false
/-- a test's form that is no and, or, not, if -/
def plainT : Expr → Bool
  | .UnaryOp .Not _ _ => false
  | .BoolOp _ _ _ => false
  | .IfExp _ _ _ _ => false
  | .Compare _ _ _ _ => false
  | _ => true
def noStar : Expr → Bool
  | .Starred _ _ => false
  | _ => true
def okBase : Expr → Bool
  | .Call (.Name _ _) [] [] _ => false
  | _ => true
def noSet : Expr → Bool
  | .Set _ _ _ => false
  | _ => true
theorem noSet_marks {o : CmpOp} {y : Expr} (h : noSet y = true) : behindInMarks o y = false := by
  cases y <;> first | rfl | cases h
/-- a constant of the text -/
def conD : D → Bool
  | .none => true
  | .bool _ => true
  | .int _ => true
  | .str _ => true
  | _ => false
def sameCon1 : D → D → Bool
  | .none, .none => true
  | .bool a, .bool b => a == b
  | .int i, .int j => decide (i = j)
  | .str x, .str y => decide (x = y)
  | _, _ => false
def sameCons : List D → List D → Bool
  | [], [] => true
  | a :: as, b :: bs => sameCon1 a b && sameCons as bs
  | _, _ => false
def sameCon : D → D → Bool
  | .tuple xs, .tuple ys => sameCons xs ys
  | a, b => sameCon1 a b
def gloOk (gl : List (Str × D)) (x : Str) (d : D) : Bool := match gl.lookup x with
  | some e => sameCon d e
  | none => false
/-- a dict's items are walked under one name -/
def itTg : Ix → Expr → Bool
  | .items _, .Name _ _ => true
  | .items _, _ => false
  | _, _ => true
mutual
def chkE (N : List Str) (FN : Nms) (sc : Scope) : Ex → Expr → Bool
  | .stk, _ => true
  | .var i, e => (match e with
    | .Name x _ => okVar N sc i x
    | _ => false)
  | .con d, e => (match e with
    | .Constant k _ _ => conB d k
    | _ => false)
  | .tup es, e => (match e with
    | .Tuple xs _ _ => chkEs N FN sc es xs
    | _ => false)
  | .lst es, e => (match e with
    | .List xs _ => chkEs N FN sc es xs
    | _ => false)
  | .dct ds, e => (match e with
    | .Dict ks vs _ => chkDs N FN sc ds ks vs
    | _ => false)
  | .bin o a b, e => (match e with
    | .BinOp x op y _ => decide (op = bopOf o) && chkE N FN sc a x && chkE N FN sc b y
    | _ => false)
  | .neg a, e => (match e with
    | .UnaryOp .USub x _ => chkE N FN sc a x
    | _ => false)
  | .cmp o a b, e => (match e with
    | .Compare x [op] [y] _ => noSet y && decide (op = copOf o) && chkE N FN sc a x && chkE N FN sc b y
    | _ => false)
  | .chn o p a b c, e => (match e with
    | .Compare x [op, op'] [y, z] _ => noSet z && decide (op = copOf o) && decide (op' = copOf p) && chkE N FN sc a x && chkE N FN sc b y && chkE N FN sc c z
    | _ => false)
  | .isn ng a, e => (match e with
    | .Compare x [op] [.Constant .none _ _] _ => decide (op = if ng then .IsNot else .Is) && chkE N FN sc a x
    | _ => false)
  | .isb ng b a, e => (match e with
    | .Compare x [op] [.Constant (.bool k) _ _] _ => decide (op = if ng then .IsNot else .Is) && (k == b) && chkE N FN sc a x
    | _ => false)
  | .and a b, e => (match e with
    | .BoolOp .And [x, y] _ => chkE N FN sc a x && chkE N FN sc b y
    | .BoolOp .And (x :: y :: z :: r) pos => chkE N FN sc a x && chkE N FN sc b (.BoolOp .And (y :: z :: r) pos)
    | _ => false)
  | .or a b, e => (match e with
    | .BoolOp .Or [x, y] _ => chkE N FN sc a x && chkE N FN sc b y
    | .BoolOp .Or (x :: y :: z :: r) pos => chkE N FN sc a x && chkE N FN sc b (.BoolOp .Or (y :: z :: r) pos)
    | _ => false)
  | .not a, e => (match e with
    | .UnaryOp .Not x _ => chkE N FN sc a x
    | _ => false)
  | .ite t a b, e => (match e with
    | .IfExp x y z _ => chkT N FN sc t x && chkE N FN sc a y && chkE N FN sc b z
    | _ => false)
  | .idx a b, e => (match e with
    | .Subscript x y _ => (match y with
      | .Slice _ _ _ _ => false
      | _ => true) && chkE N FN sc a x && chkE N FN sc b y
    | _ => false)
  | .sl a lo hi, e => (match e with
    | .Subscript x (.Slice l h none _) _ => chkE N FN sc a x && chkO N FN sc lo l && chkO N FN sc hi h
    | _ => false)
  | .call f es, e => (match e with
    | .Call (.Name x _) xs [] _ => decide (FN.fn[f]? = some x) && gloB sc x && !(x == ("__debug__" : Str)) && chkEs N FN sc es xs
    | _ => false)
  | .blt b es, e => (match e with
    | .Call (.Name x _) xs [] _ => okBlt sc (bltName b) x && (match xs with
      | [] => false
      | _ => true) && chkEs N FN sc es xs
    | _ => false)
  | .isi a t, e => (match e with
    | .Call (.Name x _) [y, .Name z _] [] _ => okBlt sc "isinstance" x && okBlt sc (tyName t) z && chkE N FN sc a y
    | _ => false)
  | .mth m o es, e => (match e with
    | .Call (.Attribute x at_ ap) xs [] cp => decide (at_ = Str.ofString (mthName m)) && okBase x && (ap.endLine == cp.line) && decide (xs.length < 30) && chkE N FN sc o x && chkEs N FN sc es xs
    | _ => false)
  | .mut m i es, e => (match e with
    | .Call (.Attribute (.Name x _) at_ ap) xs [] cp => decide (at_ = Str.ofString (mutName m)) && (ap.endLine == cp.line) && decide (xs.length < 30) && okVar N sc i x && chkEs N FN sc es xs
    | _ => false)
  | .glo x d, e => (match e with
    | .Name y _ => decide (y = x) && gloB sc y && !(y == ("__debug__" : Str)) && gloOk FN.gl x d
    | _ => false)
  | .mxd least a i, e => (match e with
    | .Call (.Name x _) [y] [⟨some k, .Constant (.int j) _ _, _⟩] _ => okBlt sc (if least then "min" else "max") x && noStar y && decide (k = "default") && decide (j = i) && chkE N FN sc a y
    | _ => false)
  | .dcomp own k v tg it ifs, e => (match e with
    | .DictComp x y [⟨t, i, cs, 0⟩] scope _ => blkC N sc scope (ownP N own) && decide ((ownP N own).map (·.2) = own) && chkI N FN sc it i && chkTg N scope tg t && tgIn tg own &&
        (match cs with
        | [] => (match ifs with
          | .yes => true
          | _ => false)
        | [q] => chkT N FN (relS scope sc) ifs q
        | _ => false) && chkE N FN (relS scope sc) k x && chkE N FN (relS scope sc) v y && itTg it t
    | _ => false)
  | .comp own elt tg it ifs, e => (match e with
    | .ListComp x [⟨t, i, cs, 0⟩] scope _ => blkC N sc scope (ownP N own) && decide ((ownP N own).map (·.2) = own) && chkI N FN sc it i && chkTg N scope tg t && tgIn tg own &&
        (match cs with
        | [] => (match ifs with
          | .yes => true
          | _ => false)
        | [q] => chkT N FN (relS scope sc) ifs q
        | _ => false) && chkE N FN (relS scope sc) elt x && itTg it t
    | _ => false)
def chkEs (N : List Str) (FN : Nms) (sc : Scope) : Exs → List Expr → Bool
  | .nil, xs => (match xs with
    | [] => true
    | _ => false)
  | .cons e es, xs => (match xs with
    | x :: r => noStar x && chkE N FN sc e x && chkEs N FN sc es r
    | _ => false)
def chkDs (N : List Str) (FN : Nms) (sc : Scope) : Ds → List (Option Expr) → List Expr → Bool
  | .nil, ks, vs => (match ks, vs with
    | [], [] => true
    | _, _ => false)
  | .cons k v ds, ks, vs => (match ks, vs with
    | some x :: kr, y :: vr => chkE N FN sc k x && chkE N FN sc v y && chkDs N FN sc ds kr vr
    | _, _ => false)
def chkO (N : List Str) (FN : Nms) (sc : Scope) : Ox → Option Expr → Bool
  | .non, o => (match o with
    | none => true
    | _ => false)
  | .som e, o => (match o with
    | some x => chkE N FN sc e x
    | none => false)
def chkT (N : List Str) (FN : Nms) (sc : Scope) : Tx → Expr → Bool
  | .yes, _ => false
  | .and a b, e => (match e with
    | .BoolOp .And [x, y] _ => chkT N FN sc a x && chkT N FN sc b y
    | .BoolOp .And (x :: y :: z :: r) pos => chkT N FN sc a x && chkT N FN sc b (.BoolOp .And (y :: z :: r) pos)
    | _ => false)
  | .or a b, e => (match e with
    | .BoolOp .Or [x, y] _ => chkT N FN sc a x && chkT N FN sc b y
    | .BoolOp .Or (x :: y :: z :: r) pos => chkT N FN sc a x && chkT N FN sc b (.BoolOp .Or (y :: z :: r) pos)
    | _ => false)
  | .not a, e => (match e with
    | .UnaryOp .Not x _ => chkT N FN sc a x
    | _ => false)
  | .ite t a b, e => (match e with
    | .IfExp x y z _ => chkT N FN sc t x && chkT N FN sc a y && chkT N FN sc b z
    | _ => false)
  | .tr a, e => (match e with
    | .Compare x ops ys pos => isCmp a && chkE N FN sc a (.Compare x ops ys pos)
    | _ => plainT e && chkE N FN sc a e)
def chkI (N : List Str) (FN : Nms) (sc : Scope) : Ix → Expr → Bool
  | .seq a, e => (match e with
    | .Set _ _ _ => false
    | _ => true) && chkE N FN sc a e
  | .rng1 a, e => (match e with
    | .Call (.Name x _) [y] [] _ => okBlt sc "range" x && noStar y && chkE N FN sc a y
    | _ => false)
  | .rng2 a b, e => (match e with
    | .Call (.Name x _) [y, z] [] _ => okBlt sc "range" x && noStar y && noStar z && chkE N FN sc a y && chkE N FN sc b z
    | _ => false)
  | .items a, e => (match e with
    | .Call (.Attribute x at_ ap) [] [] cp => decide (at_ = Str.ofString "items") && okBase x && (ap.endLine == cp.line) && chkE N FN sc a x
    | _ => false)
end
def noComp : Expr → Bool
  | .ListComp _ _ _ _ => false
  | .SetComp _ _ _ _ => false
  | .DictComp _ _ _ _ _ => false
  | _ => true
def noTup : Expr → Bool
  | .Tuple _ _ _ => false
  | _ => true
/-! ### except suites -/
/-- the class that is named -/
def okCl (FN : Nms) (sc : Scope) (k : Nat) (s : List Nat) (x : Str) : Bool := gloB sc x && !(x == ("__debug__" : Str)) && (match FN.cl[k]? with
  | some d => decide (d.name = x) && decide (d.subs = s)
  | none => false)
/-- the name of the clause -/
def okErr (N : List Str) (sc : Scope) (i : Option Nat) (x : Str) : Bool := match i with
  | some j => okVar N sc j x && locB sc x
  | none => false
mutual
def chkHx (N : List Str) (FN : Nms) (sc : Scope) (i : Option Nat) : Hx → Expr → Bool
  | .con d, e => (match e with
    | .Constant k _ _ => conB d k
    | _ => false)
  | .var j, e => (match e with
    | .Name x _ => okVar N sc j x
    | _ => false)
  | .fld f, e => (match e with
    | .Attribute (.Name x _) g _ => decide (g = f) && okErr N sc i x
    | _ => false)
  | .ise k s, e => (match e with
    | .Call (.Name x _) [.Name y _, .Name z _] [] _ => okBlt sc "isinstance" x && okErr N sc i y && okCl FN sc k s z
    | _ => false)
  | .not a, e => (match e with
    | .UnaryOp .Not x _ => chkHx N FN sc i a x
    | _ => false)
  | .and a b, e => (match e with
    | .BoolOp .And [x, y] _ => chkHx N FN sc i a x && chkHx N FN sc i b y
    | .BoolOp .And (x :: y :: z :: r) pos => chkHx N FN sc i a x && chkHx N FN sc i b (.BoolOp .And (y :: z :: r) pos)
    | _ => false)
  | .or a b, e => (match e with
    | .BoolOp .Or [x, y] _ => chkHx N FN sc i a x && chkHx N FN sc i b y
    | .BoolOp .Or (x :: y :: z :: r) pos => chkHx N FN sc i a x && chkHx N FN sc i b (.BoolOp .Or (y :: z :: r) pos)
    | _ => false)
  | .ite t a b, e => (match e with
    | .IfExp x y z _ => chkHt N FN sc i t x && chkHx N FN sc i a y && chkHx N FN sc i b z
    | _ => false)
  | .cmp o a b, e => (match e with
    | .Compare x [op] [y] _ => noSet y && decide (op = copOf o) && chkHx N FN sc i a x && chkHx N FN sc i b y
    | _ => false)
  | .tup es, e => (match e with
    | .Tuple xs _ _ => chkHxs N FN sc i es xs
    | _ => false)
  | .lst es, e => (match e with
    | .List xs _ => chkHxs N FN sc i es xs
    | _ => false)
def chkHxs (N : List Str) (FN : Nms) (sc : Scope) (i : Option Nat) : Hxs → List Expr → Bool
  | .nil, xs => (match xs with
    | [] => true
    | _ => false)
  | .cons e es, xs => (match xs with
    | x :: r => noStar x && chkHx N FN sc i e x && chkHxs N FN sc i es r
    | _ => false)
def chkHt (N : List Str) (FN : Nms) (sc : Scope) (i : Option Nat) : Ht → Expr → Bool
  | .and a b, e => (match e with
    | .BoolOp .And [x, y] _ => chkHt N FN sc i a x && chkHt N FN sc i b y
    | .BoolOp .And (x :: y :: z :: r) pos => chkHt N FN sc i a x && chkHt N FN sc i b (.BoolOp .And (y :: z :: r) pos)
    | _ => false)
  | .or a b, e => (match e with
    | .BoolOp .Or [x, y] _ => chkHt N FN sc i a x && chkHt N FN sc i b y
    | .BoolOp .Or (x :: y :: z :: r) pos => chkHt N FN sc i a x && chkHt N FN sc i b (.BoolOp .Or (y :: z :: r) pos)
    | _ => false)
  | .not a, e => (match e with
    | .UnaryOp .Not x _ => chkHt N FN sc i a x
    | _ => false)
  | .tr a, e => plainT e && chkHx N FN sc i a e
end
def chkHd (N : List Str) (FN : Nms) (sc : Scope) (i : Option Nat) : Hd → List Stmt → Bool
  | .ret a, ss => (match ss with
    | [.Return (some x) _] => chkHx N FN sc i a x
    | _ => false)
  | .ifr t a r, ss => (match ss with
    | .If x [.Return (some y) _] [] _ :: rest => chkHt N FN sc i t x && chkHx N FN sc i a y && chkHd N FN sc i r rest
    | _ => false)
def chkHds (N : List Str) (FN : Nms) (sc : Scope) : Hds → List ExceptHandler → Bool
  | .nil, hs => (match hs with
    | [] => true
    | _ => false)
  | .cons k s i h r, hs => (match hs with
    | .ExceptHandler (some (.Name x _)) n suite _ :: rest => okCl FN sc k s x && (match n, i with
      | none, none => true
      | some y, some j => isN N j y && locB sc y
      | _, _ => false) && chkHd N FN sc i h suite && chkHds N FN sc r rest
    | _ => false)
/-- the slots at a raise are those of the entry -/
def quiet : Sts → Bool
  | .cons (.ret _) .nil => true
  | .cons (.asg _ _) .nil => true
  | .cons (.drop _) .nil => true
  | .cons (.drop _) (.cons (.ret _) .nil) => true
  | .cons (.iff _ (.cons (.ret _) .nil) .nil) (.cons s ss) => quiet (.cons s ss)
  | _ => false
def okHs : Hds → Bool
  | .nil => false
  | _ => true
mutual
def chkS (N : List Str) (FN : Nms) (sc : Scope) : St → Stmt → Bool
  | .stk, _ => true
  | .asg i e, s => (match s with
    | .Assign [t] x _ => okTg N sc i t && (match x with
      | .SetComp _ _ _ _ => false
      | .DictComp _ _ _ _ _ => false
      | _ => true) && chkE N FN sc e x
    | _ => false)
  | .asgT is e, s => (match s with
    | .Assign [.Tuple ts _ _] x _ => okTgs N sc is ts && noTup x && noComp x && chkE N FN sc e x
    | _ => false)
  | .sto i k v, s => (match s with
    | .Assign [.Subscript (.Name o _) y _] x _ => okVar N sc i o && (match y with
      | .Slice _ _ _ _ => false
      | _ => true) && noComp x && chkE N FN sc k y && chkE N FN sc v x
    | _ => false)
  | .drop e, s => (match s with
    | .Expr x _ => noComp x && chkE N FN sc e x
    | _ => false)
  | .ret e, s => (match s with
    | .Return (some x) _ => chkE N FN sc e x
    | _ => false)
  | .retN, s => (match s with
    | .Return none _ => true
    | _ => false)
  | .iff t a b, s => (match s with
    | .If x y z _ => chkT N FN sc t x && chkSs N FN sc a y && chkSs N FN sc b z
    | _ => false)
  | .fr tg it body, s => (match s with
    | .For t x y [] _ => chkTg N sc tg t && chkI N FN sc it x && chkSs N FN sc body y && itTg it t
    | _ => false)
  | .whl t body, s => (match s with
    | .While x y [] _ => chkT N FN sc t x && chkSs N FN sc body y
    | _ => false)
  | .brk, s => (match s with
    | .Break _ => true
    | _ => false)
  | .cnt, s => (match s with
    | .Continue _ => true
    | _ => false)
  | .pas, s => (match s with
    | .Pass _ => true
    | _ => false)
  | .rse k fs es, s => (match s with
    | .Raise (some (.Call (.Name x _) xs [] _)) none _ => gloB sc x && !(x == ("__debug__" : Str)) && (match FN.cl[k]? with
      | some d => decide (d.name = x) && decide (d.flds = fs)
      | none => false) && decide (xs.length = fs.length) && decide (fs.length < 30) && decide fs.Nodup && chkEs N FN sc es xs
    | _ => false)
  | .tri body hs, s => (match s with
    | .Try b h [] [] _ => quiet body && okHs hs && chkSs N FN sc body b && chkHds N FN sc hs h
    | _ => false)
def chkSs (N : List Str) (FN : Nms) (sc : Scope) : Sts → List Stmt → Bool
  | .nil, xs => (match xs with
    | [] => true
    | _ => false)
  | .cons s ss, xs => (match xs with
    | x :: r => chkS N FN sc s x && chkSs N FN sc ss r
    | _ => false)
end
/-- a def of the text: its names (parameters first) -/
def chkDef (N : List Str) (np : Nat) (FN : Nms) (d : Def) (body : List Stmt) (sc : Scope) : Bool := decide (d.ns = N.length) && decide (d.flags.length = np) && chkSs N FN sc d.body body
end Ev
end
section
set_option maxHeartbeats 200000
set_option maxRecDepth 100000
/-! How data lies in the heap; slots; what an expression's walk promises. -/
namespace Ev
open PySem PySem.Spec PyProof.Rows L2

/-- a dict's object, by its very entries -/
def DPhi (a : Addr) (es : Array DictEntry) (ep : Nat) : Heap → Prop := fun h => h.DictRaw a es ep
def DO (a : Addr) (es : Array DictEntry) (ep : Nat) : HO := .ext (DPhi a es ep)

/-- an address that may be a dict's; no key twice -/
def DGood (a : Addr) (kvs : List (D × D)) : Prop := (a == sysModules) = false ∧ (kvs.map fun p => keyN p.1).Nodup
section
variable (w : World) (K : PySem.W.Frag)
/-! ### data in the heap -/
mutual
def Rep (H : Hp) : D → V → Prop
  | .none, v => v = .non
  | .bool b, v => v = .bl b
  | .int i, v => v = .int i
  | .str x, v => v = .str x
  | .tuple ds, v => ∃ a xs, v = .ref a ∧ SqT K H a xs ∧ Reps H ds xs
  | .list ds, v => ∃ a xs, v = .ref a ∧ SqL K H a xs ∧ Reps H ds xs
  | .dict kvs, v => ∃ a es ep, v = .ref a ∧ DGood a kvs ∧ es.length ≤ sizeLine ∧ H a = some (DO a es.toArray ep) ∧ RepE H kvs es
def Reps (H : Hp) : List D → List V → Prop
  | [], xs => xs = []
  | d :: ds, xs => ∃ v vs, xs = v :: vs ∧ Rep H d v ∧ Reps H ds vs
def RepE (H : Hp) : List (D × D) → List DictEntry → Prop
  | [], es => es = []
  | (k, v) :: r, es => ∃ e er, es = e :: er ∧ e.hash = (keyN k).hash w ∧ (∃ x, RelV x e.key ∧ Rep H k x) ∧ (∃ y, RelV y e.val ∧ Rep H v y) ∧ RepE H r er
end
end
/-- all that stands in H stands in H' -/
def Sub (H H' : Hp) : Prop := ∀ a o, H a = some o → H' a = some o
theorem Sub.refl (H : Hp) : Sub H H := fun _ _ h => h
theorem Sub.trans {H H1 H2 : Hp} (a : Sub H H1) (b : Sub H1 H2) : Sub H H2 := fun x o h => b x o (a x o h)
theorem Sub.new {H : Hp} {p : Addr} {o : HO} (h : H p = none) : Sub H (upd H p o) := fun a u e => by
  rw [upd_ne (ne_of_none e h)]
  exact e
theorem Sub.both {H H' : Hp} {p : Addr} {o : HO} (s : Sub H H') : Sub (upd H p o) (upd H' p o) := fun a u e => by
  by_cases h : a = p
  · subst h; rw [upd_same] at e ⊢; exact e
  · rw [upd_ne h] at e ⊢; exact s a u e
theorem Sub.mut {H H' : Hp} {p : Addr} {o : HO} (e : Sub H H') (h : H p = none) : Sub H (upd H' p o) := fun a u ha => by
  rw [upd_ne (ne_of_none ha h)]
  exact e a u ha
theorem Sub.none {H H' : Hp} {p : Addr} (e : Sub H H') (h : H' p = none) : H p = none := by
  cases q : H p with
  | none => rfl
  | some o => rw [e p o q] at h; cases h
theorem sub_rd {H H' : Hp} {a : Addr} {u : HO} (e : Sub H H') (h : Rd H a u) : Rd H' a u := by
  rcases h with h | ⟨o, h⟩
  · exact Or.inl (e a _ h)
  · exact Or.inr ⟨o, e a _ h⟩
section
variable {w : World} {K : PySem.W.Frag} {H H' : Hp}
theorem sub_l {a : Addr} {xs : List V} (e : Sub H H') (h : SqL K H a xs) : SqL K H' a xs := by
  rcases h with h | h
  · exact Or.inl (sub_rd e h)
  · exact Or.inr h
theorem sub_t {a : Addr} {xs : List V} (e : Sub H H') (h : SqT K H a xs) : SqT K H' a xs := by
  rcases h with h | h
  · exact Or.inl (sub_rd e h)
  · exact Or.inr h
mutual
theorem Rep.mono (s : Sub H H') : ∀ {d : D} {v : V}, Rep w K H d v → Rep w K H' d v
  | .none, _, h => by simpa [Rep] using h
  | .bool _, _, h => by simpa [Rep] using h
  | .int _, _, h => by simpa [Rep] using h
  | .str _, _, h => by simpa [Rep] using h
  | .tuple ds, _, h => by
    simp only [Rep] at h ⊢
    obtain ⟨a, xs, e, q, r⟩ := h
    exact ⟨a, xs, e, sub_t s q, Reps.mono s r⟩
  | .list ds, _, h => by
    simp only [Rep] at h ⊢
    obtain ⟨a, xs, e, q, r⟩ := h
    exact ⟨a, xs, e, sub_l s q, Reps.mono s r⟩
  | .dict kvs, _, h => by
    simp only [Rep] at h ⊢
    obtain ⟨a, es, ep, e, n, z, q, r⟩ := h
    exact ⟨a, es, ep, e, n, z, s _ _ q, RepE.mono s r⟩
theorem Reps.mono (s : Sub H H') : ∀ {ds : List D} {xs : List V}, Reps w K H ds xs → Reps w K H' ds xs
  | [], _, h => by simpa [Reps] using h
  | d :: ds, _, h => by
    simp only [Reps] at h ⊢
    obtain ⟨v, vs, e, q, r⟩ := h
    exact ⟨v, vs, e, Rep.mono s q, Reps.mono s r⟩
theorem RepE.mono (s : Sub H H') : ∀ {kvs : List (D × D)} {es : List DictEntry}, RepE w K H kvs es → RepE w K H' kvs es
  | [], _, h => by simpa [RepE] using h
  | (k, v) :: r, _, h => by
    simp only [RepE] at h ⊢
    obtain ⟨e, er, q1, q2, ⟨x, q3, q4⟩, ⟨y, q5, q6⟩, q7⟩ := h
    exact ⟨e, er, q1, q2, ⟨x, q3, Rep.mono s q4⟩, ⟨y, q5, Rep.mono s q6⟩, RepE.mono s q7⟩
end
theorem Reps.length : ∀ {ds : List D} {xs : List V}, Reps w K H ds xs → xs.length = ds.length
  | [], _, h => by simp only [Reps] at h; subst h; rfl
  | d :: ds, _, h => by
    simp only [Reps] at h
    obtain ⟨v, vs, e, _, r⟩ := h
    subst e
    simp [Reps.length r]
theorem Reps.get : ∀ {ds : List D} {xs : List V} {i : Nat} {d : D}, Reps w K H ds xs → ds[i]? = some d → ∃ v, xs[i]? = some v ∧ Rep w K H d v
  | [], _, _, _, _, e => by simp at e
  | d :: ds, _, 0, _, h, e => by
    simp only [Reps] at h
    obtain ⟨v, vs, q, r, _⟩ := h
    subst q
    simp at e
    subst e
    exact ⟨v, by simp, r⟩
  | d :: ds, _, i + 1, _, h, e => by
    simp only [Reps] at h
    obtain ⟨v, vs, q, _, r⟩ := h
    subst q
    obtain ⟨u, h1, h2⟩ := Reps.get (i := i) r (by simpa using e)
    exact ⟨u, by simpa using h1, h2⟩
theorem Reps.append : ∀ {ds es : List D} {xs ys : List V}, Reps w K H ds xs → Reps w K H es ys → Reps w K H (ds ++ es) (xs ++ ys)
  | [], _, _, _, h, r => by simp only [Reps] at h; subst h; simpa using r
  | d :: ds, _, _, _, h, r => by
    simp only [Reps] at h
    obtain ⟨v, vs, q, a, b⟩ := h
    subst q
    simp only [List.cons_append, Reps]
    exact ⟨v, _, rfl, a, Reps.append b r⟩
theorem Reps.one {d : D} {v : V} (h : Rep w K H d v) : Reps w K H [d] [v] := by
  simp only [Reps]; exact ⟨v, [], rfl, h, rfl⟩
theorem Reps.nil : Reps w K H [] [] := by simp only [Reps]
theorem Reps.cons {d : D} {v : V} {ds : List D} {vs : List V} (h : Rep w K H d v) (r : Reps w K H ds vs) : Reps w K H (d :: ds) (v :: vs) := by
  simp only [Reps]; exact ⟨v, vs, rfl, h, r⟩
theorem Reps.take : ∀ {ds : List D} {xs : List V} (n : Nat), Reps w K H ds xs → Reps w K H (ds.take n) (xs.take n)
  | _, _, 0, _ => by simp [Reps]
  | [], _, n + 1, h => by simp only [Reps] at h; subst h; simp [Reps]
  | d :: ds, _, n + 1, h => by
    simp only [Reps] at h
    obtain ⟨v, vs, q, a, b⟩ := h
    subst q
    simp only [List.take_succ_cons, Reps]
    exact ⟨v, _, rfl, a, Reps.take n b⟩
theorem Reps.drop : ∀ {ds : List D} {xs : List V} (n : Nat), Reps w K H ds xs → Reps w K H (ds.drop n) (xs.drop n)
  | _, _, 0, h => by simpa using h
  | [], _, n + 1, h => by simp only [Reps] at h; subst h; simp [Reps]
  | d :: ds, _, n + 1, h => by
    simp only [Reps] at h
    obtain ⟨v, vs, q, a, b⟩ := h
    subst q
    simpa using Reps.drop n b
theorem Reps.set : ∀ {ds : List D} {xs : List V} (i : Nat) {d : D} {v : V}, Reps w K H ds xs → Rep w K H d v → Reps w K H (ds.set i d) (xs.set i v)
  | [], _, _, _, _, h, _ => by simp only [Reps] at h; subst h; simp [Reps]
  | d :: ds, _, 0, _, _, h, r => by
    simp only [Reps] at h
    obtain ⟨v, vs, q, a, b⟩ := h
    subst q
    exact Reps.cons r b
  | d :: ds, _, i + 1, _, _, h, r => by
    simp only [Reps] at h
    obtain ⟨v, vs, q, a, b⟩ := h
    subst q
    exact Reps.cons a (Reps.set i b r)
theorem Reps.reverse {ds : List D} {xs : List V} (h : Reps w K H ds xs) : Reps w K H ds.reverse xs.reverse := by
  induction ds generalizing xs with
  | nil => simp only [Reps] at h; subst h; simp [Reps]
  | cons d ds ih =>
    simp only [Reps] at h
    obtain ⟨v, vs, q, a, b⟩ := h
    subst q
    rw [List.reverse_cons, List.reverse_cons]
    exact Reps.append (ih b) (Reps.one a)
theorem Reps.dropLast {ds : List D} {xs : List V} (h : Reps w K H ds xs) : Reps w K H ds.dropLast xs.dropLast := by
  rw [List.dropLast_eq_take, List.dropLast_eq_take, h.length]
  exact h.take _
theorem Reps.all {ds : List D} {xs : List V} (h : Reps w K H ds xs) : ∀ v ∈ xs, ∃ d ∈ ds, Rep w K H d v := by
  induction ds generalizing xs with
  | nil => simp only [Reps] at h; subst h; simp
  | cons d ds ih =>
    simp only [Reps] at h
    obtain ⟨v, vs, q, a, b⟩ := h
    subst q
    intro u hu
    rcases List.mem_cons.mp hu with e | hu
    · subst e; exact ⟨d, List.mem_cons_self, a⟩
    · obtain ⟨d', h1, h2⟩ := ih b u hu
      exact ⟨d', List.mem_cons_of_mem _ h1, h2⟩
end

/-! ### own objects -/
section
variable (w : World) (K : PySem.W.Frag)
/-- a list or dict of one's own at a: its parts are frozen -/
def OwnAt (Hf H : Hp) (a : Addr) : D → Prop
  | .list ds => ∃ xs, H a = some (.lst xs) ∧ Reps w K Hf ds xs
  | .dict kvs => DGood a kvs ∧ ∃ es ep, es.length ≤ sizeLine ∧ H a = some (DO a es.toArray ep) ∧ RepE w K Hf kvs es
  | _ => False
/-- what is read: its parts are frozen -/
def Opr (Hf H : Hp) : D → V → Prop
  | .list ds, v => ∃ a xs, v = .ref a ∧ SqL K H a xs ∧ Reps w K Hf ds xs
  | .dict kvs, v => ∃ a es ep, v = .ref a ∧ DGood a kvs ∧ es.length ≤ sizeLine ∧ H a = some (DO a es.toArray ep) ∧ RepE w K Hf kvs es
  | d, v => Rep w K Hf d v
def SlRep (Hf H : Hp) : Sl → V → Prop
  | .val d, v => Rep w K Hf d v
  | .own _ d, v => ∃ a, v = .ref a ∧ Hf a = none ∧ OwnAt w K Hf H a d
def OwnSet (ρ : Env) (σ : L2.St) (a : Addr) : Prop := ∃ (i : Nat) (l : Bool) (d : D), ρ[i]? = some (some (Sl.own l d)) ∧ σ[i]? = some (some (V.ref a))
def OwnL (l : Bool) (ρ : Env) (σ : L2.St) (a : Addr) : Prop := ∃ (i : Nat) (d : D), ρ[i]? = some (some (Sl.own l d)) ∧ σ[i]? = some (some (V.ref a))
def OwnIx (ρ' ρ : Env) : Prop := ∀ (i : Nat) (l : Bool) (d' : D), ρ'[i]? = some (some (Sl.own l d')) → ∃ d, ρ[i]? = some (some (Sl.own l d))
theorem OwnIx.trans {ρ ρ1 ρ2 : Env} (a : OwnIx ρ1 ρ) (b : OwnIx ρ2 ρ1) : OwnIx ρ2 ρ := fun i l d h => let ⟨d1, h1⟩ := b i l d h; a i l d1 h1
theorem OwnIx.l {ρ ρ' : Env} {σ : L2.St} (h : OwnIx ρ' ρ) (l : Bool) (a : Addr) (o : OwnL l ρ' σ a) : OwnL l ρ σ a := by
  obtain ⟨i, d, e1, e2⟩ := o
  obtain ⟨d', e3⟩ := h i l d e1
  exact ⟨i, d', e3, e2⟩
theorem ownS_of {ρ ρ' : Env} {σ σ' : L2.St} (h : ∀ l a, OwnL l ρ' σ' a → OwnL l ρ σ a) (a : Addr) (o : OwnSet ρ' σ' a) : OwnSet ρ σ a := by
  obtain ⟨i, l, d, e1, e2⟩ := o
  obtain ⟨j, d', e3, e4⟩ := h l a ⟨i, d, e1, e2⟩
  exact ⟨j, l, d', e3, e4⟩
/-- the names' values -/
structure Slots (Hf H : Hp) (ρ : Env) (σ : L2.St) : Prop where
  sub : Sub Hf H
  len : ρ.length = σ.length
  rep : ∀ (i : Nat) (s : Sl), ρ[i]? = some (some s) → ∃ v, σ[i]? = some (some v) ∧ SlRep w K Hf H s v
  one : ∀ (i j : Nat) (l m : Bool) (d e : D) (a : Addr), ρ[i]? = some (some (.own l d)) → ρ[j]? = some (some (.own m e)) → σ[i]? = some (some (.ref a)) → σ[j]? = some (some (.ref a)) → i = j
/-- from (Hf, H) to (Hf', H'): what M does not name stands and is not frozen anew -/
structure Step (M : Addr → Prop) (Hf H Hf' H' : Hp) : Prop where
  sub : Sub Hf Hf'
  keep : ∀ a o, H a = some o → ¬ M a → H' a = some o
  cap : ∀ a o, H a = some o → ¬ M a → Hf a = none → Hf' a = none
  dom : ∀ a o, H a = some o → ∃ o', H' a = some o'
end
section
variable {w : World} {K : PySem.W.Frag} {Hf H Hf' H' Hf1 H1 : Hp} {ρ ρ' : Env} {σ : L2.St}
theorem Opr.of {d : D} {v : V} (s : Sub Hf H) (h : Rep w K Hf d v) : Opr w K Hf H d v := by
  cases d with
  | list ds =>
    simp only [Rep] at h
    obtain ⟨a, xs, e, q, r⟩ := h
    exact ⟨a, xs, e, sub_l s q, r⟩
  | dict kvs =>
    simp only [Rep] at h
    obtain ⟨a, es, ep, e, n, z, q, r⟩ := h
    exact ⟨a, es, ep, e, n, z, s _ _ q, r⟩
  | _ => exact h
theorem Opr.own {d : D} {a : Addr} (h : OwnAt w K Hf H a d) : Opr w K Hf H d (.ref a) := by
  cases d with
  | list ds =>
    obtain ⟨xs, q, r⟩ := h
    exact ⟨a, xs, rfl, SqL.of q, r⟩
  | dict kvs =>
    obtain ⟨n, es, ep, z, q, r⟩ := h
    exact ⟨a, es, ep, rfl, n, z, q, r⟩
  | _ => exact h.elim
theorem Opr.slot {s : Sl} {v : V} (e : Sub Hf H) (h : SlRep w K Hf H s v) : Opr w K Hf H s.d v := by
  cases s with
  | val d => exact Opr.of e h
  | own l d =>
    obtain ⟨a, rfl, _, q⟩ := h
    exact Opr.own q
theorem Step.refl {M : Addr → Prop} : Step M Hf H Hf H := ⟨Sub.refl _, fun _ _ h _ => h, fun _ _ _ _ h => h, fun _ o h => ⟨o, h⟩⟩
theorem Step.trans {M N : Addr → Prop} (a : Step M Hf H Hf1 H1) (b : Step N Hf1 H1 Hf' H') (h : ∀ x, N x → M x ∨ H x = none) : Step M Hf H Hf' H' := by
  have hn : ∀ x o, H x = some o → ¬ M x → ¬ N x := fun x o e m n => by
    rcases h x n with z | z
    · exact m z
    · rw [e] at z; cases z
  exact ⟨a.sub.trans b.sub, fun x o e m => b.keep x o (a.keep x o e m) (hn x o e m), fun x o e m n => b.cap x o (a.keep x o e m) (hn x o e m) (a.cap x o e m n), fun x o e => let ⟨o1, e1⟩ := a.dom x o e; b.dom x o1 e1⟩
theorem Step.mono {M N : Addr → Prop} (a : Step M Hf H Hf' H') (h : ∀ x o, H x = some o → M x → N x) : Step N Hf H Hf' H' :=
  ⟨a.sub, fun x o e m => a.keep x o e fun z => m (h x o e z), fun x o e m => a.cap x o e fun z => m (h x o e z), a.dom⟩
/-- a new object, frozen -/
theorem Step.newF {M : Addr → Prop} {p : Addr} {o : HO} (s : Sub Hf H) (h : H p = none) : Step M Hf H (upd Hf p o) (upd H p o) :=
  ⟨Sub.new (s.none h), fun a u e _ => by rw [upd_ne (ne_of_none e h)]; exact e, fun a u e _ n => by rw [upd_ne (ne_of_none e h)]; exact n, fun a u e => ⟨u, by rw [upd_ne (ne_of_none e h)]; exact e⟩⟩
/-- a new object -/
theorem Step.new {M : Addr → Prop} {p : Addr} {o : HO} (h : H p = none) : Step M Hf H Hf (upd H p o) :=
  ⟨Sub.refl _, fun a u e _ => by rw [upd_ne (ne_of_none e h)]; exact e, fun a u e _ n => n, fun a u e => ⟨u, by rw [upd_ne (ne_of_none e h)]; exact e⟩⟩
theorem OwnAt.step {M : Addr → Prop} {a : Addr} {d : D} (h : OwnAt w K Hf H a d) (s : Step M Hf H Hf' H') (m : ¬ M a) : OwnAt w K Hf' H' a d := by
  cases d with
  | list ds =>
    obtain ⟨xs, q, r⟩ := h
    exact ⟨xs, s.keep a _ q m, r.mono s.sub⟩
  | dict kvs =>
    obtain ⟨n, es, ep, z, q, r⟩ := h
    exact ⟨n, es, ep, z, s.keep a _ q m, r.mono s.sub⟩
  | _ => exact h.elim
theorem OwnAt.sub {a : Addr} {d : D} (h : OwnAt w K Hf H a d) (s : Sub Hf Hf') : OwnAt w K Hf' H a d := by
  cases d with
  | list ds =>
    obtain ⟨xs, q, r⟩ := h
    exact ⟨xs, q, r.mono s⟩
  | dict kvs =>
    obtain ⟨n, es, ep, z, q, r⟩ := h
    exact ⟨n, es, ep, z, q, r.mono s⟩
  | _ => exact h.elim
theorem OwnAt.there {a : Addr} {d : D} (h : OwnAt w K Hf H a d) : ∃ o, H a = some o := by
  cases d with
  | list ds => obtain ⟨xs, q, r⟩ := h; exact ⟨_, q⟩
  | dict kvs => obtain ⟨n, es, ep, z, q, r⟩ := h; exact ⟨_, q⟩
  | _ => exact h.elim
theorem Slots.ownThere (S : Slots w K Hf H ρ σ) {a : Addr} (h : OwnSet ρ σ a) : Hf a = none ∧ ∃ o, H a = some o := by
  obtain ⟨i, l, d, e1, e2⟩ := h
  obtain ⟨v, e3, b, rfl, n, q⟩ := S.rep i _ e1
  rw [e2] at e3
  cases e3
  exact ⟨n, q.there⟩
/-- slots behind a step that leaves them -/
theorem Slots.step {M : Addr → Prop} (S : Slots w K Hf H ρ σ) (s : Step M Hf H Hf' H') (sub : Sub Hf' H') (m : ∀ a, OwnSet ρ σ a → ¬ M a) : Slots w K Hf' H' ρ σ := by
  refine ⟨sub, S.len, fun i sl e => ?_, S.one⟩
  obtain ⟨v, e2, r⟩ := S.rep i sl e
  refine ⟨v, e2, ?_⟩
  cases sl with
  | val d => exact Rep.mono s.sub r
  | own l d =>
    obtain ⟨a, rfl, n, q⟩ := r
    have hm := m a ⟨i, l, d, e, e2⟩
    obtain ⟨o, ho⟩ := q.there
    exact ⟨a, rfl, s.cap a o ho hm n, q.step s hm⟩
end
end Ev
end
section
set_option maxHeartbeats 200000
set_option maxRecDepth 100000
/-! What an expression's walk promises, and how promises are put together. -/
namespace Ev
open PySem PySem.Spec PyProof.Rows L2

/-- what is wanted of an exception -/
abbrev XW := L2.St → Exn → Hp → Hp → Prop
section
variable (w : World) (K : PySem.W.Frag)
/-- behind a walk -/
structure Post (Hf H : Hp) (ρ : Env) (Hf' H' : Hp) (ρ' : Env) (σ : L2.St) : Prop where
  slots : Slots w K Hf' H' ρ' σ
  step : Step (OwnSet ρ σ) Hf H Hf' H'
  own : OwnIx ρ' ρ
/-- a value that came: frozen data, or a new object of one's own -/
def ResR (Hf H Hb : Hp) : Sl → V → Prop
  | .val d, v => Rep w K Hf d v
  | .own false d, v => ∃ a, v = .ref a ∧ Hf a = none ∧ Hb a = none ∧ OwnAt w K Hf H a d
  | .own true _, _ => False
def OpdR (Hf H Hb : Hp) (ρ : Env) (σ : L2.St) : Opd → V → Prop
  | .d d, v => Rep w K Hf d v
  | .s i, v => σ[i]? = some (some v)
  | .t d, v => ∃ a, v = .ref a ∧ Hf a = none ∧ Hb a = none ∧ OwnAt w K Hf H a d
/-- out is no standstill; an error is wanted; else Q -/
def Goes {α : Type} (W : XW) (Hf H : Hp) (ρ : Env) (σ : L2.St) (out : M (α × Env)) (Q : α → Env → Prop) : Prop := match out with
  | none => False
  | some (.error x) => ∀ Hf' H', Sub Hf' H' → Step (OwnSet ρ σ) Hf H Hf' H' → W σ x Hf' H'
  | some (.ok (a, ρ')) => Q a ρ'
/-- the reading of a walk f whose results lie as RR tells -/
def tG {α : Type} (RR : Hp → Hp → Hp → Env → L2.St → α → V → Prop) (W : XW) (f : Env → M (α × Env)) : TE := fun σ H Q =>
  ∃ Hf ρ, Slots w K Hf H ρ σ ∧ Goes W Hf H ρ σ (f ρ) fun r ρ' => ∀ v Hf' H', Post w K Hf H ρ Hf' H' ρ' σ → RR Hf' H' H ρ' σ r v → Q v H'
abbrev tE (W : XW) (f : Env → M (Sl × Env)) : TE := tG w K (fun Hf H Hb _ _ => ResR w K Hf H Hb) W f
abbrev tO (W : XW) (f : Env → M (Opd × Env)) : TE := tG w K (OpdR w K) W f
/-- frozen -/
abbrev tD (W : XW) (f : Env → M (Sl × Env)) : TE := tG w K (fun Hf _ _ _ _ s v => Rep w K Hf s.d v) W f
end

section
variable {w : World} {K : PySem.W.Frag} {Hf H Hf' H' Hf1 H1 Hb : Hp} {ρ ρ' ρ1 : Env} {σ : L2.St} {W : XW}
theorem Post.ownS (P : Post w K Hf H ρ Hf' H' ρ' σ) (a : Addr) (h : OwnSet ρ' σ a) : OwnSet ρ σ a := ownS_of P.own.l a h
theorem Post.refl (S : Slots w K Hf H ρ σ) : Post w K Hf H ρ Hf H ρ σ := ⟨S, Step.refl, fun _ _ d h => ⟨d, h⟩⟩
theorem Post.trans (S : Slots w K Hf H ρ σ) (a : Post w K Hf H ρ Hf1 H1 ρ1 σ) (b : Post w K Hf1 H1 ρ1 Hf' H' ρ' σ) : Post w K Hf H ρ Hf' H' ρ' σ :=
  ⟨b.slots, a.step.trans b.step fun x h => .inl (a.ownS x h), a.own.trans b.own⟩
theorem Goes.shift {α : Type} {out : M (α × Env)} {Q : α → Env → Prop} (S : Slots w K Hf H ρ σ) (P : Post w K Hf H ρ Hf1 H1 ρ1 σ) (h : Goes W Hf H ρ σ out Q) : Goes W Hf1 H1 ρ1 σ out Q := by
  unfold Goes at h ⊢
  split
  · exact h
  · intro Hf' H' e st
    exact h Hf' H' e (P.step.trans st fun x z => .inl (P.ownS x z))
  · exact h
theorem Goes.imp {α : Type} {out : M (α × Env)} {Q Q' : α → Env → Prop} (h : Goes W Hf H ρ σ out Q) (q : ∀ a ρ', out = some (.ok (a, ρ')) → Q a ρ' → Q' a ρ') : Goes W Hf H ρ σ out Q' := by
  unfold Goes at h ⊢
  split
  · exact h
  · exact h
  · exact q _ _ rfl h
/-- of a bind: the first part, then the second -/
theorem Goes.bd {α β : Type} {out : M (α × Env)} {g : α × Env → M (β × Env)} {Q : β → Env → Prop} (h : Goes W Hf H ρ σ (bd out g) Q) : Goes W Hf H ρ σ out fun a ρ1 => Goes W Hf H ρ σ (g (a, ρ1)) Q := by
  cases out with
  | none => exact h
  | some r =>
    cases r with
    | error x => exact h
    | ok p => exact h
theorem Goes.bdI {α β : Type} {out : M (α × Env)} {g : α × Env → M (β × Env)} {Q : β → Env → Prop} (h : Goes W Hf H ρ σ out fun a ρ1 => Goes W Hf H ρ σ (g (a, ρ1)) Q) : Goes W Hf H ρ σ (Ev.bd out g) Q := by
  cases out with
  | none => exact h
  | some r =>
    cases r with
    | error x => exact h
    | ok p => exact h
theorem Goes.rt {α : Type} {a : α} {ρ' : Env} {Q : α → Env → Prop} (h : Goes W Hf H ρ σ (some (.ok (a, ρ'))) Q) : Q a ρ' := h
theorem Goes.lift {α : Type} {o : Option α} {ρ' : Env} {Q : α → Env → Prop} (h : Goes W Hf H ρ σ (lift o ρ') Q) : ∃ a, o = some a ∧ Q a ρ' := by
  cases o with
  | none => exact h.elim
  | some a => exact ⟨a, rfl, h⟩
/-- a first part by its reading -/
theorem Goes.read {α β : Type} {RR : Hp → Hp → Hp → Env → L2.St → α → V → Prop} {f : Env → M (α × Env)} {g : α × Env → M (β × Env)} {Q : β → Env → Prop} {Q1 : VK} (S : Slots w K Hf H ρ σ) (h : Goes W Hf H ρ σ (Ev.bd (f ρ) g) Q)
    (k : ∀ r ρ1 v Hf1 H1, f ρ = some (.ok (r, ρ1)) → Post w K Hf H ρ Hf1 H1 ρ1 σ → RR Hf1 H1 H ρ1 σ r v → Goes W Hf1 H1 ρ1 σ (g (r, ρ1)) Q → Q1 v H1) : tG w K RR W f σ H Q1 :=
  ⟨Hf, ρ, S, (Goes.bd h).imp fun r ρ1 e q v Hf1 H1 P R => k r ρ1 v Hf1 H1 e P R (q.shift S P)⟩
/-- a new base -/
theorem ResR.of {s : Sl} {v : V} {M : Addr → Prop} (st : Step M Hf Hb Hf1 H) (h : ResR w K Hf' H' H s v) : ResR w K Hf' H' Hb s v := by
  cases s with
  | val d => exact h
  | own l d =>
    cases l with
    | true => exact h
    | false =>
      obtain ⟨a, e, n, nb, q⟩ := h
      refine ⟨a, e, n, ?_, q⟩
      cases z : Hb a with
      | none => rfl
      | some o =>
        obtain ⟨o', e'⟩ := st.dom a o z
        rw [nb] at e'; cases e'
/-- freezing one object -/
theorem OwnAt.freeze {a : Addr} {d : D} (s : Sub Hf H) (h : OwnAt w K Hf H a d) (n : Hf a = none) : ∃ o, H a = some o ∧ Rep w K (upd Hf a o) d (.ref a) ∧ Sub (upd Hf a o) H := by
  have key : ∀ o, H a = some o → Sub (upd Hf a o) H := fun o e b u q => by
    by_cases hb : b = a
    · subst hb; rw [upd_same] at q; cases q; exact e
    · rw [upd_ne hb] at q; exact s b u q
  cases d with
  | list ds =>
    obtain ⟨xs, q, r⟩ := h
    refine ⟨_, q, ?_, key _ q⟩
    simp only [Rep]
    exact ⟨a, xs, rfl, SqL.of upd_same, r.mono (Sub.new n)⟩
  | dict kvs =>
    obtain ⟨m, es, ep, z, q, r⟩ := h
    refine ⟨_, q, ?_, key _ q⟩
    simp only [Rep]
    exact ⟨a, es, ep, rfl, m, z, upd_same, r.mono (Sub.new n)⟩
  | _ => exact h.elim
/-- freezing an object of one's own that no slot holds -/
theorem Post.freeze {s : Sl} {v : V} (S : Slots w K Hf H ρ σ) (P : Post w K Hf H ρ Hf1 H1 ρ1 σ) (R : ResR w K Hf1 H1 H s v) : ∃ Hf2, Post w K Hf H ρ Hf2 H1 ρ1 σ ∧ Rep w K Hf2 s.d v ∧ Sub Hf1 Hf2 := by
  cases s with
  | val d => exact ⟨Hf1, P, R, Sub.refl _⟩
  | own l d =>
    cases l with
    | true => exact R.elim
    | false =>
      obtain ⟨a, rfl, n, nb, q⟩ := R
      obtain ⟨o, e, r, sb⟩ := q.freeze P.slots.sub n
      have hne : ∀ b, OwnSet ρ1 σ b → b ≠ a := fun b z y => by
        obtain ⟨_, o', e'⟩ := S.ownThere (P.ownS b z)
        rw [y, nb] at e'; cases e'
      refine ⟨upd Hf1 a o, ⟨?_, ?_, P.own⟩, r, Sub.new n⟩
      · refine ⟨sb, P.slots.len, fun i sl e1 => ?_, P.slots.one⟩
        obtain ⟨v, e2, z⟩ := P.slots.rep i sl e1
        refine ⟨v, e2, ?_⟩
        cases sl with
        | val d' => exact Rep.mono (Sub.new n) z
        | own l' d' =>
          obtain ⟨b, rfl, n', q'⟩ := z
          have hb : b ≠ a := hne b ⟨i, l', d', e1, e2⟩
          refine ⟨b, rfl, by rw [upd_ne hb]; exact n', ?_⟩
          exact q'.sub (Sub.new n)
      · refine ⟨P.step.sub.trans (Sub.new n), P.step.keep, fun c oc hc hm hn => ?_, P.step.dom⟩
        have hca : c ≠ a := fun y => by rw [y, nb] at hc; cases hc
        rw [upd_ne hca]
        exact P.step.cap c oc hc hm hn
end
end Ev
end
section
set_option maxHeartbeats 200000
set_option maxRecDepth 100000
/-! The parts of an expression: names, constants, displays, operators over any rule of the values. -/
namespace Ev
open PySem PySem.Spec PyProof.Rows L2

theorem PEimp {X : Cx} {e : Expr} {t t' : TE} (h : PE X e t) (i : ∀ σ H Q, t' σ H Q → t σ H Q) : PE X e t' := ⟨fun pins s σ H Q I q => h.run pins s σ H Q I (i σ H Q q)⟩
theorem PTimp {X : Cx} {e : Expr} {t t' : TT} (h : PT X e t) (i : ∀ σ H Q, t' σ H Q → t σ H Q) : PT X e t' := ⟨fun pins s σ H Q I q => h.run pins s σ H Q I (i σ H Q q)⟩
theorem PWimp {X : Cx} {e : Expr} {t t' : TT} (h : PW X e t) (i : ∀ σ H Q, t' σ H Q → t σ H Q) : PW X e t' := ⟨fun wh pins s σ H Q I q => h.run wh pins s σ H Q I (i σ H Q q)⟩
theorem PAimp {X : Cx} {es : List Expr} {t t' : TA} (h : PA X es t) (i : ∀ σ H Q, t' σ H Q → t σ H Q) : PA X es t' := ⟨fun pos pins s σ H Q I q => h.run pos pins s σ H Q I (i σ H Q q)⟩
theorem POimp {X : Cx} {e : Option Expr} {t t' : TO} (h : PO X e t) (i : ∀ σ H Q, t' σ H Q → t σ H Q) : PO X e t' := ⟨fun pins s σ H Q I q => h.run pins s σ H Q I (i σ H Q q)⟩
theorem PSimp {X : Cx} {s : Stmt} {t t' : TS} (h : PS X s t) (i : ∀ D σ H, t' D σ H → t D σ H) : PS X s t' := ⟨fun pins s σ H D I q => h.run pins s σ H D I (i D σ H q)⟩
theorem PSsimp {X : Cx} {s : List Stmt} {t t' : TS} (h : PSs X s t) (i : ∀ D σ H, t' D σ H → t D σ H) : PSs X s t' := ⟨fun pins s σ H D I q => h.run pins s σ H D I (i D σ H q)⟩
theorem PIimp {X : Cx} {tg e : Expr} {t t' : TI} (h : PI X tg e t) (i : ∀ σ H Q, t' σ H Q → t σ H Q) : PI X tg e t' := ⟨fun pins s σ H Q I q => h.run pins s σ H Q I (i σ H Q q)⟩

section
variable {X : Cx} {W : XW} {pos : Pos} {N : List Str} {sc : Scope}
abbrev sE (X : Cx) (W : XW) (f : Env → M (Sl × Env)) : TE := tE X.w X.K W f
abbrev sO (X : Cx) (W : XW) (f : Env → M (Opd × Env)) : TE := tO X.w X.K W f
abbrev sD (X : Cx) (W : XW) (f : Env → M (Sl × Env)) : TE := tD X.w X.K W f
/-- the walk of a frozen value -/
theorem sD_of {e : Expr} {f : Env → M (Sl × Env)} (h : PE X e (sE X W f)) : PE X e (sD X W f) := PEimp h fun σ H Q ⟨Hf, ρ, S, g⟩ =>
  ⟨Hf, ρ, S, g.imp fun r ρ' _ q v Hf' H' P R => by
    obtain ⟨Hf2, P2, R2, _⟩ := P.freeze S R
    exact q v Hf2 H' P2 R2⟩
/-- a name -/
theorem okVar_spec {i : Nat} {x : Str} (hN : X.N = N) (hs : X.env.scope = sc) (h : okVar N sc i x = true) : X.N[i]? = some x ∧ Vis X.env.scope x ∧ (x == ("__debug__" : Str)) = false ∧ (x == ("__classdict__" : Str)) = false := by
  unfold okVar isN at h
  simp only [Bool.and_eq_true, decide_eq_true_eq, Bool.not_eq_true'] at h
  obtain ⟨⟨⟨h1, h2⟩, h3⟩, h4⟩ := h
  subst hN hs
  refine ⟨h1, ?_, h3, h4⟩
  unfold visB at h2
  unfold Vis
  split at h2
  · exact .inl (by assumption)
  · exact .inr (.inl (by assumption))
  · exact .inr (.inr (by assumption))
  · cases h2
theorem pe_name {i : Nat} {x : Str} (hN : X.N = N) (hs : X.env.scope = sc) (h : okVar N sc i x = true) : PE X (.Name x pos) (tVar i) := by
  obtain ⟨h1, h2, h3, h4⟩ := okVar_spec hN hs h
  exact pe_var h1 h2 h3 h4
/-- freezing a slot -/
theorem Slots.freezeSlot {w : World} {K : PySem.W.Frag} {Hf H : Hp} {ρ : Env} {σ : L2.St} {i : Nat} {d : D} (S : Slots w K Hf H ρ σ) (e : ρ[i]? = some (some (Sl.own false d))) :
    ∃ a Hf', σ[i]? = some (some (V.ref a)) ∧ Post w K Hf H ρ Hf' H (ρ.set i (some (Sl.val d))) σ ∧ Rep w K Hf' d (.ref a) := by
  obtain ⟨v, e2, a, rfl, n, q⟩ := S.rep i _ e
  obtain ⟨o, ho, r, sb⟩ := q.freeze S.sub n
  have hi : i < ρ.length := (List.getElem?_eq_some_iff.mp e).1
  refine ⟨a, upd Hf a o, e2, ⟨⟨sb, by rw [List.length_set]; exact S.len, fun j sl ej => ?_, fun j k l m d1 d2 b ej ek fj fk => ?_⟩, ⟨Sub.new n, fun _ _ h _ => h, fun b u hb m hn => ?_, fun _ u h => ⟨u, h⟩⟩, fun j l d' ej => ?_⟩, r⟩
  · by_cases hj : i = j
    · subst hj
      rw [List.getElem?_set_self hi] at ej
      cases ej
      exact ⟨_, e2, r⟩
    · rw [List.getElem?_set_ne hj] at ej
      obtain ⟨v, f, z⟩ := S.rep j sl ej
      refine ⟨v, f, ?_⟩
      cases sl with
      | val d' => exact Rep.mono (Sub.new n) z
      | own l d' =>
        obtain ⟨b, rfl, nb, qb⟩ := z
        have hne : b ≠ a := fun y => hj (S.one i j _ _ _ _ a e ej e2 (by rw [f, y]))
        exact ⟨b, rfl, by rw [upd_ne hne]; exact nb, qb.sub (Sub.new n)⟩
  · have hj : i ≠ j := fun y => by subst y; rw [List.getElem?_set_self hi] at ej; cases ej
    have hk : i ≠ k := fun y => by subst y; rw [List.getElem?_set_self hi] at ek; cases ek
    rw [List.getElem?_set_ne hj] at ej
    rw [List.getElem?_set_ne hk] at ek
    exact S.one j k l m d1 d2 b ej ek fj fk
  · have hne : b ≠ a := fun y => m (by rw [y]; exact ⟨i, false, d, e, e2⟩)
    rw [upd_ne hne]; exact hn
  · have hj : i ≠ j := fun y => by subst y; rw [List.getElem?_set_self hi] at ej; cases ej
    rw [List.getElem?_set_ne hj] at ej
    exact ⟨d', ej⟩
theorem re_var {i : Nat} {x : Str} {fl : Flags} {c : CallF} (hN : X.N = N) (hs : X.env.scope = sc) (h : okVar N sc i x = true) : PE X (.Name x pos) (sE X W (ev fl c (.var i))) := PEimp (pe_name hN hs h) fun σ H Q ⟨Hf, ρ, S, g⟩ => by
  unfold ev at g
  split at g
  · rename_i d e
    obtain ⟨v, e2, r⟩ := S.rep i _ e
    exact ⟨v, e2, g v Hf H (Post.refl S) r⟩
  · rename_i d e
    obtain ⟨a, Hf', e2, P, r⟩ := S.freezeSlot e
    exact ⟨_, e2, g _ Hf' H P r⟩
  · exact g.elim
theorem ro_var {i : Nat} {x : Str} {f : Env → M (Sl × Env)} (hN : X.N = N) (hs : X.env.scope = sc) (h : okVar N sc i x = true) : PE X (.Name x pos) (sO X W (evoOf (.var i) f)) := PEimp (pe_name hN hs h) fun σ H Q ⟨Hf, ρ, S, g⟩ => by
  unfold evoOf at g
  simp only at g
  split at g
  · rename_i l d e
    obtain ⟨v, e2, r⟩ := S.rep i _ e
    exact ⟨v, e2, g v Hf H (Post.refl S) e2⟩
  · rename_i d e
    obtain ⟨v, e2, r⟩ := S.rep i _ e
    exact ⟨v, e2, g v Hf H (Post.refl S) r⟩
  · exact g.elim
theorem rl_var {i : Nat} {x : Str} {f : Env → M (Sl × Env)} (hN : X.N = N) (hs : X.env.scope = sc) (h : okVar N sc i x = true) : PE X (.Name x pos) (sO X W (evlOf (.var i) f)) := PEimp (pe_name hN hs h) fun σ H Q ⟨Hf, ρ, S, g⟩ => by
  unfold evlOf at g
  simp only at g
  split at g
  · rename_i l d e
    obtain ⟨v, e2, r⟩ := S.rep i _ e
    exact ⟨v, e2, g v Hf H (Post.refl S) e2⟩
  · exact g.elim
/-- an operand that is no name -/
def notVar : Ex → Bool
  | .var _ => false
  | _ => true
theorem evoOf_ne {e : Ex} {f : Env → M (Sl × Env)} (h : notVar e = true) (ρ : Env) : evoOf e f ρ = bd (f ρ) fun p => rt (.d p.1.d, p.2) := by
  cases e <;> first | rfl | cases h
theorem evlOf_ne {e : Ex} {f : Env → M (Sl × Env)} (h : notVar e = true) (ρ : Env) : evlOf e f ρ = bd (f ρ) fun p => match p.1 with
    | .own false d => rt (.t d, p.2)
    | _ => none := by
  cases e <;> first | rfl | cases h
theorem ro_ne {e : Ex} {x : Expr} {f : Env → M (Sl × Env)} (h : notVar e = true) (hx : PE X x (sE X W f)) : PE X x (sO X W (evoOf e f)) := PEimp hx fun σ H Q ⟨Hf, ρ, S, g⟩ => by
  rw [evoOf_ne h] at g
  refine Goes.read S g fun r ρ1 v Hf1 H1 e P R q => ?_
  obtain ⟨Hf2, P2, R2, _⟩ := P.freeze S R
  exact q v Hf2 H1 P2 R2
theorem rl_ne {e : Ex} {x : Expr} {f : Env → M (Sl × Env)} (h : notVar e = true) (hx : PE X x (sE X W f)) : PE X x (sO X W (evlOf e f)) := PEimp hx fun σ H Q ⟨Hf, ρ, S, g⟩ => by
  rw [evlOf_ne h] at g
  refine Goes.read S g fun r ρ1 v Hf1 H1 e P R q => ?_
  cases r with
  | val d => exact q.elim
  | own l d =>
    cases l with
    | true => exact q.elim
    | false => exact q v Hf1 H1 P R
/-! ### constants, displays -/
theorem re_con {d : D} {k : Const} {j : Nat} {fl : Flags} {c : CallF} (h : conB d k = true) : PE X (.Constant k j pos) (sE X W (ev fl c (.con d))) := by
  have fin : ∀ {v : V} {σ : L2.St} {H : Hp} {Q : VK}, (∀ Hf, Rep X.w X.K Hf d v) → sE X W (ev fl c (.con d)) σ H Q → tC v σ H Q := fun {v σ H Q} hr ⟨Hf, ρ, S, g⟩ => by
    unfold ev at g
    exact g v Hf H (Post.refl S) (hr Hf)
  cases d with
  | none => cases k with
    | none => exact PEimp pe_non fun σ H Q q => fin (fun _ => by simp [Rep]) q
    | _ => cases h
  | bool b => cases k with
    | bool b' =>
      have e : b = b' := by simpa [conB] using h
      subst e
      exact PEimp pe_bl fun σ H Q q => fin (fun _ => by simp [Rep]) q
    | _ => cases h
  | int i => cases k with
    | int i' =>
      have e : i = i' := by simpa [conB] using h
      subst e
      exact PEimp pe_int fun σ H Q q => fin (fun _ => by simp [Rep]) q
    | _ => cases h
  | str x => cases k with
    | str x' =>
      have e : x = x' := by simpa [conB] using h
      subst e
      exact PEimp pe_str fun σ H Q q => fin (fun _ => by simp [Rep]) q
    | _ => cases h
  | _ => cases h
end
/-! ### lists of arguments -/
section
variable (w : World) (K : PySem.W.Frag)
def tGA {α : Type} (RR : Hp → Hp → Hp → Env → L2.St → α → List V → Prop) (W : XW) (f : Env → M (α × Env)) : TA := fun σ H Q =>
  ∃ Hf ρ, Slots w K Hf H ρ σ ∧ Goes W Hf H ρ σ (f ρ) fun r ρ' => ∀ vs Hf' H', Post w K Hf H ρ Hf' H' ρ' σ → RR Hf' H' H ρ' σ r vs → Q vs H'
def OpdRs (Hf H Hb : Hp) (ρ : Env) (σ : L2.St) : List Opd → List V → Prop
  | [], vs => vs = []
  | o :: os, vs => ∃ v r, vs = v :: r ∧ OpdR w K Hf H Hb ρ σ o v ∧ OpdRs Hf H Hb ρ σ os r
end
section
variable {w : World} {K : PySem.W.Frag} {Hf H Hf' H' Hf1 H1 Hb : Hp} {ρ ρ' ρ1 : Env} {σ : L2.St} {W : XW}
/-- an operand stays behind a walk -/
theorem OpdR.later {o : Opd} {v : V} (S : Slots w K Hf H ρ σ) (P : Post w K Hf H ρ Hf1 H1 ρ1 σ) (P2 : Post w K Hf1 H1 ρ1 Hf' H' ρ' σ) (h : OpdR w K Hf1 H1 H ρ1 σ o v) : OpdR w K Hf' H' H ρ' σ o v := by
  cases o with
  | d d => exact Rep.mono P2.step.sub h
  | s i => exact h
  | t d =>
    obtain ⟨a, e, n, nb, q⟩ := h
    have m : ¬ OwnSet ρ1 σ a := fun z => by
      obtain ⟨_, o', e'⟩ := S.ownThere (P.ownS a z)
      rw [nb] at e'; cases e'
    obtain ⟨o, ho⟩ := q.there
    exact ⟨a, e, P2.step.cap a o ho m n, nb, q.step P2.step m⟩
/-- what an operand reads -/
theorem OpdR.opr {o : Opd} {v : V} {x : D} (S : Slots w K Hf H ρ σ) (h : OpdR w K Hf H Hb ρ σ o v) (e : rdo ρ o = some x) : Opr w K Hf H x v := by
  cases o with
  | d d => cases e; exact Opr.of S.sub h
  | t d =>
    cases e
    obtain ⟨a, rfl, n, nb, q⟩ := h
    exact Opr.own q
  | s i =>
    have e2 : σ[i]? = some (some v) := h
    simp only [rdo] at e
    split at e
    · rename_i sl e3
      cases e
      obtain ⟨v', e4, r⟩ := S.rep i _ e3
      rw [e2] at e4; cases e4
      exact Opr.slot S.sub r
    · cases e
end
end Ev
end
section
set_option maxHeartbeats 200000
set_option maxRecDepth 100000
/-! Lists of arguments, operators, comparisons, tests: by rules of the values. -/
namespace Ev
open PySem PySem.Spec PyProof.Rows L2
section
variable {w : World} {K : PySem.W.Frag} {Hf H Hf' H' Hf1 H1 Hb : Hp} {ρ ρ' ρ1 : Env} {σ : L2.St} {W : XW}
/-- behind an operation on values: it changes nothing that stands -/
theorem Post.op (P : Post w K Hf H ρ Hf1 H1 ρ1 σ) (st : Step (fun _ => False) Hf1 H1 Hf' H') (sb : Sub Hf' H') : Post w K Hf H ρ Hf' H' ρ1 σ :=
  ⟨P.slots.step st sb fun _ _ z => z, P.step.trans st fun _ z => z.elim, P.own⟩
theorem OpdRs.later {os : List Opd} {vs : List V} (S : Slots w K Hf H ρ σ) (P : Post w K Hf H ρ Hf1 H1 ρ1 σ) (P2 : Post w K Hf1 H1 ρ1 Hf' H' ρ' σ) (h : OpdRs w K Hf1 H1 H ρ1 σ os vs) : OpdRs w K Hf' H' H ρ' σ os vs := by
  induction os generalizing vs with
  | nil => exact h
  | cons o os ih =>
    obtain ⟨v, r, e, a, b⟩ := h
    exact ⟨v, r, e, a.later S P P2, ih b⟩
theorem OpdR.base {o : Opd} {v : V} {M : Addr → Prop} (st : Step M Hf Hb Hf1 H) (h : OpdR w K Hf' H' H ρ σ o v) : OpdR w K Hf' H' Hb ρ σ o v := by
  cases o with
  | d d => exact h
  | s i => exact h
  | t d =>
    obtain ⟨a, e, n, nb, q⟩ := h
    refine ⟨a, e, n, ?_, q⟩
    cases z : Hb a with
    | none => rfl
    | some o =>
      obtain ⟨o', e'⟩ := st.dom a o z
      rw [nb] at e'; cases e'
theorem OpdRs.base {os : List Opd} {vs : List V} {M : Addr → Prop} (st : Step M Hf Hb Hf1 H) (h : OpdRs w K Hf' H' H ρ σ os vs) : OpdRs w K Hf' H' Hb ρ σ os vs := by
  induction os generalizing vs with
  | nil => exact h
  | cons o os ih =>
    obtain ⟨v, r, e, a, b⟩ := h
    exact ⟨v, r, e, a.base st, ih b⟩
/-- operands read -/
def Oprs (w : World) (K : PySem.W.Frag) (Hf H : Hp) : List D → List V → Prop
  | [], vs => vs = []
  | d :: ds, vs => ∃ v r, vs = v :: r ∧ Opr w K Hf H d v ∧ Oprs w K Hf H ds r
theorem OpdRs.opr {os : List Opd} {vs : List V} {ds : List D} (S : Slots w K Hf H ρ σ) (h : OpdRs w K Hf H Hb ρ σ os vs) (e : rdAll ρ os = some ds) : Oprs w K Hf H ds vs := by
  induction os generalizing vs ds with
  | nil => cases e; exact h
  | cons o os ih =>
    obtain ⟨v, r, e1, a, b⟩ := h
    unfold rdAll at e
    cases e2 : rdo ρ o with
    | none => rw [e2] at e; cases e
    | some d =>
      rw [e2] at e
      cases e3 : rdAll ρ os with
      | none => rw [e3] at e; cases e
      | some ds' =>
        rw [e3] at e
        cases e
        exact ⟨v, r, e1, a.opr S e2, ih b e3⟩
end
section
variable (w : World) (K : PySem.W.Frag)
/-- an operation on two values, on one, on a list of them: by what they read -/
def Ends1 (Hf H : Hp) (r : Sl) (Q : VK) : Prop := ∀ v Hf' H', Sub Hf' H' → Step (fun _ => False) Hf H Hf' H' → ResR w K Hf' H' H r v → Q v H'
def rD2 (g : D → D → Option Sl) : R2 := fun x y H Q => ∃ Hf dx dy r, Sub Hf H ∧ Opr w K Hf H dx x ∧ Opr w K Hf H dy y ∧ g dx dy = some r ∧ Ends1 w K Hf H r Q
def rD1 (g : D → Option Sl) : V → Hp → VK → Prop := fun x H Q => ∃ Hf dx r, Sub Hf H ∧ Opr w K Hf H dx x ∧ g dx = some r ∧ Ends1 w K Hf H r Q
def rDs (g : List D → Option Sl) : List V → Hp → VK → Prop := fun xs H Q => ∃ Hf ds r, Sub Hf H ∧ Oprs w K Hf H ds xs ∧ g ds = some r ∧ Ends1 w K Hf H r Q
end
section
variable {X : Cx} {W : XW} {pos : Pos} {fl : Flags} {c : CallF}
abbrev sF (X : Cx) (W : XW) (f : Env → M (List D × Env)) : TA := tGA X.w X.K (fun Hf _ _ _ _ ds vs => Reps X.w X.K Hf ds vs) W f
abbrev sOs (X : Cx) (W : XW) (f : Env → M (List Opd × Env)) : TA := tGA X.w X.K (OpdRs X.w X.K) W f
/-- the end of an operation -/
theorem end1 {w : World} {K : PySem.W.Frag} {Hf H Hf1 H1 : Hp} {ρ ρ1 : Env} {σ : L2.St} {r : Sl} {Q : VK} (P : Post w K Hf H ρ Hf1 H1 ρ1 σ)
    (q : ∀ v Hf' H', Post w K Hf H ρ Hf' H' ρ1 σ → ResR w K Hf' H' H r v → Q v H') : Ends1 w K Hf1 H1 r Q := fun v Hf' H' sb st R => q v Hf' H' (P.op st sb) (R.of P.step)
theorem star_ne {e : Expr} {es : List Expr} {env : PySem.Env} (h : noStar e = true) : starEach (e :: es) env = (false, eval e env) :: starEach es env := by
  cases e <;> first | rfl | cases h
theorem rf_nil : PA X [] (sF X W (evf fl c .nil)) := PAimp pa_nil fun σ H Q ⟨Hf, ρ, S, g⟩ => g [] Hf H (Post.refl S) Reps.nil
theorem rf_cons {e : Ex} {es : Exs} {x : Expr} {xs : List Expr} (hs : noStar x = true) (he : PE X x (sE X W (ev fl c e))) (hes : PA X xs (sF X W (evf fl c es))) : PA X (x :: xs) (sF X W (evf fl c (.cons e es))) :=
  PAimp (pa_cons (sD_of he) hes (star_ne hs)) fun σ H Q ⟨Hf, ρ, S, g⟩ => by
    unfold evf at g
    show sD X W (ev fl c e) σ H fun x H1 => sF X W (evf fl c es) σ H1 fun xs H2 => Q (x :: xs) H2
    exact Goes.read S g fun r ρ1 v Hf1 H1 _ P R q => ⟨Hf1, ρ1, P.slots, (Goes.bd q).imp fun ds ρ2 _ q2 vs Hf2 H2 P2 R2 => q2 (v :: vs) Hf2 H2 (Post.trans S P P2) (Reps.cons (Rep.mono P2.step.sub R) R2)⟩
theorem ros_nil : PA X [] (sOs X W (evos fl c .nil)) := PAimp pa_nil fun σ H Q ⟨Hf, ρ, S, g⟩ => g [] Hf H (Post.refl S) rfl
theorem ros_cons {e : Ex} {es : Exs} {x : Expr} {xs : List Expr} (hs : noStar x = true) (he : PE X x (sO X W (evoOf e (ev fl c e)))) (hes : PA X xs (sOs X W (evos fl c es))) : PA X (x :: xs) (sOs X W (evos fl c (.cons e es))) :=
  PAimp (pa_cons he hes (star_ne hs)) fun σ H Q ⟨Hf, ρ, S, g⟩ => by
    unfold evos at g
    show sO X W (evoOf e (ev fl c e)) σ H fun x H1 => sOs X W (evos fl c es) σ H1 fun xs H2 => Q (x :: xs) H2
    exact Goes.read S g fun r ρ1 v Hf1 H1 _ P R q => ⟨Hf1, ρ1, P.slots, (Goes.bd q).imp fun os ρ2 _ q2 vs Hf2 H2 P2 R2 => q2 (v :: vs) Hf2 H2 (Post.trans S P P2) ⟨v, vs, rfl, R.later S P P2, R2.base P.step⟩⟩
/-- an operator -/
theorem re_bin {o : Bop} {ea eb : Ex} {a b : Expr} {op : Operator} (ho : OpR X (binaryOp op) (rD2 X.w X.K (binD o))) (ha : PE X a (sO X W (evoOf ea (ev fl c ea)))) (hb : PE X b (sO X W (evoOf eb (ev fl c eb)))) : PE X (.BinOp a op b pos) (sE X W (ev fl c (.bin o ea eb))) :=
  PEimp (pe_op ho ha hb) fun σ H Q ⟨Hf, ρ, S, g⟩ => by
    unfold ev at g
    show sO X W (evoOf ea (ev fl c ea)) σ H fun x H1 => sO X W (evoOf eb (ev fl c eb)) σ H1 fun y H2 => _
    refine Goes.read S g fun o1 ρ1 v1 Hf1 H1 _ P1 R1 q1 => Goes.read P1.slots q1 fun o2 ρ2 v2 Hf2 H2 _ P2 R2 q2 => ?_
    simp only at q2
    split at q2
    · rename_i dx dy e1 e2
      obtain ⟨r, e3, q3⟩ := Goes.lift q2
      exact ⟨Hf2, dx, dy, r, P2.slots.sub, (R1.later S P1 P2).opr P2.slots e1, R2.opr P2.slots e2, e3, end1 (Post.trans S P1 P2) q3⟩
    · exact q2.elim
theorem re_cmp {o : Cop} {ea eb : Ex} {a b : Expr} {op : CmpOp} (ho : OpR X (compareOp op) (rD2 X.w X.K (fun x y => (cmpD o x y).map fun b => .val (.bool b)))) (hm : behindInMarks op b = false) (ha : PE X a (sO X W (evoOf ea (ev fl c ea)))) (hb : PE X b (sO X W (evoOf eb (ev fl c eb)))) :
    PE X (.Compare a [op] [b] pos) (sE X W (ev fl c (.cmp o ea eb))) ∧ PT X (.Compare a [op] [b] pos) (tTest (sE X W (ev fl c (.cmp o ea eb)))) := by
  have key : ∀ σ H Q, sE X W (ev fl c (.cmp o ea eb)) σ H Q → tOp (rD2 X.w X.K (fun x y => (cmpD o x y).map fun b => .val (.bool b))) (sO X W (evoOf ea (ev fl c ea))) (sO X W (evoOf eb (ev fl c eb))) σ H Q := fun σ H Q ⟨Hf, ρ, S, g⟩ => by
    unfold ev at g
    show sO X W (evoOf ea (ev fl c ea)) σ H fun x H1 => sO X W (evoOf eb (ev fl c eb)) σ H1 fun y H2 => _
    refine Goes.read S g fun o1 ρ1 v1 Hf1 H1 _ P1 R1 q1 => Goes.read P1.slots q1 fun o2 ρ2 v2 Hf2 H2 _ P2 R2 q2 => ?_
    simp only at q2
    split at q2
    · rename_i dx dy e1 e2
      obtain ⟨r, e3, q3⟩ := Goes.lift q2
      exact ⟨Hf2, dx, dy, r, P2.slots.sub, (R1.later S P1 P2).opr P2.slots e1, R2.opr P2.slots e2, e3, end1 (Post.trans S P1 P2) q3⟩
    · exact q2.elim
  exact ⟨PEimp (pe_cmpR ho ha hb hm) key, PTimp (pt_cmpR ho ha hb hm) fun σ H Q q => key σ H _ q⟩
theorem re_tup {es : Exs} {xs : List Expr} {k : Nat} (h : PA X xs (sF X W (evf fl c es))) : PE X (.Tuple xs k pos) (sE X W (ev fl c (.tup es))) :=
  PEimp (pe_tup h) fun σ H Q ⟨Hf, ρ, S, g⟩ => by
    unfold ev at g
    refine ⟨Hf, ρ, S, (Goes.bd g).imp fun ds ρ1 _ q vs Hf1 H1 P R => ?_⟩
    simp only at q
    split at q
    · rename_i hz
      refine ⟨by rw [R.length]; exact hz, fun p hp => ?_⟩
      refine q (.ref p) (upd Hf1 p (.tup vs)) _ ⟨?_, P.step.trans (Step.newF P.slots.sub hp) (N := fun _ => False) fun _ z => z.elim, P.own⟩ ?_
      · exact P.slots.step (M := fun _ => False) (Step.newF P.slots.sub hp) P.slots.sub.both fun _ _ z => z
      · show Rep X.w X.K _ (.tuple ds) _
        simp only [Rep]
        exact ⟨p, vs, rfl, SqT.of upd_same, R.mono (Sub.new (P.slots.sub.none hp))⟩
    · exact q.elim
theorem re_lst {es : Exs} {xs : List Expr} (h : PA X xs (sF X W (evf fl c es))) : PE X (.List xs pos) (sE X W (ev fl c (.lst es))) :=
  PEimp (pe_lst h) fun σ H Q ⟨Hf, ρ, S, g⟩ => by
    unfold ev at g
    refine ⟨Hf, ρ, S, (Goes.bd g).imp fun ds ρ1 _ q vs Hf1 H1 P R => ?_⟩
    simp only at q
    split at q
    · rename_i hz
      refine ⟨by rw [R.length]; exact hz, fun p hp => ?_⟩
      have hpb : H p = none := by
        cases z : H p with
        | none => rfl
        | some o =>
          obtain ⟨o', e'⟩ := P.step.dom p o z
          rw [hp] at e'; cases e'
      refine q (.ref p) Hf1 _ (P.op (Step.new hp) (P.slots.sub.trans (Sub.new hp))) ⟨p, rfl, P.slots.sub.none hp, hpb, vs, upd_same, R⟩
    · exact q.elim
end
end Ev
end
section
set_option maxHeartbeats 200000
set_option maxRecDepth 100000
/-! and, or, not, if, items, slices; calls. -/
namespace Ev
open PySem PySem.Spec PyProof.Rows L2
theorem repB {w : World} {K : PySem.W.Frag} {Hf : Hp} {b : Bool} {v : V} (h : Rep w K Hf (.bool b) v) : v = .bl b := by simpa [Rep] using h
theorem repI {w : World} {K : PySem.W.Frag} {Hf : Hp} {b : Int} {v : V} (h : Rep w K Hf (.int b) v) : v = .int b := by simpa [Rep] using h
theorem mkB {w : World} {K : PySem.W.Frag} {Hf : Hp} {b : Bool} : Rep w K Hf (.bool b) (.bl b) := by simp [Rep]
theorem mkI {w : World} {K : PySem.W.Frag} {Hf : Hp} {b : Int} : Rep w K Hf (.int b) (.int b) := by simp [Rep]
theorem resB {w : World} {K : PySem.W.Frag} {Hf H Hb : Hp} {b : Bool} : ResR w K Hf H Hb (.val (.bool b)) (.bl b) := by simp [ResR, Rep]
theorem resI {w : World} {K : PySem.W.Frag} {Hf H Hb : Hp} {b : Int} : ResR w K Hf H Hb (.val (.int b)) (.int b) := by simp [ResR, Rep]
theorem opr_non {w : World} {K : PySem.W.Frag} {Hf H : Hp} {d : D} {v : V} (h : Opr w K Hf H d v) : decide (v = .non) = (match d with | .none => true | _ => false) := by
  cases d with
  | none =>
    have e : v = .non := by simpa [Opr, Rep] using h
    subst e; rfl
  | bool b =>
    have e : v = .bl b := by simpa [Opr, Rep] using h
    subst e; rfl
  | int b =>
    have e : v = .int b := by simpa [Opr, Rep] using h
    subst e; rfl
  | str b =>
    have e : v = .str b := by simpa [Opr, Rep] using h
    subst e; rfl
  | tuple ds =>
    obtain ⟨a, xs, e, _⟩ : ∃ a xs, v = .ref a ∧ SqT K Hf a xs ∧ Reps w K Hf ds xs := by simpa [Opr, Rep] using h
    subst e; rfl
  | list ds =>
    obtain ⟨a, xs, e, _⟩ := h
    subst e; rfl
  | dict kvs =>
    obtain ⟨a, es, ep, e, _⟩ := h
    subst e; rfl
section
variable {X : Cx} {W : XW} {pos : Pos} {fl : Flags} {c : CallF}
theorem sval {f : Env → M (Sl × Env)} {σ : L2.St} {H : Hp} {Q : VK} (Hf : Hp) (ρ : Env) (S : Slots X.w X.K Hf H ρ σ) (g : Goes W Hf H ρ σ (f ρ) fun r ρ' => ∀ v Hf' H', Post X.w X.K Hf H ρ Hf' H' ρ' σ → ResR X.w X.K Hf' H' H r v → Q v H') : sE X W f σ H Q := ⟨Hf, ρ, S, g⟩
/-- a result read as frozen data: its truth as a bool -/
theorem sD_bool {f : Env → M (Sl × Env)} {g : Sl × Env → M (Sl × Env)} {σ : L2.St} {H : Hp} {Q : VK} {Q1 : VK} {Hf : Hp} {ρ : Env} (S : Slots X.w X.K Hf H ρ σ)
    (h : Goes W Hf H ρ σ (bd (f ρ) g) fun r ρ' => ∀ v Hf' H', Post X.w X.K Hf H ρ Hf' H' ρ' σ → ResR X.w X.K Hf' H' H r v → Q v H')
    (k : ∀ r ρ1 v Hf1 H1, Post X.w X.K Hf H ρ Hf1 H1 ρ1 σ → Rep X.w X.K Hf1 r.d v → Goes W Hf1 H1 ρ1 σ (g (r, ρ1)) (fun r ρ' => ∀ v Hf' H', Post X.w X.K Hf1 H1 ρ1 Hf' H' ρ' σ → ResR X.w X.K Hf' H' H1 r v → Q v H') → Q1 v H1) : sD X W f σ H Q1 :=
  Goes.read S h fun r ρ1 v Hf1 H1 _ P R q => k r ρ1 v Hf1 H1 P R (q.imp fun r ρ' _ z v Hf' H' P' R' => z v Hf' H' (Post.trans S P P') (R'.of P.step))
theorem re_not {e : Ex} {x : Expr} (hx : PE X x (sE X W (ev fl c e))) : PE X (.UnaryOp .Not x pos) (sE X W (ev fl c (.not e))) := PEimp (pe_not (sD_of hx)) fun σ H Q ⟨Hf, ρ, S, g⟩ => by
  unfold ev at g
  refine sD_bool S g fun r ρ1 v Hf1 H1 P R q => ?_
  obtain ⟨rd, hr⟩ : ∃ d, r.d = d := ⟨_, rfl⟩
  simp only [hr] at q R
  cases rd with
  | bool b =>
    rw [repB R]
    exact ⟨b, rfl, q _ Hf1 H1 (Post.refl P.slots) resB⟩
  | _ => exact q.elim
theorem re_and1 {ea eb : Ex} {a b : Expr} (ha : PE X a (sE X W (ev fl c ea))) {tb : Expr} {rest : List Expr} (hb : PE X (.BoolOp .And (tb :: rest) pos) (sE X W (ev fl c eb))) : PE X (.BoolOp .And (a :: tb :: rest) pos) (sE X W (ev fl c (.and ea eb))) :=
  PEimp (pe_and (sD_of ha) hb) fun σ H Q ⟨Hf, ρ, S, g⟩ => by
    unfold ev at g
    refine sD_bool S g fun r ρ1 v Hf1 H1 P R q => ?_
    obtain ⟨rd, hr⟩ : ∃ d, r.d = d := ⟨_, rfl⟩
    simp only [hr] at q R
    cases rd with
    | bool k =>
      rw [repB R]
      refine ⟨k, rfl, ?_⟩
      cases k with
      | true => exact sval Hf1 ρ1 P.slots q
      | false => exact q _ Hf1 H1 (Post.refl P.slots) resB
    | _ => exact q.elim
theorem re_or1 {ea eb : Ex} {a b : Expr} (ha : PE X a (sE X W (ev fl c ea))) {tb : Expr} {rest : List Expr} (hb : PE X (.BoolOp .Or (tb :: rest) pos) (sE X W (ev fl c eb))) : PE X (.BoolOp .Or (a :: tb :: rest) pos) (sE X W (ev fl c (.or ea eb))) :=
  PEimp (pe_or (sD_of ha) hb) fun σ H Q ⟨Hf, ρ, S, g⟩ => by
    unfold ev at g
    refine sD_bool S g fun r ρ1 v Hf1 H1 P R q => ?_
    obtain ⟨rd, hr⟩ : ∃ d, r.d = d := ⟨_, rfl⟩
    simp only [hr] at q R
    cases rd with
    | bool k =>
      rw [repB R]
      refine ⟨k, rfl, ?_⟩
      cases k with
      | true => exact q _ Hf1 H1 (Post.refl P.slots) resB
      | false => exact sval Hf1 ρ1 P.slots q
    | _ => exact q.elim
theorem re_neg {e : Ex} {x : Expr} (hx : PE X x (sE X W (ev fl c e))) : PE X (.UnaryOp .USub x pos) (sE X W (ev fl c (.neg e))) := PEimp (pe_un un_neg (sD_of hx)) fun σ H Q ⟨Hf, ρ, S, g⟩ => by
  unfold ev at g
  refine sD_bool S g fun r ρ1 v Hf1 H1 P R q => ?_
  obtain ⟨rd, hr⟩ : ∃ d, r.d = d := ⟨_, rfl⟩
  simp only [hr] at q R
  cases rd with
  | int b =>
    rw [repI R]
    exact ⟨b, rfl, q _ Hf1 H1 (Post.refl P.slots) resI⟩
  | _ => exact q.elim
/-! ### tests -/
def tBG {α : Type} (w : World) (K : PySem.W.Frag) (W : XW) (f : Env → M (Bool × Env)) : TT := fun σ H Q =>
  ∃ Hf ρ, Slots w K Hf H ρ σ ∧ Goes W Hf H ρ σ (f ρ) fun b ρ' => ∀ Hf' H', Post w K Hf H ρ Hf' H' ρ' σ → Q b H'
abbrev sT (X : Cx) (W : XW) (f : Env → M (Bool × Env)) : TT := tBG (α := Unit) X.w X.K W f
theorem Goes.readT {β : Type} {w : World} {K : PySem.W.Frag} {Hf H : Hp} {ρ : Env} {σ : L2.St} {W : XW} {f : Env → M (Bool × Env)} {g : Bool × Env → M (β × Env)} {Q : β → Env → Prop} {Q1 : Bool → Hp → Prop} (S : Slots w K Hf H ρ σ) (h : Goes W Hf H ρ σ (Ev.bd (f ρ) g) Q)
    (k : ∀ b ρ1 Hf1 H1, Post w K Hf H ρ Hf1 H1 ρ1 σ → Goes W Hf1 H1 ρ1 σ (g (b, ρ1)) Q → Q1 b H1) : tBG (α := Unit) w K W f σ H Q1 :=
  ⟨Hf, ρ, S, (Goes.bd h).imp fun r ρ1 e q Hf1 H1 P => k r ρ1 Hf1 H1 P (q.shift S P)⟩
theorem rt_not {t : Tx} {x : Expr} (hx : PT X x (sT X W (evt fl c t))) : PT X (.UnaryOp .Not x pos) (sT X W (evt fl c (.not t))) := PTimp (pt_not hx) fun σ H Q ⟨Hf, ρ, S, g⟩ => by
  unfold evt at g
  exact Goes.readT S g fun b ρ1 Hf1 H1 P q => q Hf1 H1 P
theorem tstep {t : Tx} {σ : L2.St} {Hf H Hf1 H1 : Hp} {ρ ρ1 : Env} {Q : Bool → Hp → Prop} (S : Slots X.w X.K Hf H ρ σ) (P : Post X.w X.K Hf H ρ Hf1 H1 ρ1 σ) (q : Goes W Hf1 H1 ρ1 σ (evt fl c t ρ1) fun b ρ' => ∀ Hf' H', Post X.w X.K Hf H ρ Hf' H' ρ' σ → Q b H') : sT X W (evt fl c t) σ H1 Q :=
  ⟨Hf1, ρ1, P.slots, q.imp fun b ρ' _ z Hf' H' P' => z Hf' H' (Post.trans S P P')⟩
theorem rt_and1 {ta tb : Tx} {a y : Expr} {rest : List Expr} (ha : PT X a (sT X W (evt fl c ta))) (hb : PW X (.BoolOp .And (y :: rest) pos) (sT X W (evt fl c tb))) : PW X (.BoolOp .And (a :: y :: rest) pos) (sT X W (evt fl c (.and ta tb))) :=
  PWimp (pw_and ha hb) fun σ H Q ⟨Hf, ρ, S, g⟩ => by
    unfold evt at g
    refine Goes.readT S g fun b ρ1 Hf1 H1 P q => ?_
    cases b with
    | true => exact tstep S P q
    | false => exact q Hf1 H1 P
theorem rt_or1 {ta tb : Tx} {a y : Expr} {rest : List Expr} (ha : PT X a (sT X W (evt fl c ta))) (hb : PW X (.BoolOp .Or (y :: rest) pos) (sT X W (evt fl c tb))) : PW X (.BoolOp .Or (a :: y :: rest) pos) (sT X W (evt fl c (.or ta tb))) :=
  PWimp (pw_or ha hb) fun σ H Q ⟨Hf, ρ, S, g⟩ => by
    unfold evt at g
    refine Goes.readT S g fun b ρ1 Hf1 H1 P q => ?_
    cases b with
    | true => exact q Hf1 H1 P
    | false => exact tstep S P q
/-- the whole of an if-test -/
theorem isTrue_if {x y z : Expr} {env : PySem.Env} {wh : Sem Value} : isTrue (.IfExp x y z pos) env wh = (do if ← isTrue x env (eval x env) then isTrue y env (eval y env) else isTrue z env (eval z env)) := by
  first | rfl | (unfold isTrue; rfl)
theorem rt_ite {t ta tb : Tx} {x y z : Expr} (hx : PT X x (sT X W (evt fl c t))) (hy : PT X y (sT X W (evt fl c ta))) (hz : PT X z (sT X W (evt fl c tb))) : PT X (.IfExp x y z pos) (sT X W (evt fl c (.ite t ta tb))) := by
  refine ⟨fun pins s σ H Q I ⟨Hf, ρ, S, g⟩ => ?_⟩
  unfold evt at g
  rw [isTrue_if]
  refine wpAny_bind (thn (hx.run pins s σ H _ I (Goes.readT S g (Q1 := fun b H1 => if b = true then sT X W (evt fl c ta) σ H1 Q else sT X W (evt fl c tb) σ H1 Q) fun b ρ1 Hf1 H1 P q => ?_)) fun b s1 ⟨H1, I1, q1⟩ => ?_)
  · cases b with
    | true => exact tstep S P q
    | false => exact tstep S P q
  · cases b with
    | true => exact hy.run pins s1 σ H1 Q I1 q1
    | false => exact hz.run pins s1 σ H1 Q I1 q1
theorem re_ite {t : Tx} {ea eb : Ex} {x y z : Expr} (hx : PT X x (sT X W (evt fl c t))) (hy : PE X y (sE X W (ev fl c ea))) (hz : PE X z (sE X W (ev fl c eb))) : PE X (.IfExp x y z pos) (sE X W (ev fl c (.ite t ea eb))) :=
  PEimp (pe_ifExp hx hy hz) fun σ H Q ⟨Hf, ρ, S, g⟩ => by
    unfold ev at g
    refine Goes.readT S g fun b ρ1 Hf1 H1 P q => ?_
    have q' := q.imp (Q' := fun r ρ' => ∀ v Hf' H', Post X.w X.K Hf1 H1 ρ1 Hf' H' ρ' σ → ResR X.w X.K Hf' H' H1 r v → Q v H') fun r ρ' _ z v Hf' H' P' R' => z v Hf' H' (Post.trans S P P') (R'.of P.step)
    cases b with
    | true => exact sval Hf1 ρ1 P.slots q'
    | false => exact sval Hf1 ρ1 P.slots q'
/-! ### is None, is True; items; slices -/
theorem re_isn {ng : Bool} {e : Ex} {x : Expr} {op : CmpOp} {j : Nat} {p2 : Pos} (hop : op = if ng then .IsNot else .Is) (hx : PE X x (sO X W (evoOf e (ev fl c e)))) :
    PE X (.Compare x [op] [.Constant .none j p2] pos) (sE X W (ev fl c (.isn ng e))) ∧ PT X (.Compare x [op] [.Constant .none j p2] pos) (tTest (sE X W (ev fl c (.isn ng e)))) := by
  have key : ∀ σ H Q, sE X W (ev fl c (.isn ng e)) σ H Q → sO X W (evoOf e (ev fl c e)) σ H fun v H1 => Q (.bl (if ng then !decide (v = .non) else decide (v = .non))) H1 := fun σ H Q ⟨Hf, ρ, S, g⟩ => by
    unfold ev at g
    refine Goes.read S g fun o1 ρ1 v1 Hf1 H1 _ P1 R1 q1 => ?_
    simp only at q1
    cases e1 : rdo ρ1 o1 with
    | none => rw [e1] at q1; exact q1.elim
    | some d =>
      rw [e1] at q1
      have hn := opr_non (R1.opr P1.slots e1)
      rw [hn]
      cases d with
      | none =>
        have z := q1 (.bl (!ng)) Hf1 H1 P1 resB
        cases ng <;> exact z
      | _ =>
        have z := q1 (.bl ng) Hf1 H1 P1 resB
        cases ng <;> exact z
  cases ng with
  | false =>
    subst hop
    exact ⟨PEimp (pe_cmp (pc_isN hx) rfl) fun σ H Q q => key σ H Q q, PTimp (pt_cmp (pc_isN hx) rfl) fun σ H Q q => key σ H _ q⟩
  | true =>
    subst hop
    exact ⟨PEimp (pe_cmp (pc_notN hx) rfl) fun σ H Q q => key σ H Q q, PTimp (pt_cmp (pc_notN hx) rfl) fun σ H Q q => key σ H _ q⟩
theorem re_isb {ng b : Bool} {e : Ex} {x : Expr} {op : CmpOp} {j : Nat} {p2 : Pos} (hop : op = if ng then .IsNot else .Is) (hx : PE X x (sE X W (ev fl c e))) :
    PE X (.Compare x [op] [.Constant (.bool b) j p2] pos) (sE X W (ev fl c (.isb ng b e))) ∧ PT X (.Compare x [op] [.Constant (.bool b) j p2] pos) (tTest (sE X W (ev fl c (.isb ng b e)))) := by
  have key : ∀ σ H Q, sE X W (ev fl c (.isb ng b e)) σ H Q → sD X W (ev fl c e) σ H fun v H1 => ∃ k, v = .bl k ∧ Q (.bl ((k == b) != ng)) H1 := fun σ H Q ⟨Hf, ρ, S, g⟩ => by
    unfold ev at g
    refine sD_bool S g fun r ρ1 v Hf1 H1 P R q => ?_
    obtain ⟨rd, hr⟩ : ∃ d, r.d = d := ⟨_, rfl⟩
    simp only [hr] at q R
    cases rd with
    | bool k =>
      rw [repB R]
      exact ⟨k, rfl, q _ Hf1 H1 (Post.refl P.slots) resB⟩
    | _ => exact q.elim
  cases ng with
  | false =>
    subst hop
    have f : ∀ σ H Q, sE X W (ev fl c (.isb false b e)) σ H Q → tOp rIsB (sD X W (ev fl c e)) (tC (.bl b)) σ H Q := fun σ H Q q => by
      obtain ⟨Hf, ρ, S, g⟩ := key σ H Q q
      refine ⟨Hf, ρ, S, g.imp fun r ρ' _ z v Hf' H' P R => ?_⟩
      obtain ⟨k, e1, z⟩ := z v Hf' H' P R
      refine ⟨k, b, e1, rfl, ?_⟩
      have e : ((k == b) != false) = decide (k = b) := by cases k <;> cases b <;> rfl
      rw [← e]; exact z
    exact ⟨PEimp (pe_cmpR op_isBl (sD_of hx) pe_bl rfl) f, PTimp (pt_cmpR op_isBl (sD_of hx) pe_bl rfl) fun σ H Q q => f σ H _ q⟩
  | true =>
    subst hop
    have f : ∀ σ H Q, sE X W (ev fl c (.isb true b e)) σ H Q → tOp rNotB (sD X W (ev fl c e)) (tC (.bl b)) σ H Q := fun σ H Q q => by
      obtain ⟨Hf, ρ, S, g⟩ := key σ H Q q
      refine ⟨Hf, ρ, S, g.imp fun r ρ' _ z v Hf' H' P R => ?_⟩
      obtain ⟨k, e1, z⟩ := z v Hf' H' P R
      refine ⟨k, b, e1, rfl, ?_⟩
      have e : ((k == b) != true) = !decide (k = b) := by cases k <;> cases b <;> rfl
      rw [← e]; exact z
    exact ⟨PEimp (pe_cmpR op_notBl (sD_of hx) pe_bl rfl) f, PTimp (pt_cmpR op_notBl (sD_of hx) pe_bl rfl) fun σ H Q q => f σ H _ q⟩
theorem re_chn {o p : Cop} {ea eb ec : Ex} {a b d : Expr} {op op' : CmpOp} (hm : lastMarks [op, op'] [b, d] = false) (ho : OpR X (compareOp op) (rD2 X.w X.K (fun x y => (cmpD o x y).map fun b => .val (.bool b)))) (ho' : OpR X (compareOp op') (rD2 X.w X.K (fun x y => (cmpD p x y).map fun b => .val (.bool b))))
    (ha : PE X a (sE X W (ev fl c ea))) (hb : PE X b (sE X W (ev fl c eb))) (hd : PE X d (sE X W (ev fl c ec))) :
    PE X (.Compare a [op, op'] [b, d] pos) (sE X W (ev fl c (.chn o p ea eb ec))) ∧ PT X (.Compare a [op, op'] [b, d] pos) (tTest (sE X W (ev fl c (.chn o p ea eb ec)))) := by
  have key : ∀ σ H Q, sE X W (ev fl c (.chn o p ea eb ec)) σ H Q → tChain (rD2 X.w X.K (fun x y => (cmpD o x y).map fun b => .val (.bool b))) (rD2 X.w X.K (fun x y => (cmpD p x y).map fun b => .val (.bool b))) (sD X W (ev fl c ea)) (sD X W (ev fl c eb)) (sD X W (ev fl c ec)) σ H Q := fun σ H Q ⟨Hf, ρ, S, g⟩ => by
    unfold ev at g
    show sD X W (ev fl c ea) σ H fun x H1 => sD X W (ev fl c eb) σ H1 fun y H2 => _
    refine Goes.read S g fun r1 ρ1 v1 Hf1 H1 _ P1 R1 q1 => Goes.read P1.slots q1 fun r2 ρ2 v2 Hf2 H2 _ P2 R2 q2 => ?_
    simp only at q2
    have P12 := Post.trans S P1 P2
    cases e1 : cmpD o r1.d r2.d with
    | none => rw [e1] at q2; exact q2.elim
    | some k =>
      rw [e1] at q2
      refine ⟨Hf2, r1.d, r2.d, .val (.bool k), P2.slots.sub, Opr.of P2.slots.sub (R1.mono P2.step.sub), Opr.of P2.slots.sub R2, by show Option.map _ (cmpD o r1.d r2.d) = _; rw [e1]; rfl, fun v Hf' H' sb st R => ?_⟩
      have e2 : v = .bl k := by simpa [ResR, Rep] using R
      subst e2
      have P3 := P12.op st sb
      refine ⟨k, rfl, ?_⟩
      cases k with
      | false => exact q2 _ Hf' H' P3 resB
      | true =>
        rw [if_pos rfl]
        have q3 : Goes W Hf' H' ρ2 σ _ _ := q2.shift P2.slots (Post.op (Post.refl P2.slots) st sb)
        refine Goes.read P3.slots q3 fun r3 ρ3 v3 Hf3 H3 _ P4 R3 q4 => ?_
        obtain ⟨r, e3, q5⟩ := Goes.lift q4
        exact ⟨Hf3, r2.d, r3.d, r, P4.slots.sub, Opr.of P4.slots.sub ((R2.mono st.sub).mono P4.step.sub), Opr.of P4.slots.sub R3, e3, end1 (Post.trans S P3 P4) q5⟩
  exact ⟨PEimp (pe_chain (hm := hm) ho ho' (sD_of ha) (sD_of hb) (sD_of hd)) key, PTimp (pt_chain (hm := hm) ho ho' (sD_of ha) (sD_of hb) (sD_of hd)) fun σ H Q q => key σ H _ q⟩
theorem re_idx {ea eb : Ex} {a b : Expr} (hr : IxR X (rD2 X.w X.K (fun x y => (idxD x y).map .val))) (ha : PE X a (sO X W (evoOf ea (ev fl c ea)))) (hb : PE X b (sE X W (ev fl c eb))) (hs : PlainIx b) : PE X (.Subscript a b pos) (sE X W (ev fl c (.idx ea eb))) :=
  PEimp (pe_ix hr ha (sD_of hb) hs) fun σ H Q ⟨Hf, ρ, S, g⟩ => by
    unfold ev at g
    show sO X W (evoOf ea (ev fl c ea)) σ H fun x H1 => sD X W (ev fl c eb) σ H1 fun y H2 => _
    refine Goes.read S g fun o1 ρ1 v1 Hf1 H1 _ P1 R1 q1 => Goes.read P1.slots q1 fun r2 ρ2 v2 Hf2 H2 _ P2 R2 q2 => ?_
    simp only at q2
    split at q2
    · rename_i dx e1
      obtain ⟨r, e3, q3⟩ := Goes.lift q2
      exact ⟨Hf2, dx, r2.d, r, P2.slots.sub, (R1.later S P1 P2).opr P2.slots e1, Opr.of P2.slots.sub R2, e3, end1 (Post.trans S P1 P2) q3⟩
    · exact q2.elim
/-- a part of a slice -/
def tOG (w : World) (K : PySem.W.Frag) (W : XW) (f : Env → M (Option Int × Env)) : TO := fun σ H Q =>
  ∃ Hf ρ, Slots w K Hf H ρ σ ∧ Goes W Hf H ρ σ (f ρ) fun b ρ' => ∀ Hf' H', Post w K Hf H ρ Hf' H' ρ' σ → Q b H'
theorem ro_non : PO X none (tOG X.w X.K W (evx fl c .non)) := POimp po_none fun σ H Q ⟨Hf, ρ, S, g⟩ => g Hf H (Post.refl S)
theorem ro_som {e : Ex} {x : Expr} (hx : PE X x (sE X W (ev fl c e))) : PO X (some x) (tOG X.w X.K W (evx fl c (.som e))) := POimp (po_some (sD_of hx)) fun σ H Q ⟨Hf, ρ, S, g⟩ => by
  unfold evx at g
  show sD X W (ev fl c e) σ H fun x H1 => _
  refine Goes.read S g fun r ρ1 v Hf1 H1 _ P R q => ?_
  obtain ⟨rd, hr⟩ : ∃ d, r.d = d := ⟨_, rfl⟩
  simp only [hr] at q R
  cases rd with
  | int k =>
    rw [repI R]
    exact ⟨k, rfl, q Hf1 H1 P⟩
  | _ => exact q.elim
theorem Goes.readO {β : Type} {w : World} {K : PySem.W.Frag} {Hf H : Hp} {ρ : Env} {σ : L2.St} {W : XW} {f : Env → M (Option Int × Env)} {g : Option Int × Env → M (β × Env)} {Q : β → Env → Prop} {Q1 : Option Int → Hp → Prop} (S : Slots w K Hf H ρ σ) (h : Goes W Hf H ρ σ (Ev.bd (f ρ) g) Q)
    (k : ∀ b ρ1 Hf1 H1, Post w K Hf H ρ Hf1 H1 ρ1 σ → Goes W Hf1 H1 ρ1 σ (g (b, ρ1)) Q → Q1 b H1) : tOG w K W f σ H Q1 :=
  ⟨Hf, ρ, S, (Goes.bd h).imp fun r ρ1 e q Hf1 H1 P => k r ρ1 Hf1 H1 P (q.shift S P)⟩
def rSlD (w : World) (K : PySem.W.Frag) : V → Option Int → Option Int → Hp → VK → Prop := fun x lo hi H Q => ∃ Hf dx r, Sub Hf H ∧ Opr w K Hf H dx x ∧ slD dx lo hi = some r ∧ Ends1 w K Hf H r Q
theorem re_sl {ea : Ex} {lo hi : Ox} {a : Expr} {l h : Option Expr} {p2 : Pos} (hr : SlR X (rSlD X.w X.K)) (ha : PE X a (sO X W (evoOf ea (ev fl c ea)))) (hl : PO X l (tOG X.w X.K W (evx fl c lo))) (hh : PO X h (tOG X.w X.K W (evx fl c hi))) :
    PE X (.Subscript a (.Slice l h none p2) pos) (sE X W (ev fl c (.sl ea lo hi))) :=
  PEimp (pe_slice hr ha hl hh) fun σ H Q ⟨Hf, ρ, S, g⟩ => by
    unfold ev at g
    show sO X W (evoOf ea (ev fl c ea)) σ H fun x H1 => tOG X.w X.K W (evx fl c lo) σ H1 fun l H2 => tOG X.w X.K W (evx fl c hi) σ H2 fun h H3 => _
    refine Goes.read S g fun o1 ρ1 v1 Hf1 H1 _ P1 R1 q1 => Goes.readO P1.slots q1 fun l ρ2 Hf2 H2 P2 q2 => Goes.readO P2.slots q2 fun h ρ3 Hf3 H3 P3 q3 => ?_
    simp only at q3
    split at q3
    · rename_i dx e1
      obtain ⟨r, e3, q4⟩ := Goes.lift q3
      exact ⟨Hf3, dx, r, P3.slots.sub, (R1.later S P1 (Post.trans P1.slots P2 P3)).opr P3.slots e1, e3, end1 (Post.trans S P1 (Post.trans P1.slots P2 P3)) q4⟩
    · exact q3.elim
end
end Ev
end
section
set_option maxHeartbeats 200000
set_option maxRecDepth 100000
/-! Calls of the text's own defs. -/
namespace Ev
open PySem PySem.Spec PyProof.Rows L2

section
variable (w : World) (K : PySem.W.Frag)
/-- how an exception lies: its class, its dict -/
def ExcRep (mg : Str → Option Value) (cl : List ClsD) (x : Exn) (cv : Value) (dx : Option Addr) (Hf H : Hp) : Prop := ∃ (c : ClsD) (C : Addr), cl[x.cls]? = some c ∧ mg c.name = some (.ref C) ∧ cv = .ref C ∧ x.args.map (·.1) = c.flds ∧
  ((x.args = [] ∧ dx = none) ∨ ∃ (dd : Addr) (es : List (Str × V)), dx = some dd ∧ H dd = some (.xd es) ∧ ∀ f d, x.args.lookup f = some d → ∃ v, es.lookup f = some v ∧ Rep w K Hf d v)
/-- arguments: in-out ones are objects of the caller's own, the others are frozen -/
def ArgsR (Hf H : Hp) : List Bool → List D → List V → Prop
  | [], [], vs => vs = []
  | true :: bs, d :: ds, vs => ∃ a r, vs = V.ref a :: r ∧ Hf a = none ∧ OwnAt w K Hf H a d ∧ ArgsR Hf H bs ds r
  | false :: bs, d :: ds, vs => ∃ v r, vs = v :: r ∧ Rep w K Hf d v ∧ ArgsR Hf H bs ds r
  | _, _, _ => False
def lentA : List Bool → List V → List Addr
  | true :: bs, .ref a :: vs => a :: lentA bs vs
  | _ :: bs, _ :: vs => lentA bs vs
  | _, _ => []
def OutsR (Hf H : Hp) : List Bool → List V → List D → Prop
  | [], [], outs => outs = []
  | true :: bs, v :: vs, outs => ∃ a d r, v = .ref a ∧ outs = d :: r ∧ Hf a = none ∧ OwnAt w K Hf H a d ∧ OutsR Hf H bs vs r
  | false :: bs, _ :: vs, outs => OutsR Hf H bs vs outs
  | _, _, _ => False
/-- what a def promises: what the walk of it comes to -/
def spF (mg : Str → Option Value) (cl : List ClsD) (bs : List Bool) (out : List D → M (Sl × List D)) : Sp := fun vs H Q E => ∃ Hf ds, Sub Hf H ∧ ArgsR w K Hf H bs ds vs ∧ (lentA bs vs).Nodup ∧ (match out ds with
  | none => False
  | some (.error x) => ∀ cv dx Hf' H', Sub Hf' H' → Step (· ∈ lentA bs vs) Hf H Hf' H' → ExcRep w K mg cl x cv dx Hf' H' → E cv dx H'
  | some (.ok (r, outs)) => ∀ v Hf' H', Sub Hf' H' → Step (· ∈ lentA bs vs) Hf H Hf' H' → ResR w K Hf' H' H r v → OutsR w K Hf' H' bs vs outs → Q v H')
end
section
variable {w : World} {K : PySem.W.Frag} {Hf H Hf' H' Hf1 H1 Hb : Hp} {ρ ρ' ρ1 : Env} {σ : L2.St} {W : XW}
/-- it stays where nothing of one's own is touched -/
theorem ExcRep.step {mg : Str → Option Value} {cl : List ClsD} {x : Exn} {cv : Value} {dx : Option Addr} (h : ExcRep w K mg cl x cv dx Hf H) (st : Step (fun _ => False) Hf H Hf' H') : ExcRep w K mg cl x cv dx Hf' H' := by
  obtain ⟨c, C, h1, h2, h3, h4, h5⟩ := h
  refine ⟨c, C, h1, h2, h3, h4, ?_⟩
  rcases h5 with h5 | ⟨dd, es, e1, e2, e3⟩
  · exact .inl h5
  · refine .inr ⟨dd, es, e1, st.keep dd _ e2 fun z => z, fun f d e => ?_⟩
    obtain ⟨v, k1, k2⟩ := e3 f d e
    exact ⟨v, k1, k2.mono st.sub⟩
theorem ArgsR.len {bs : List Bool} {ds : List D} {vs : List V} (h : ArgsR w K Hf H bs ds vs) : vs.length = bs.length := by
  induction bs generalizing ds vs with
  | nil =>
    cases ds with
    | nil => have e : vs = [] := h; subst e; rfl
    | cons _ _ => exact h.elim
  | cons b bs ih =>
    cases ds with
    | nil => cases b <;> exact h.elim
    | cons d ds =>
      cases b with
      | true => obtain ⟨a, r, rfl, _, _, q⟩ := h; simp [ih q]
      | false => obtain ⟨v, r, rfl, _, q⟩ := h; simp [ih q]
/-- frozen data where a parameter is none that changes, a slot or a new object where it is -/
def KindOk (bs : List Bool) (os : List Opd) : Prop := ∀ (j : Nat) (b : Bool) (o : Opd), bs[j]? = some b → os[j]? = some o → (b = false → ∃ d, o = Opd.d d) ∧ (b = true → (∃ i, o = Opd.s i) ∨ ∃ d, o = Opd.t d)
/-- from operands to arguments -/
theorem args_of (S : Slots w K Hf1 H1 ρ1 σ) : ∀ {bs : List Bool} {os : List Opd} {vs : List V} {ds : List D}, bs.length = os.length → OpdRs w K Hf1 H1 Hb ρ1 σ os vs → rdAll ρ1 os = some ds →
    (∀ i, i ∈ lentOf bs os → ∃ (l : Bool) (d : D), ρ1[i]? = some (some (Sl.own l d))) → KindOk bs os → ArgsR w K Hf1 H1 bs ds vs
  | [], [], vs, ds, _, h, e, _, _ => by
    cases e
    exact h
  | [], _ :: _, _, _, hl, _, _, _, _ => by cases hl
  | _ :: _, [], _, _, hl, _, _, _, _ => by cases hl
  | b :: bs, o :: os, vs, ds, hl, h, e, ho, hk => by
    obtain ⟨v, r, rfl, a, q⟩ := h
    unfold rdAll at e
    cases e2 : rdo ρ1 o with
    | none => rw [e2] at e; cases e
    | some d =>
      rw [e2] at e
      cases e3 : rdAll ρ1 os with
      | none => rw [e3] at e; cases e
      | some ds' =>
        rw [e3] at e
        cases e
        have ih := fun ho' => args_of S (bs := bs) (os := os) (ds := ds') (by simpa using hl) q e3 ho' fun j b o h1 h2 => hk (j + 1) b o (by simpa using h1) (by simpa using h2)
        have hk0 := hk 0 b o rfl rfl
        cases b with
        | false =>
          obtain ⟨d', rfl⟩ := hk0.1 rfl
          cases e2
          exact ⟨v, r, rfl, a, ih fun i hi => ho i hi⟩
        | true =>
          rcases hk0.2 rfl with ⟨i, rfl⟩ | ⟨d', rfl⟩
          · obtain ⟨l, d0, e4⟩ := ho i List.mem_cons_self
            have e5 : σ[i]? = some (some v) := a
            obtain ⟨v', e6, b, rfl, n, z⟩ := S.rep i _ e4
            rw [e5] at e6; cases e6
            unfold rdo at e2
            simp only [e4] at e2
            cases e2
            exact ⟨b, r, rfl, n, z, ih fun i hi => ho i (List.mem_cons_of_mem _ hi)⟩
          · cases e2
            obtain ⟨b, rfl, n, nb, z⟩ := a
            exact ⟨b, r, rfl, n, z, ih fun i hi => ho i hi⟩
/-- the addresses lent: a slot's own, or a new object's -/
theorem lent_of (S : Slots w K Hf1 H1 ρ1 σ) : ∀ {bs : List Bool} {os : List Opd} {vs : List V}, OpdRs w K Hf1 H1 Hb ρ1 σ os vs →
    (∀ i, i ∈ lentOf bs os → ∃ (l : Bool) (d : D), ρ1[i]? = some (some (Sl.own l d))) → KindOk bs os →
    ∀ a ∈ lentA bs vs, (∃ i ∈ lentOf bs os, ∃ (l : Bool) (d : D), ρ1[i]? = some (some (Sl.own l d)) ∧ σ[i]? = some (some (V.ref a))) ∨ ((∃ d, Opd.t d ∈ os) ∧ Hb a = none)
  | [], os, vs, h, _, _, a, ha => by
    cases os <;> cases vs <;> simp [lentA] at ha
  | b :: bs, [], vs, h, _, _, a, ha => by
    have e : vs = [] := h
    subst e
    cases b <;> simp [lentA] at ha
  | b :: bs, o :: os, vs, h, ho, hk, a, ha => by
    obtain ⟨v, r, rfl, q, qs⟩ := h
    have hk0 := hk 0 b o rfl rfl
    have ih := fun ho' => lent_of S (bs := bs) (os := os) qs ho' fun j b o h1 h2 => hk (j + 1) b o (by simpa using h1) (by simpa using h2)
    cases b with
    | false =>
      have ha' : a ∈ lentA bs r := by cases v <;> exact ha
      rcases ih (fun i hi => ho i hi) a ha' with ⟨i, hi, z⟩ | ⟨⟨d, hd⟩, z⟩
      · exact .inl ⟨i, hi, z⟩
      · exact .inr ⟨⟨d, List.mem_cons_of_mem _ hd⟩, z⟩
    | true =>
      rcases hk0.2 rfl with ⟨i, rfl⟩ | ⟨d', rfl⟩
      · obtain ⟨l, d0, e4⟩ := ho i List.mem_cons_self
        have e5 : σ[i]? = some (some v) := q
        obtain ⟨v', e6, b, rfl, n, z⟩ := S.rep i _ e4
        rw [e5] at e6; cases e6
        rcases List.mem_cons.mp ha with rfl | ha
        · exact .inl ⟨i, List.mem_cons_self, l, d0, e4, e5⟩
        · rcases ih (fun i hi => ho i (List.mem_cons_of_mem _ hi)) a ha with ⟨i, hi, z⟩ | ⟨⟨d, hd⟩, z⟩
          · exact .inl ⟨i, List.mem_cons_of_mem _ hi, z⟩
          · exact .inr ⟨⟨d, List.mem_cons_of_mem _ hd⟩, z⟩
      · obtain ⟨b, rfl, n, nb, z⟩ := q
        rcases List.mem_cons.mp ha with rfl | ha
        · exact .inr ⟨⟨d', List.mem_cons_self⟩, nb⟩
        · rcases ih (fun i hi => ho i hi) a ha with ⟨i, hi, z⟩ | ⟨⟨d, hd⟩, z⟩
          · exact .inl ⟨i, hi, z⟩
          · exact .inr ⟨⟨d, List.mem_cons_of_mem _ hd⟩, z⟩
theorem lent_nodup (S : Slots w K Hf1 H1 ρ1 σ) : ∀ {bs : List Bool} {os : List Opd} {vs : List V}, OpdRs w K Hf1 H1 Hb ρ1 σ os vs →
    (∀ i, i ∈ lentOf bs os → ∃ (l : Bool) (d : D), ρ1[i]? = some (some (Sl.own l d))) → KindOk bs os →
    (∀ d, Opd.t d ∉ os) → (lentOf bs os).Nodup → (lentA bs vs).Nodup
  | [], os, vs, h, _, _, _, _ => by cases os <;> cases vs <;> simp [lentA]
  | b :: bs, [], vs, h, _, _, _, _ => by
    have e : vs = [] := h
    subst e
    cases b <;> simp [lentA]
  | b :: bs, o :: os, vs, h, ho, hk, ht, hn => by
    obtain ⟨v, r, rfl, q, qs⟩ := h
    have hk0 := hk 0 b o rfl rfl
    have hk' : KindOk bs os := fun j b o h1 h2 => hk (j + 1) b o (by simpa using h1) (by simpa using h2)
    have ht' : ∀ d, Opd.t d ∉ os := fun d hd => ht d (List.mem_cons_of_mem _ hd)
    cases b with
    | false =>
      have e : lentA (false :: bs) (v :: r) = lentA bs r := by cases v <;> rfl
      rw [e]
      exact lent_nodup S qs (fun i hi => ho i hi) hk' ht' hn
    | true =>
      rcases hk0.2 rfl with ⟨i, rfl⟩ | ⟨d', rfl⟩
      · obtain ⟨l, d0, e4⟩ := ho i List.mem_cons_self
        have e5 : σ[i]? = some (some v) := q
        obtain ⟨v', e6, b, rfl, n, z⟩ := S.rep i _ e4
        rw [e5] at e6; cases e6
        have hn' : i ∉ lentOf bs os ∧ (lentOf bs os).Nodup := List.nodup_cons.mp hn
        refine List.nodup_cons.mpr ⟨fun hb => ?_, lent_nodup S qs (fun i hi => ho i (List.mem_cons_of_mem _ hi)) hk' ht' hn'.2⟩
        rcases lent_of S qs (fun i hi => ho i (List.mem_cons_of_mem _ hi)) hk' b hb with ⟨j, hj, l', d', e7, e8⟩ | ⟨⟨d, hd⟩, _⟩
        · exact hn'.1 (by rw [S.one i j l l' d0 d' b e4 e7 e5 e8]; exact hj)
        · exact ht' d hd
      · exact absurd List.mem_cons_self (ht d')
/-- behind a call: what came back stands in the lent slots -/
theorem back_spec : ∀ {bs : List Bool} {os : List Opd} {vs : List V} {outs : List D} {ρ ρ' : Env}, OpdRs w K Hf1 H1 Hb ρ1 σ os vs → OutsR w K Hf' H' bs vs outs → backIn bs os outs ρ = some ρ' → (lentOf bs os).Nodup →
    ρ'.length = ρ.length ∧ (∀ j, j ∉ lentOf bs os → ρ'[j]? = ρ[j]?) ∧ (∀ j, j ∈ lentOf bs os → ∃ (l : Bool) (d d' : D) (a : Addr), ρ[j]? = some (some (Sl.own l d)) ∧ ρ'[j]? = some (some (Sl.own l d')) ∧ σ[j]? = some (some (V.ref a)) ∧ Hf' a = none ∧ OwnAt w K Hf' H' a d')
  | [], [], vs, outs, ρ, ρ', _, ho, e, _ => by
    cases outs with
    | nil => cases e; exact ⟨rfl, fun _ _ => rfl, fun j hj => by simp [lentOf] at hj⟩
    | cons _ _ => cases e
  | [], _ :: _, _, outs, _, _, _, _, e, _ => by cases outs <;> cases e
  | true :: _, [], _, outs, _, _, _, _, e, _ => by cases outs <;> cases e
  | false :: _, [], _, outs, _, _, _, _, e, _ => by cases outs <;> cases e
  | false :: bs, o :: os, vs, outs, ρ, ρ', h, ho, e, hn => by
    obtain ⟨v, r, rfl, q, qs⟩ := h
    have e' : backIn bs os outs ρ = some ρ' := by cases outs <;> exact e
    exact back_spec (bs := bs) (os := os) qs ho e' hn
  | true :: bs, o :: os, vs, outs, ρ, ρ', h, ho, e, hn => by
    obtain ⟨v, r, rfl, q, qs⟩ := h
    obtain ⟨a, d, r', rfl, rfl, n, z, zs⟩ := ho
    cases o with
    | d _ => cases e
    | t _ => exact back_spec (bs := bs) (os := os) qs zs e hn
    | s i =>
      unfold backIn at e
      split at e
      · rename_i l d0 e4
        have hi : i < ρ.length := (List.getElem?_eq_some_iff.mp e4).1
        have hn' : i ∉ lentOf bs os ∧ (lentOf bs os).Nodup := List.nodup_cons.mp hn
        obtain ⟨h1, h2, h3⟩ := back_spec qs zs e hn'.2
        refine ⟨by rw [h1, List.length_set], fun j hj => ?_, fun j hj => ?_⟩
        · have hj' : j ≠ i ∧ j ∉ lentOf bs os := ⟨fun y => hj (by rw [y]; exact List.mem_cons_self), fun y => hj (List.mem_cons_of_mem _ y)⟩
          rw [h2 j hj'.2, List.getElem?_set_ne (Ne.symm hj'.1)]
        · rcases List.mem_cons.mp hj with rfl | hj
          · refine ⟨l, d0, d, a, e4, ?_, q, n, z⟩
            rw [h2 j hn'.1, List.getElem?_set_self hi]
          · have hne : i ≠ j := fun y => hn'.1 (by rw [y]; exact hj)
            obtain ⟨l', x, x', b, k1, k2, k3⟩ := h3 j hj
            rw [List.getElem?_set_ne hne] at k1
            exact ⟨l', x, x', b, k1, k2, k3⟩
      · cases e
end
section
variable {X : Cx} {W : XW} {pos : Pos} {fl : Flags} {c : CallF}
theorem ra_nil {bs : List Bool} : PA X [] (sOs X W (eva fl c bs .nil)) := PAimp pa_nil fun σ H Q ⟨Hf, ρ, S, g⟩ => by
  cases bs with
  | nil => exact g [] Hf H (Post.refl S) rfl
  | cons b bs => cases b <;> exact g.elim
theorem tO_d {e : Ex} {x : Expr} (hx : PE X x (sE X W (ev fl c e))) : PE X x (sO X W (fun ρ => bd (ev fl c e ρ) fun p => rt (.d p.1.d, p.2))) := PEimp (sD_of hx) fun σ H Q ⟨Hf, ρ, S, g⟩ =>
  Goes.read S g fun r ρ1 v Hf1 H1 _ P R q => q v Hf1 H1 P R
theorem ra_cons {bs : List Bool} {e : Ex} {es : Exs} {x : Expr} {xs : List Expr} (hs : noStar x = true) (he : PE X x (sE X W (ev fl c e))) (hl : PE X x (sO X W (evlOf e (ev fl c e)))) (hes : ∀ bs, PA X xs (sOs X W (eva fl c bs es))) :
    PA X (x :: xs) (sOs X W (eva fl c bs (.cons e es))) := by
  cases bs with
  | nil => exact ⟨fun pos pins s σ H Q I ⟨Hf, ρ, S, g⟩ => g.elim⟩
  | cons b bs =>
    cases b with
    | true =>
      exact PAimp (pa_cons hl (hes bs) (star_ne hs)) fun σ H Q ⟨Hf, ρ, S, g⟩ => by
        unfold eva at g
        show sO X W (evlOf e (ev fl c e)) σ H fun x H1 => sOs X W (eva fl c bs es) σ H1 fun xs H2 => Q (x :: xs) H2
        exact Goes.read S g fun r ρ1 v Hf1 H1 _ P R q => ⟨Hf1, ρ1, P.slots, (Goes.bd q).imp fun os ρ2 _ q2 vs Hf2 H2 P2 R2 => q2 (v :: vs) Hf2 H2 (Post.trans S P P2) ⟨v, vs, rfl, R.later S P P2, R2.base P.step⟩⟩
    | false =>
      exact PAimp (pa_cons (sD_of he) (hes bs) (star_ne hs)) fun σ H Q ⟨Hf, ρ, S, g⟩ => by
        unfold eva at g
        show sD X W (ev fl c e) σ H fun x H1 => sOs X W (eva fl c bs es) σ H1 fun xs H2 => Q (x :: xs) H2
        exact Goes.read S g fun r ρ1 v Hf1 H1 _ P R q => ⟨Hf1, ρ1, P.slots, (Goes.bd q).imp fun os ρ2 _ q2 vs Hf2 H2 P2 R2 => q2 (v :: vs) Hf2 H2 (Post.trans S P P2) ⟨v, vs, rfl, Rep.mono P2.step.sub R, R2.base P.step⟩⟩
/-- what eva's operands are -/
theorem eva_spec {bs : List Bool} {es : Exs} {ρ ρ' : Env} {os : List Opd} (h : eva fl c bs es ρ = some (.ok (os, ρ'))) : bs.length = os.length ∧ KindOk bs os := by
  induction bs generalizing es ρ os with
  | nil =>
    cases es with
    | nil =>
      cases h
      exact ⟨rfl, fun j b o h1 => by simp at h1⟩
    | cons e es => cases h
  | cons b bs ih =>
    cases es with
    | nil => cases b <;> cases h
    | cons e es =>
      cases b with
      | true =>
        unfold eva at h
        cases h1 : evlOf e (ev fl c e) ρ with
        | none => rw [h1] at h; cases h
        | some r1 =>
          rw [h1] at h
          cases r1 with
          | error x => cases h
          | ok p =>
            obtain ⟨o, ρ1⟩ := p
            change bd (eva fl c bs es ρ1) (fun q => rt (o :: q.1, q.2)) = _ at h
            cases h2 : eva fl c bs es ρ1 with
            | none => rw [h2] at h; cases h
            | some r2 =>
              rw [h2] at h
              cases r2 with
              | error x => cases h
              | ok q =>
                obtain ⟨os', ρ2⟩ := q
                cases h
                obtain ⟨i1, i2⟩ := ih h2
                refine ⟨by simp [i1], fun j b o' k1 k2 => ?_⟩
                cases j with
                | zero =>
                  simp at k1 k2
                  subst k1 k2
                  refine ⟨fun z => (by cases z), fun _ => ?_⟩
                  cases e with
                  | var i =>
                    unfold evlOf at h1
                    simp only at h1
                    split at h1
                    · cases h1; exact .inl ⟨i, rfl⟩
                    · cases h1
                  | _ =>
                    rw [evlOf_ne rfl] at h1
                    refine .inr ?_
                    cases h3 : ev fl c _ ρ with
                    | none => rw [h3] at h1; cases h1
                    | some r3 =>
                      rw [h3] at h1
                      cases r3 with
                      | error x => cases h1
                      | ok p3 =>
                        obtain ⟨s3, ρ3⟩ := p3
                        cases s3 with
                        | val d => cases h1
                        | own l d => cases l with
                          | true => cases h1
                          | false => cases h1; exact ⟨d, rfl⟩
                | succ j => exact i2 j b o' (by simpa using k1) (by simpa using k2)
      | false =>
        unfold eva at h
        cases h1 : ev fl c e ρ with
        | none => rw [h1] at h; cases h
        | some r1 =>
          rw [h1] at h
          cases r1 with
          | error x => cases h
          | ok p =>
            obtain ⟨o, ρ1⟩ := p
            change bd (eva fl c bs es ρ1) (fun q => rt (Opd.d o.d :: q.1, q.2)) = _ at h
            cases h2 : eva fl c bs es ρ1 with
            | none => rw [h2] at h; cases h
            | some r2 =>
              rw [h2] at h
              cases r2 with
              | error x => cases h
              | ok q =>
                obtain ⟨os', ρ2⟩ := q
                cases h
                obtain ⟨i1, i2⟩ := ih h2
                refine ⟨by simp [i1], fun j b o' k1 k2 => ?_⟩
                cases j with
                | zero =>
                  simp at k1 k2
                  subst k1 k2
                  exact ⟨fun _ => ⟨_, rfl⟩, fun z => by cases z⟩
                | succ j => exact i2 j b o' (by simpa using k1) (by simpa using k2)
end
end Ev
end
section
set_option maxHeartbeats 200000
set_option maxRecDepth 100000
/-! A call of the text's own def; of built-in functions, types, methods. -/
namespace Ev
open PySem PySem.Spec PyProof.Rows L2

theorem noStars_any {env : PySem.Env} {pos : Pos} : ∀ {xs : List Expr}, xs.all noStar = true → (backTo pos (starEach xs env)).any (·.1) = false
  | [], _ => rfl
  | x :: xs, h => by
    rw [List.all_cons, Bool.and_eq_true] at h
    rw [star_ne h.1]
    show (false || (backTo pos (starEach xs env)).any (·.1)) = false
    rw [noStars_any h.2] <;> rfl
theorem noStars_all {env : PySem.Env} {pos : Pos} : ∀ {xs : List Expr}, xs.all noStar = true → (backTo pos (starEach xs env)).all (fun x => !x.1) = true
  | [], _ => rfl
  | x :: xs, h => by
    rw [List.all_cons, Bool.and_eq_true] at h
    rw [star_ne h.1]
    show (true && (backTo pos (starEach xs env)).all (fun x => !x.1)) = true
    rw [noStars_all h.2] <;> rfl
/-- the wish of exceptions, for a callee -/
def EK (X : Cx) (cl : List ClsD) (W : XW) (σ : L2.St) : XK := fun cv dx H' => ∃ x Hf', ExcRep X.w X.K X.mg cl x cv dx Hf' H' ∧ Sub Hf' H' ∧ W σ x Hf' H'
/-- the def x of the text keeps what the walk of the f-th def tells -/
def FnAt (CX : CXT) (X : Cx) (cl : List ClsD) (lvl : Nat) (fl : Flags) (c : CallF) (f : Nat) (x : Str) : Prop := ∃ (fa : Addr) (fd : FuncData) (ps : List Str), X.mg x = some (.ref fa) ∧ PySem.W.keepIn X.K (.ref fa) = true ∧ Binds X.K fd ps [] ∧ ps.length = (fl f).length ∧
  FnOk X.prog X.w X.K X.mg X.base CX lvl fa fd ps (spF X.w X.K X.mg cl (fl f) (c f))
theorem ownAll_spec {ρ : Env} {is : List Nat} (h : ownAll ρ is = true) : ∀ i ∈ is, ∃ (l : Bool) (d : D), ρ[i]? = some (some (Sl.own l d)) := fun i hi => by
  have q := List.all_eq_true.mp h i hi
  split at q
  · rename_i l d e
    exact ⟨l, d, e⟩
  · cases q
section
variable {X : Cx} {W : XW} {pos p : Pos} {fl : Flags} {c : CallF} {f : Nat} {x : Str} {xs : List Expr} {es : Exs}
theorem tempOk_spec {bs : List Bool} {os : List Opd} (h : tempOk bs os = true) : (∀ d, Opd.t d ∉ os) ∨ (bs.filter id).length = 1 := by
  unfold tempOk at h
  rw [Bool.or_eq_true] at h
  rcases h with h | h
  · refine .inl fun d hd => ?_
    have := List.all_eq_true.mp h _ hd
    simp at this
  · exact .inr (by simpa using h)
theorem lentA_length : ∀ (bs : List Bool) (vs : List V), (lentA bs vs).length ≤ (bs.filter id).length
  | [], vs => by cases vs <;> simp [lentA]
  | true :: bs, [] => by simp [lentA]
  | false :: bs, [] => by simp [lentA]
  | false :: bs, v :: vs => by
    have e : lentA (false :: bs) (v :: vs) = lentA bs vs := by cases v <;> rfl
    rw [e]
    simpa using lentA_length bs vs
  | true :: bs, v :: vs => by
    have ih := lentA_length bs vs
    cases v with
    | ref a =>
      show (a :: lentA bs vs).length ≤ _
      simp only [List.length_cons, List.filter_cons, id_eq, if_true]
      exact Nat.succ_le_succ ih
    | _ =>
      show (lentA bs vs).length ≤ _
      simp only [List.filter_cons, id_eq, if_true, List.length_cons]
      exact Nat.le_succ_of_le ih
/-- the reading of a call -/
theorem call_key {cl : List ClsD} {σ : L2.St} {H : Hp} {Q : VK} (h : sE X W (ev fl c (.call f es)) σ H Q) : sOs X W (eva fl c (fl f) es) σ H fun vs H1 => spF X.w X.K X.mg cl (fl f) (c f) (vs ++ []) H1 Q (EK X cl W σ) := by
  obtain ⟨Hf, ρ, S, g⟩ := h
  unfold ev at g
  refine ⟨Hf, ρ, S, (Goes.bd g).imp fun os ρ1 e q vs Hf1 H1 P R => ?_⟩
  show spF X.w X.K X.mg cl (fl f) (c f) (vs ++ []) H1 Q (EK X cl W σ)
  rw [List.append_nil]
  obtain ⟨hl, hk⟩ := eva_spec e
  simp only at q
  cases e1 : rdAll ρ1 os with
  | none => rw [e1] at q; exact q.elim
  | some ds =>
    rw [e1] at q
    simp only at q
    split at q
    · rename_i hc
      obtain ⟨hn, ho, ht⟩ := hc
      have ho' := ownAll_spec ho
      have hL := lent_of P.slots R ho' hk
      have sub : ∀ a, a ∈ lentA (fl f) vs → OwnSet ρ σ a ∨ H a = none := fun a ha => by
        rcases hL a ha with ⟨i, _, l, d, e2, e3⟩ | ⟨_, z⟩
        · exact .inl (P.ownS a ⟨i, l, d, e2, e3⟩)
        · exact .inr z
      refine ⟨Hf1, ds, P.slots.sub, args_of P.slots hl R e1 ho' hk, ?_, ?_⟩
      · rcases tempOk_spec ht with z | z
        · exact lent_nodup P.slots R ho' hk z hn
        · have := lentA_length (fl f) vs
          rw [z] at this
          match lentA (fl f) vs, this with
          | [], _ => exact List.nodup_nil
          | [a], _ => simp
          | _ :: _ :: _, h => simp at h
      · cases e4 : c f ds with
        | none => rw [e4] at q; exact q.elim
        | some out =>
          rw [e4] at q
          cases out with
          | error ex =>
            intro cv dx Hf' H' sb st er
            exact ⟨ex, Hf', er, sb, q Hf' H' sb (P.step.trans st sub)⟩
          | ok ro =>
            obtain ⟨r, outs⟩ := ro
            intro v Hf' H' sb st R2 O
            change Goes W Hf H ρ σ (match backIn (fl f) os outs ρ1 with
              | some ρ' => rt (r, ρ')
              | none => none) _ at q
            cases e5 : backIn (fl f) os outs ρ1 with
            | none => rw [e5] at q; exact q.elim
            | some ρ' =>
              rw [e5] at q
              obtain ⟨b1, b2, b3⟩ := back_spec R O e5 hn
              have st' : Step (OwnSet ρ σ) Hf H Hf' H' := P.step.trans st sub
              have was : ∀ j (l : Bool) (d : D), ρ'[j]? = some (some (Sl.own l d)) → ∃ (d' : D), ρ1[j]? = some (some (Sl.own l d')) := fun j l d e6 => by
                by_cases hj : j ∈ lentOf (fl f) os
                · obtain ⟨l', d1, d2, a, k1, k2, _⟩ := b3 j hj
                  rw [k2] at e6
                  cases e6
                  exact ⟨d1, k1⟩
                · rw [b2 j hj] at e6
                  exact ⟨d, e6⟩
              refine q v Hf' H' ⟨⟨sb, by rw [b1]; exact P.slots.len, fun j sl e6 => ?_, fun i j l m d1 d2 a k1 k2 k3 k4 => ?_⟩, st', fun j l d k1 => ?_⟩ (R2.of P.step)
              · by_cases hj : j ∈ lentOf (fl f) os
                · obtain ⟨l', d1, d2, a, k1, k2, k3, k4, k5⟩ := b3 j hj
                  rw [k2] at e6
                  cases e6
                  exact ⟨_, k3, a, rfl, k4, k5⟩
                · rw [b2 j hj] at e6
                  obtain ⟨u, k1, k2⟩ := P.slots.rep j sl e6
                  refine ⟨u, k1, ?_⟩
                  cases sl with
                  | val d => exact Rep.mono st.sub k2
                  | own l d =>
                    obtain ⟨a, rfl, n, z⟩ := k2
                    have m : ¬ a ∈ lentA (fl f) vs := fun ha => by
                      rcases hL a ha with ⟨i, hi, l', d', e7, e8⟩ | ⟨_, z'⟩
                      · exact hj (by rw [P.slots.one j i l l' d d' a e6 e7 k1 e8]; exact hi)
                      · obtain ⟨_, o', e'⟩ := S.ownThere (P.ownS a ⟨j, l, d, e6, k1⟩)
                        rw [z'] at e'; cases e'
                    obtain ⟨o, ho⟩ := z.there
                    exact ⟨a, rfl, st.cap a o ho m n, z.step st m⟩
              · obtain ⟨x1, w1⟩ := was i l d1 k1
                obtain ⟨x2, w2⟩ := was j m d2 k2
                exact P.slots.one i j l m x1 x2 a w1 w2 k3 k4
              · obtain ⟨x1, w1⟩ := was j l d k1
                exact P.own j l x1 w1
    · exact q.elim
theorem re_call {CX : CXT} {cl : List ClsD} {lvl : Nat} {y : Expr} (F : FnAt CX X cl lvl fl c f x) (hr : Room lvl X.A) (hg : Gl X x) (hdb : (x == ("__debug__" : Str)) = false) (hx : ∀ σ, PassesAt CX X σ (EK X cl W σ)) (hs : (y :: xs).all noStar = true) (ha : PA X (y :: xs) (sOs X W (eva fl c (fl f) es))) :
    PE X (.Call (.Name x p) (y :: xs) [] pos) (sE X W (ev fl c (.call f es))) := by
  obtain ⟨fa, fd, ps, hm, hk, hb, hl, F⟩ := F
  rw [List.all_cons, Bool.and_eq_true] at hs
  refine PEimp (pe_callS (E := EK X cl W) F hr hg hm hk hb hx ha hdb (star_ne hs.1) (noStars_any hs.2)) fun σ H Q h => ?_
  have k := call_key (cl := cl) h
  simp only [List.append_nil] at k
  exact k
theorem re_call0 {CX : CXT} {cl : List ClsD} {lvl : Nat} (F : FnAt CX X cl lvl fl c f x) (hr : Room lvl X.A) (hg : Gl X x) (hdb : (x == ("__debug__" : Str)) = false) (hx : ∀ σ, PassesAt CX X σ (EK X cl W σ)) :
    PE X (.Call (.Name x p) [] [] pos) (sE X W (ev fl c (.call f .nil))) := by
  obtain ⟨fa, fd, ps, hm, hk, hb, hl, F⟩ := F
  refine ⟨fun pins s σ H Q I h => ?_⟩
  refine wpAny_Call_Name_kw (ld_glob I hg hm ?_ hdb)
  refine PySem.W.callWith_K0 I.kIn hk (run_fnS (E := EK X cl W) (us := []) F hr hb (hx σ) I .nil ?_)
  obtain ⟨Hf, ρ, S, g⟩ := call_key (cl := cl) h
  have k : ∀ vs, vs = [] → spF X.w X.K X.mg cl (fl f) (c f) vs H Q (EK X cl W σ) := fun vs e => by
    subst e
    cases e : fl f with
    | nil =>
      rw [e] at g
      have := g [] Hf H (Post.refl S) rfl
      simpa using this
    | cons b bs =>
      rw [e] at g
      cases b <;> exact g.elim
  exact k [] rfl
end
end Ev
end
section
set_option maxHeartbeats 200000
set_option maxRecDepth 100000
/-! Built-in functions and types, isinstance, methods, dict displays: by rules of the values. -/
namespace Ev
open PySem PySem.Spec PyProof.Rows L2

section
variable (w : World) (K : PySem.W.Frag)
/-- a method that reads; one that changes its object -/
def rDm (g : D → List D → Option Sl) : V → List V → Hp → VK → Prop := fun x xs H Q => ∃ Hf dx ds r, Sub Hf H ∧ Opr w K Hf H dx x ∧ Reps w K Hf ds xs ∧ g dx ds = some r ∧ Ends1 w K Hf H r Q
def rDu (g : D → List D → Option (D × D)) : V → List V → Hp → VK → Prop := fun x xs H Q => ∃ Hf a d ds r d', x = .ref a ∧ Sub Hf H ∧ Hf a = none ∧ OwnAt w K Hf H a d ∧ Reps w K Hf ds xs ∧ g d ds = some (r, d') ∧
  ∀ v H', Sub Hf H' → Step (fun b => b = a) Hf H Hf H' → Rep w K Hf r v → OwnAt w K Hf H' a d' → Q v H'
/-- the value's type -/
def TyAt (H : Hp) (t : Ty) (x : V) : Prop := ∃ Hf d, Sub Hf H ∧ Opr w K Hf H d x ∧ tyD d = some t
end
section
variable {X : Cx} {W : XW} {pos p : Pos} {fl : Flags} {c : CallF}
theorem blt_key {b : Blt} {es : Exs} {σ : L2.St} {H : Hp} {Q : VK} (h : sE X W (ev fl c (.blt b es)) σ H Q) : sOs X W (evos fl c es) σ H fun vs H1 => rDs X.w X.K (bltD b) vs H1 Q := by
  obtain ⟨Hf, ρ, S, g⟩ := h
  unfold ev at g
  refine ⟨Hf, ρ, S, (Goes.bd g).imp fun os ρ1 e q vs Hf1 H1 P R => ?_⟩
  simp only at q
  split at q
  · rename_i ds e1
    obtain ⟨r, e2, q2⟩ := Goes.lift q
    exact ⟨Hf1, ds, r, P.slots.sub, R.opr P.slots e1, e2, end1 P q2⟩
  · exact q.elim
theorem re_bltB {b : Blt} {es : Exs} {x : Str} {id : String} {y : Expr} {xs : List Expr} (hc : CallR X (.builtin id) (rDs X.w X.K (bltD b))) (hg : Gl X x) (hm : X.mg x = none) (hv : bootBuiltins x = some (.builtin id)) (hn : x ≠ "__name__") (hd : (x == ("__debug__" : Str)) = false)
    (hs : (y :: xs).all noStar = true) (ha : PA X (y :: xs) (sOs X W (evos fl c es))) : PE X (.Call (.Name x p) (y :: xs) [] pos) (sE X W (ev fl c (.blt b es))) := by
  rw [List.all_cons, Bool.and_eq_true] at hs
  exact PEimp (pe_callB hc hg hm hv ha hn hd (star_ne hs.1) (noStars_any hs.2)) fun σ H Q h => blt_key h
theorem re_bltT {b : Blt} {es : Exs} {x : Str} {id : String} {y : Expr} {xs : List Expr} (hc : CallR X (.type id) (rDs X.w X.K (bltD b))) (hg : Gl X x) (hm : X.mg x = none) (hv : bootBuiltins x = some (.type id)) (hn : x ≠ "__name__") (hd : (x == ("__debug__" : Str)) = false)
    (hs : (y :: xs).all noStar = true) (ha : PA X (y :: xs) (sOs X W (evos fl c es))) : PE X (.Call (.Name x p) (y :: xs) [] pos) (sE X W (ev fl c (.blt b es))) := by
  rw [List.all_cons, Bool.and_eq_true] at hs
  exact PEimp (pe_callTy hc hg hm hv ha hn hd (star_ne hs.1) (noStars_any hs.2)) fun σ H Q h => blt_key h
/-! ### isinstance -/
def tyS : Ty → String
  | .int => "int" | .str => "str" | .bool => "bool" | .tuple => "tuple" | .list => "list" | .dict => "dict"
theorem sqT_ty {K : PySem.W.Frag} {H : Hp} {a : Addr} {xs : List V} (h : SqT K H a xs) : TyX K H (.ref a) (.type "tuple") := by
  rcases h with (h | ⟨o, h⟩) | ⟨o, its, n, h1, h2, _⟩
  · exact .base (.tup h)
  · exact .fTuple h
  · exact .kTuple h1 h2
theorem sqL_ty {K : PySem.W.Frag} {H : Hp} {a : Addr} {xs : List V} (h : SqL K H a xs) : TyX K H (.ref a) (.type "list") := by
  rcases h with (h | ⟨o, h⟩) | ⟨o, its, n, h1, h2, _⟩
  · exact .base (.lst h)
  · exact .base (.frz h)
  · exact .kList h1 h2
/-- a value's type: the kit's, or a dict by its entries -/
def TyY (K : PySem.W.Frag) (H : Hp) (x : V) (t : Value) : Prop := TyX K H x t ∨ (t = .type "dict" ∧ ∃ a es ep, x = .ref a ∧ H a = some (DO a es ep))
def rIsd (K : PySem.W.Frag) : List V → Hp → VK → Prop := fun xs H Q => ∃ (x c : V) (t u : Value) (b : Bool), xs = [x, c] ∧ ClsV c u ∧ TyY K H x t ∧ PySem.W.kitOne K t u = some b ∧ Q (.bl b) H
theorem call_isd : CallR X (.builtin "isinstance") (rIsd X.K) := fun pins s σ H xs us Q I r h => by
  obtain ⟨x, c, t, u, b, rfl, k, ty, e, q⟩ := h
  rcases ty with ty | ⟨rfl, a, es, ep, rfl, hd⟩
  · exact call_isi pins s σ H _ us Q I r ⟨x, c, t, u, b, rfl, k, ty, e, q⟩
  · obtain ⟨u1, u2, rfl, r1, r2⟩ := vals2 r
    have e2 := k.eq r2
    subst e2
    cases (show u1 = Value.ref a from r1)
    obtain ⟨⟨o, h1, h2, _⟩, _⟩ : DPhi a es ep s.heap ∧ _ := I.hok a _ hd
    exact PySem.W.kia_one PySem.W.kitx_dict I.kIn ⟨o, h1, h2.1⟩ e (fun z => nomatch z) fun tk => ⟨.bl b, H, I.tok tk, rfl, q⟩
theorem isi_ok {w : World} {K : PySem.W.Frag} {Hf H : Hp} {d : D} {v : V} {t : Ty} {b : Bool} (s : Sub Hf H) (h : Opr w K Hf H d v) (e : isiD t d = some b) : ∃ tv, TyY K H v tv ∧ PySem.W.kitOne K tv (.type (tyS t)) = some b := by
  cases d with
  | none =>
    have e1 : v = .non := by simpa [Opr, Rep] using h
    subst e1
    cases e
    refine ⟨_, .inl (.base .non), ?_⟩
    cases t <;> exact kit_ty (by decide +kernel)
  | bool k =>
    have e1 : v = .bl k := by simpa [Opr, Rep] using h
    subst e1
    refine ⟨_, .inl (.base (.bl k)), ?_⟩
    cases t <;> cases e <;> exact kit_ty (by decide +kernel)
  | int k =>
    have e1 : v = .int k := by simpa [Opr, Rep] using h
    subst e1
    refine ⟨_, .inl (.base (.int k)), ?_⟩
    cases t <;> cases e <;> exact kit_ty (by decide +kernel)
  | str k =>
    have e1 : v = .str k := by simpa [Opr, Rep] using h
    subst e1
    refine ⟨_, .inl (.base (.str k)), ?_⟩
    cases t <;> cases e <;> exact kit_ty (by decide +kernel)
  | tuple ds =>
    obtain ⟨a, xs, e1, q, _⟩ : ∃ a xs, v = .ref a ∧ SqT K Hf a xs ∧ Reps w K Hf ds xs := by simpa [Opr, Rep] using h
    subst e1
    refine ⟨_, .inl (sqT_ty (sub_t s q)), ?_⟩
    cases t <;> cases e <;> exact kit_ty (by decide +kernel)
  | list ds =>
    obtain ⟨a, xs, e1, q, _⟩ := h
    subst e1
    refine ⟨_, .inl (sqL_ty q), ?_⟩
    cases t <;> cases e <;> exact kit_ty (by decide +kernel)
  | dict kvs =>
    obtain ⟨a, es, ep, rfl, _, _, q, _⟩ := h
    refine ⟨_, .inr ⟨rfl, a, _, _, rfl, q⟩, ?_⟩
    cases t <;> cases e <;> exact kit_ty (by decide +kernel)
theorem re_isi {e : Ex} {t : Ty} {x z : Str} {y : Expr} {zp : Pos} (hg : Gl X x) (hx : x = "isinstance") (hm : X.mg x = none) (hz : z = Str.ofString (tyName t)) (gz : Gl X z) (hmz : X.mg z = none) (hs : noStar y = true) (hy : PE X y (sO X W (evoOf e (ev fl c e)))) :
    PE X (.Call (.Name x p) [y, .Name z zp] [] pos) (sE X W (ev fl c (.isi e t))) := by
  have hb : bootBuiltins z = some (.type (tyS t)) := by subst hz; cases t <;> decide +kernel
  have hn : z ≠ "__name__" := by subst hz; cases t <;> decide +kernel
  have hd : (z == ("__debug__" : Str)) = false := by subst hz; cases t <;> decide +kernel
  subst hx
  refine PEimp (pe_callB call_isd hg hm (by decide +kernel) (pa_cons hy (pa_cons (pe_bltn gz hmz hb (v := .ty (tyS t)) rfl hn hd) pa_nil) (star_ne hs)) (by decide) (by decide) (star_ne hs) (by rfl)) fun σ H Q ⟨Hf, ρ, S, g⟩ => ?_
  unfold ev at g
  show sO X W (evoOf e (ev fl c e)) σ H fun x H1 => _
  refine Goes.read S g fun o1 ρ1 v1 Hf1 H1 _ P1 R1 q1 => ?_
  simp only at q1
  split at q1
  · rename_i d e1
    obtain ⟨r, e2, q2⟩ := Goes.lift q1
    cases e3 : isiD t d with
    | none => rw [e3] at e2; cases e2
    | some b =>
      rw [e3] at e2
      cases e2
      obtain ⟨tv, ht, hk⟩ := isi_ok P1.slots.sub (R1.opr P1.slots e1) e3
      exact ⟨v1, .ty (tyS t), tv, .type (tyS t), b, rfl, .ty _, ht, hk, q2 _ Hf1 H1 P1 resB⟩
  · exact q1.elim
/-! ### methods -/
theorem base_ne {o : Expr} {name : Str} {env : PySem.Env} (h : okBase o = true) : attributeBase o name env (eval o env) = eval o env := by
  cases o with
  | Call f as ks ps =>
    cases f with
    | Name n np =>
      cases as with
      | nil => cases ks with
        | nil => cases h
        | cons _ _ => rfl
      | cons _ _ => rfl
    | _ => rfl
  | _ => rfl
theorem ty_is {pins : List (Addr × Obj)} {σ : L2.St} {H : Hp} {s : Shared} {t : Ty} {x : V} {v : Value} (ht : t = .list ∨ t = .dict ∨ t = .str) (I : Inv X pins σ H s) (r : RelV x v) (ty : TyAt X.w X.K H t x) :
    s.TypeIs v (tyS t) ∧ ∀ a, v = .ref a → ∃ ob, s.heap.get? a = some ob ∧ ob.dict = none := by
  obtain ⟨Hf, d, sb, h, e⟩ := ty
  cases d with
  | str y =>
    have e1 : x = .str y := by simpa [Opr, Rep] using h
    subst e1
    cases e
    obtain ⟨tk, rfl⟩ := r
    exact ⟨typeIs_str s y tk, fun _ e => nomatch e⟩
  | list ds =>
    obtain ⟨a, xs, rfl, q, _⟩ := h
    cases e
    cases r
    obtain ⟨its, _, pl, _⟩ := I.list q
    refine ⟨pl.isList.typeIs, fun a e => ?_⟩
    cases e
    obtain ⟨o, n, e, c, hd, _⟩ := pl
    exact ⟨o, e, hd⟩
  | dict kvs =>
    obtain ⟨a, es, ep, rfl, _, _, q, _⟩ := h
    cases e
    cases r
    obtain ⟨⟨o, e1, ex, e2⟩, _⟩ : DPhi a es.toArray ep s.heap ∧ _ := I.hok a _ q
    refine ⟨⟨o, e1, ex.1⟩, fun b e => ?_⟩
    cases e
    exact ⟨o, e1, ex.2.1⟩
  | none => cases e
  | bool b => cases e; rcases ht with h | h | h <;> cases h
  | int b => cases e; rcases ht with h | h | h <;> cases h
  | tuple b => cases e; rcases ht with h | h | h <;> cases h
def tBMD (w : World) (K : PySem.W.Frag) (t : Ty) (r : V → List V → Hp → VK → Prop) (to : TE) (ta : TA) : TE := fun σ H Q => to σ H fun x H1 => TyAt w K H1 t x ∧ ta σ H1 fun xs H2 => r x xs H2 Q
theorem pe_bmD {o : Expr} {xs : List Expr} {to : TE} {ta : TA} {name : Str} {apos cpos : Pos} {t : Ty} {id : String} {r : V → List V → Hp → VK → Prop} (ht : t = .list ∨ t = .dict ∨ t = .str) (pa : PlainAttrs (tyS t)) (slot : Slot (tyS t) name id) (hty : typeOf (.builtin id) = pure (.type "method_descriptor"))
    (hm : MtR X id r) (ho : PE X o to) (ha : PA X xs ta) (h0 : xs = [] → ∀ σ H Q, ta σ H Q → Q [] H) (hb : okBase o = true) (hs : xs.all noStar = true) (hl : xs.length < 30) (hline : (apos.endLine == cpos.line) = true) :
    PE X (.Call (.Attribute o name apos) xs [] cpos) (tBMD X.w X.K t r to ta) := by
  refine ⟨fun pins s σ H Q I h => ?_⟩
  cases xs with
  | nil =>
    refine wpAny_Call_method0_late (base_ne hb) hline (thn (ho.run pins s σ H _ I h) fun v s1 ⟨x, H1, I1, r1, ty, q1⟩ => ?_)
    obtain ⟨h1, h2⟩ := ty_is ht I1 r1 ty
    refine ⟨tyS t, id, pa, slot, hty, h1, h2, Calls.callWith_builtin rfl (PySem.evalArgs_none ?_)⟩
    exact hm pins s1 σ H1 x [] v [] Q I1 r1 .nil (h0 rfl σ H1 _ q1)
  | cons e es =>
    rw [List.all_cons, Bool.and_eq_true] at hs
    have hfew : ((backTo cpos (starEach (e :: es) X.env)).all (fun x => !x.1) && (backToKw cpos (keywordEach [] X.env)).all (fun x => x.1.isSome)
        && decide ((e :: es).length + ([] : List Keyword).length + (if ([] : List Keyword).isEmpty then 0 else 1) < 30)) = true := by
      rw [noStars_all (by rw [List.all_cons, Bool.and_eq_true]; exact hs)]
      have : (e :: es).length + ([] : List Keyword).length + (if ([] : List Keyword).isEmpty then 0 else 1) < 30 := by simpa using hl
      simp [keywordEach, backToKw]
      simpa using hl
    refine wpAny_Call_method_late (base_ne hb) hfew hline rfl (thn (ho.run pins s σ H _ I h) fun v s1 ⟨x, H1, I1, r1, ty, q1⟩ => ?_)
    obtain ⟨h1, h2⟩ := ty_is ht I1 r1 ty
    refine ⟨tyS t, id, pa, slot, hty, h1, h2, ?_⟩
    have hA := ha.run cpos pins s1 σ H1 _ I1 q1
    rw [star_ne hs.1] at hA ⊢
    refine Calls.callWith_builtin (by show (false || (backTo cpos (starEach es X.env)).any (·.1)) = false; rw [noStars_any hs.2] <;> rfl) (Calls.evalArgs_plain ?_)
    exact thn hA fun us s2 ⟨vs, H2, I2, r2, q2⟩ => hm pins s2 σ H2 x vs v us Q I2 r1 r2 q2
theorem sF_nil {es : Exs} (h : es = .nil) (σ : L2.St) (H : Hp) (Q : List V → Hp → Prop) (q : sF X W (evf fl c es) σ H Q) : Q [] H := by
  subst h
  obtain ⟨Hf, ρ, S, g⟩ := q
  exact g [] Hf H (Post.refl S) Reps.nil
theorem re_mth {m : Mth} {eo : Ex} {es : Exs} {o : Expr} {xs : List Expr} {name : Str} {apos cpos : Pos} {t : Ty} {id : String} (et : mthTy m = some t) (ht : t = .list ∨ t = .dict ∨ t = .str) (pa : PlainAttrs (tyS t)) (slot : Slot (tyS t) name id) (hty : typeOf (.builtin id) = pure (.type "method_descriptor"))
    (hm : MtR X id (rDm X.w X.K (mthD m))) (ho : PE X o (sO X W (evoOf eo (ev fl c eo)))) (ha : PA X xs (sF X W (evf fl c es))) (h0 : xs = [] → es = .nil) (hb : okBase o = true) (hs : xs.all noStar = true) (hl : xs.length < 30) (hline : (apos.endLine == cpos.line) = true) :
    PE X (.Call (.Attribute o name apos) xs [] cpos) (sE X W (ev fl c (.mth m eo es))) :=
  PEimp (pe_bmD ht pa slot hty hm ho ha (fun z => sF_nil (h0 z)) hb hs hl hline) fun σ H Q ⟨Hf, ρ, S, g⟩ => by
    unfold ev at g
    show sO X W (evoOf eo (ev fl c eo)) σ H fun x H1 => TyAt X.w X.K H1 t x ∧ sF X W (evf fl c es) σ H1 fun xs H2 => rDm X.w X.K (mthD m) x xs H2 Q
    refine Goes.read S g fun o1 ρ1 v1 Hf1 H1 _ P1 R1 q1 => ?_
    simp only at q1
    split at q1
    · rename_i x0 e0
      split at q1
      · rename_i e1
        refine ⟨⟨Hf1, x0, P1.slots.sub, R1.opr P1.slots e0, by rw [e1, et]⟩, Hf1, ρ1, P1.slots, (Goes.bd q1).imp fun ds ρ2 _ q2 vs Hf2 H2 P2 R2 => ?_⟩
        simp only at q2
        split at q2
        · rename_i x e2
          obtain ⟨r, e3, q3⟩ := Goes.lift q2
          exact ⟨Hf2, x, ds, r, P2.slots.sub, (R1.later S P1 P2).opr P2.slots e2, R2, e3, end1 (Post.trans S P1 P2) q3⟩
        · exact q2.elim
      · exact q1.elim
    · exact q1.elim
theorem re_mut {N : List Str} {sc : Scope} {m : Mut} {i : Nat} {es : Exs} {x : Str} {np : Pos} {xs : List Expr} {name : Str} {apos cpos : Pos} {t : Ty} {id : String} (hN : X.N = N) (hsc : X.env.scope = sc) (hv : okVar N sc i x = true) (et : mutTy m = some t) (ht : t = .list ∨ t = .dict ∨ t = .str) (pa : PlainAttrs (tyS t)) (slot : Slot (tyS t) name id)
    (hty : typeOf (.builtin id) = pure (.type "method_descriptor")) (hm : MtR X id (rDu X.w X.K (mutD m))) (ha : PA X xs (sF X W (evf fl c es))) (h0 : xs = [] → es = .nil) (hs : xs.all noStar = true) (hl : xs.length < 30) (hline : (apos.endLine == cpos.line) = true) :
    PE X (.Call (.Attribute (.Name x np) name apos) xs [] cpos) (sE X W (ev fl c (.mut m i es))) :=
  PEimp (pe_bmD ht pa slot hty hm (pe_name hN hsc hv) ha (fun z => sF_nil (h0 z)) rfl hs hl hline) fun σ H Q ⟨Hf, ρ, S, g⟩ => by
    unfold ev at g
    split at g
    · rename_i l0 d0 e0
      split at g
      · rename_i e1
        obtain ⟨v, e2, a, rfl, n, z⟩ := S.rep i _ e0
        refine ⟨.ref a, e2, ⟨Hf, d0, S.sub, Opr.own z, by rw [e1, et]⟩, Hf, ρ, S, (Goes.bd g).imp fun ds ρ1 _ q vs Hf1 H1 P R => ?_⟩
        simp only at q
        split at q
        · rename_i l d e3
          split at q
          · rename_i r d' e4
            obtain ⟨v', e5, b, rfl, n', z'⟩ := P.slots.rep i _ e3
            rw [e2] at e5; cases e5
            have hi : i < ρ1.length := (List.getElem?_eq_some_iff.mp e3).1
            refine ⟨Hf1, a, d, ds, r, d', rfl, P.slots.sub, n', z', R, e4, fun v H' sb st hr ho => ?_⟩
            have was : ∀ j (l' : Bool) (d1 : D), (ρ1.set i (some (Sl.own l d')))[j]? = some (some (Sl.own l' d1)) → ∃ (d2 : D), ρ1[j]? = some (some (Sl.own l' d2)) := fun j l' d1 e6 => by
              by_cases hj : i = j
              · subst hj
                rw [List.getElem?_set_self hi] at e6
                cases e6
                exact ⟨d, e3⟩
              · rw [List.getElem?_set_ne hj] at e6; exact ⟨d1, e6⟩
            refine q v Hf1 H' ⟨⟨sb, by rw [List.length_set]; exact P.slots.len, fun j sl e6 => ?_, fun j k l1 l2 d1 d2 b k1 k2 k3 k4 => ?_⟩, P.step.trans st fun b e => .inl (by rw [e]; exact P.ownS a ⟨i, l, d, e3, e2⟩), fun j l1 d1 k1 => ?_⟩ hr
            · by_cases hj : i = j
              · subst hj
                rw [List.getElem?_set_self hi] at e6
                cases e6
                exact ⟨_, e2, a, rfl, n', ho⟩
              · rw [List.getElem?_set_ne hj] at e6
                obtain ⟨u, k1, k2⟩ := P.slots.rep j sl e6
                refine ⟨u, k1, ?_⟩
                cases sl with
                | val d1 => exact k2
                | own l1 d1 =>
                  obtain ⟨b, rfl, nb, zb⟩ := k2
                  have hne : b ≠ a := fun y => hj (P.slots.one i j l l1 d d1 a e3 e6 e2 (by rw [k1, y]))
                  exact ⟨b, rfl, nb, zb.step st hne⟩
            · obtain ⟨x1, w1⟩ := was j l1 d1 k1
              obtain ⟨x2, w2⟩ := was k l2 d2 k2
              exact P.slots.one j k l1 l2 x1 x2 b w1 w2 k3 k4
            · obtain ⟨x1, w1⟩ := was j l1 d1 k1
              exact P.own j l1 x1 w1
          · exact q.elim
        · exact q.elim
      · exact g.elim
    · exact g.elim
end
end Ev
end
section
set_option maxHeartbeats 200000
set_option maxRecDepth 100000
/-! Targets; what is walked; comprehensions. -/
namespace Ev
open PySem PySem.Spec PyProof.Rows L2

/-! ### targets -/
/-- a name that may be stored -/
structure TgOk (X : Cx) (i : Nat) (x : Str) : Prop where
  ix : X.N[i]? = some x
  loc : Loc X.env.scope x
  fn : X.fn x = true ∨ X.env.scope.names.lookup x = some .local
def isNameN (i : Nat) (X : Cx) : Expr → Prop
  | .Name x _ => TgOk X i x
  | _ => False
def areNames (X : Cx) : List Nat → List Expr → Prop
  | [], [] => True
  | i :: is, e :: es => isNameN i X e ∧ areNames X is es
  | _, _ => False
def tgOk (X : Cx) : Tg → Expr → Prop
  | .name i, e => isNameN i X e
  | .tup is, .Tuple es _ _ => areNames X is es
  | _, _ => False
/-- in a def's own scope -/
theorem okTg_spec {X : Cx} {N : List Str} {sc : Scope} {i : Nat} {e : Expr} (hN : X.N = N) (hl : ∀ x, loccB sc x = true → Loc X.env.scope x ∧ (X.fn x = true ∨ X.env.scope.names.lookup x = some .local)) (h : okTg N sc i e = true) : isNameN i X e := by
  unfold okTg at h
  split at h
  · rename_i x p
    rw [Bool.and_eq_true] at h
    subst hN
    exact ⟨of_decide_eq_true h.1, (hl x h.2).1, (hl x h.2).2⟩
  · cases h
theorem okTgs_spec {X : Cx} {N : List Str} {sc : Scope} (hN : X.N = N) (hl : ∀ x, loccB sc x = true → Loc X.env.scope x ∧ (X.fn x = true ∨ X.env.scope.names.lookup x = some .local)) : ∀ {is : List Nat} {es : List Expr}, okTgs N sc is es = true → areNames X is es
  | [], [], _ => True.intro
  | [], _ :: _, h => by cases h
  | _ :: _, [], h => by cases h
  | i :: is, e :: es, h => by
    have h' : (okTg N sc i e && okTgs N sc is es) = true := h
    rw [Bool.and_eq_true] at h'
    exact ⟨okTg_spec hN hl h'.1, okTgs_spec hN hl h'.2⟩
theorem chkTg_spec {X : Cx} {N : List Str} {sc : Scope} {tg : Tg} {e : Expr} (hN : X.N = N) (hl : ∀ x, loccB sc x = true → Loc X.env.scope x ∧ (X.fn x = true ∨ X.env.scope.names.lookup x = some .local)) (h : chkTg N sc tg e = true) : tgOk X tg e := by
  cases tg with
  | name i => exact okTg_spec hN hl h
  | tup is =>
    cases e with
    | Tuple es k p => exact okTgs_spec hN hl h
    | _ => cases h
def setAll (σ : L2.St) : List Nat → List V → L2.St
  | i :: is, v :: vs => setAll (σ.set i (some v)) is vs
  | _, _ => σ
def gD (K : PySem.W.Frag) (tg : Tg) : TG := fun x σ H Q => match tg with
  | .name i => Q (σ.set i (some x)) H
  | .tup is => ∃ a xs, x = .ref a ∧ SqT K H a xs ∧ xs.length = is.length ∧ Q (setAll σ is xs) H
section
variable {X : Cx}
theorem names_each {env : PySem.Env} : ∀ {is : List Nat} {es : List Expr}, areNames X is es → (assignEach es env).length = is.length ∧ (assignEach es env).findIdx? (·.1) = none
  | [], [], _ => ⟨rfl, rfl⟩
  | [], _ :: _, h => h.elim
  | _ :: _, [], h => h.elim
  | i :: is, e :: es, h => by
    obtain ⟨h1, h2⟩ := names_each (env := env) h.2
    cases e with
    | Name x p =>
      refine ⟨by show (assignEach es env).length + 1 = _; rw [h1]; rfl, ?_⟩
      show List.findIdx? (·.1) ((false, assign (.Name x p) env) :: assignEach es env) = none
      rw [List.findIdx?_cons, h2] <;> rfl
    | _ => exact h.1.elim
theorem pgs_names (hN : X.N.Nodup) : ∀ {is : List Nat} {es : List Expr}, areNames X is es → PGs X es (fun vs σ H Q => vs.length = is.length ∧ Q (setAll σ is vs) H)
  | [], [], _ => ⟨fun pins s σ H vs us Q I r ⟨hl, q⟩ => by
      cases vs with
      | nil => cases r; exact assignInOrder_nil ⟨σ, H, I, q⟩
      | cons _ _ => cases hl⟩
  | [], _ :: _, h => h.elim
  | _ :: _, [], h => h.elim
  | i :: is, e :: es, h => by
    have ih := pgs_names hN h.2
    cases e with
    | Name x p =>
      obtain ⟨t1, t2, t3⟩ : TgOk X i x := h.1
      refine ⟨fun pins s σ H vs us Q I r ⟨hl, q⟩ => ?_⟩
      cases vs with
      | nil => cases hl
      | cons v vs =>
        cases r with
        | cons r rr =>
          show wpAny _ _ (assignInOrder (assign (.Name x p) X.env :: (assignEach es X.env).map (·.2)) _) _ _ _
          exact assignInOrder_cons (thn ((pg_name hN t1 t2 t3).run pins s σ H _ _ (fun σ' H' => σ' = σ.set i (some v) ∧ H' = H) I r ⟨rfl, rfl⟩) fun _ s1 ⟨σ1, H1, I1, e1, e2⟩ => by
            subst e1 e2
            exact ih.run pins s1 _ _ _ _ Q I1 rr ⟨by simpa using hl, q⟩)
    | _ => exact h.1.elim
theorem pg_tg (hc : X.calm = true) (hN : X.N.Nodup) {tg : Tg} {e : Expr} (h : tgOk X tg e) : PG X e (gD X.K tg) := by
  cases tg with
  | name i =>
    cases e with
    | Name x p =>
      obtain ⟨t1, t2, t3⟩ : TgOk X i x := h
      exact pg_name hN t1 t2 t3
    | _ => exact h.elim
  | tup is =>
    cases e with
    | Tuple es k p =>
      have h' : areNames X is es := h
      obtain ⟨h1, h2⟩ := names_each (env := X.env) h'
      have g := pg_tup (k := k) (pos := p) hc (pgs_names hN h') h1 h2
      exact ⟨fun pins s σ H v u Q I r ⟨a, xs, e1, e2, e3, q⟩ => g.run pins s σ H v u Q I r ⟨a, xs, e1, e2, e3, e3, q⟩⟩
    | _ => exact h.elim
end
/-! ### targets in slots -/
section
variable {w : World} {K : PySem.W.Frag} {Hf H : Hp} {ρ ρ' : Env} {σ : L2.St}
/-- a slot takes frozen data -/
theorem Slots.setVal {i : Nat} {d : D} {v : V} (S : Slots w K Hf H ρ σ) (r : Rep w K Hf d v) : Slots w K Hf H (ρ.set i (some (Sl.val d))) (σ.set i (some v)) := by
  refine ⟨S.sub, by rw [List.length_set, List.length_set]; exact S.len, fun j sl e => ?_, fun j k l m d1 d2 a e1 e2 e3 e4 => ?_⟩
  · by_cases hj : i = j
    · subst hj
      have hi : i < ρ.length := by
        have := (List.getElem?_eq_some_iff.mp e).1
        simpa using this
      rw [List.getElem?_set_self hi] at e
      cases e
      exact ⟨v, by rw [List.getElem?_set_self (by rw [← S.len]; exact hi)], r⟩
    · rw [List.getElem?_set_ne hj] at e ⊢
      exact S.rep j sl e
  · have hn : ∀ {j : Nat} {l : Bool} {d' : D}, (ρ.set i (some (Sl.val d)))[j]? = some (some (Sl.own l d')) → i ≠ j := fun {j l d'} e y => by
      subst y
      have hi : i < ρ.length := by
        have := (List.getElem?_eq_some_iff.mp e).1
        simpa using this
      rw [List.getElem?_set_self hi] at e
      cases e
    have hj := hn e1
    have hk := hn e2
    rw [List.getElem?_set_ne hj] at e1 e3
    rw [List.getElem?_set_ne hk] at e2 e4
    exact S.one j k l m d1 d2 a e1 e2 e3 e4
theorem OwnSet.setVal {i : Nat} {d : D} {v : V} {l : Bool} {a : Addr} (h : OwnL l (ρ.set i (some (Sl.val d))) (σ.set i (some v)) a) : OwnL l ρ σ a := by
  obtain ⟨j, d', e1, e2⟩ := h
  have hj : i ≠ j := fun y => by
    subst y
    have hi : i < ρ.length := by
      have := (List.getElem?_eq_some_iff.mp e1).1
      simpa using this
    rw [List.getElem?_set_self hi] at e1
    cases e1
  rw [List.getElem?_set_ne hj] at e1 e2
  exact ⟨j, d', e1, e2⟩
theorem setVal_ix {i j : Nat} {d d' : D} {v : V} {l : Bool} {σ' : L2.St} (h : (ρ.set i (some (Sl.val d)))[j]? = some (some (Sl.own l d')) ∧ σ'[j]? = (σ.set i (some v))[j]?) : ρ[j]? = some (some (Sl.own l d')) ∧ σ'[j]? = σ[j]? := by
  obtain ⟨e1, e2⟩ := h
  have hj : i ≠ j := fun y => by
    subst y
    have hi : i < ρ.length := by
      have := (List.getElem?_eq_some_iff.mp e1).1
      simpa using this
    rw [List.getElem?_set_self hi] at e1
    cases e1
  rw [List.getElem?_set_ne hj] at e1 e2
  exact ⟨e1, e2⟩
theorem setSl_val {i : Nat} {s : Sl} (h : setSl ρ i s = some ρ') : ρ' = ρ.set i (some s) := by
  unfold setSl at h
  split at h
  · cases h
  · cases h; rfl
  · cases h
/-- indices of a target -/
def tgIx : Tg → List Nat
  | .name i => [i]
  | .tup is => is
theorem setSls_ok : ∀ {is : List Nat} {ds : List D} {vs : List V} {ρ ρ' : Env} {σ : L2.St}, Slots w K Hf H ρ σ → Reps w K Hf ds vs → setSls ρ is ds = some ρ' →
    vs.length = is.length ∧ Slots w K Hf H ρ' (setAll σ is vs) ∧ (∀ (j : Nat) (l : Bool) (d : D), ρ'[j]? = some (some (Sl.own l d)) → ρ[j]? = some (some (Sl.own l d)) ∧ (setAll σ is vs)[j]? = σ[j]?) ∧ ∀ j, j ∉ is → (setAll σ is vs)[j]? = σ[j]? ∧ ρ'[j]? = ρ[j]?
  | [], [], vs, ρ, ρ', σ, S, r, e => by
    simp only [Reps] at r
    subst r
    cases e
    exact ⟨rfl, S, fun _ _ _ h => ⟨h, rfl⟩, fun _ _ => ⟨rfl, rfl⟩⟩
  | [], _ :: _, _, _, _, _, _, _, e => by cases e
  | _ :: _, [], _, _, _, _, _, _, e => by cases e
  | i :: is, d :: ds, vs, ρ, ρ', σ, S, r, e => by
    simp only [Reps] at r
    obtain ⟨v, vr, rfl, r1, r2⟩ := r
    unfold setSls at e
    cases e1 : setSl ρ i (.val d) with
    | none => rw [e1] at e; cases e
    | some ρ1 =>
      rw [e1] at e
      have h1 := setSl_val e1
      subst h1
      obtain ⟨a, b, c, d'⟩ := setSls_ok (S.setVal r1) r2 e
      refine ⟨by simp [a], b, fun j l x hx => setVal_ix (c j l x hx), fun j hj => ?_⟩
      have hj' : j ≠ i ∧ j ∉ is := ⟨fun y => hj (by rw [y]; exact List.mem_cons_self), fun y => hj (List.mem_cons_of_mem _ y)⟩
      obtain ⟨k1, k2⟩ := d' j hj'.2
      refine ⟨?_, ?_⟩
      · show (setAll (σ.set i (some v)) is vr)[j]? = _
        rw [k1, List.getElem?_set_ne (Ne.symm hj'.1)]
      · rw [k2, List.getElem?_set_ne (Ne.symm hj'.1)]
/-- a target takes frozen data -/
theorem tgS_ok {tg : Tg} {d : D} {v : V} {Q : L2.St → Hp → Prop} (S : Slots w K Hf H ρ σ) (r : Rep w K Hf d v) (e : tgS tg d ρ = some ρ')
    (q : ∀ σ', Slots w K Hf H ρ' σ' → (∀ (j : Nat) (l : Bool) (d : D), ρ'[j]? = some (some (Sl.own l d)) → ρ[j]? = some (some (Sl.own l d)) ∧ σ'[j]? = σ[j]?) → (∀ j, j ∉ tgIx tg → σ'[j]? = σ[j]? ∧ ρ'[j]? = ρ[j]?) → σ'.length = σ.length → Q σ' H) : gD K tg v σ H Q := by
  cases tg with
  | name i =>
    have h := setSl_val e
    subst h
    refine q _ (S.setVal r) (fun j l d h => setVal_ix (σ' := σ.set i (some v)) ⟨h, rfl⟩) (fun j hj => ?_) (by simp)
    have hne : i ≠ j := fun y => hj (by rw [y]; exact List.mem_singleton_self _)
    exact ⟨List.getElem?_set_ne hne, List.getElem?_set_ne hne⟩
  | tup is =>
    cases d with
    | tuple ds =>
      simp only [Rep] at r
      obtain ⟨a, xs, rfl, q1, r⟩ := r
      obtain ⟨h1, h2, h3, h4⟩ := setSls_ok S r e
      exact ⟨a, xs, rfl, sub_t S.sub q1, h1, q _ h2 h3 h4 (by
        have e1 := h2.len
        have e2 := S.len
        have hl : ∀ (is : List Nat) (vs : List V) (σ : L2.St), (setAll σ is vs).length = σ.length := fun is => by
          induction is with
          | nil => intro vs σ; cases vs <;> rfl
          | cons i is ih => intro vs σ; cases vs with
            | nil => rfl
            | cons v vs => show (setAll (σ.set i (some v)) is vs).length = _; rw [ih, List.length_set]
        exact hl _ _ _)⟩
    | _ => cases e
end
/-! ### what is walked -/
section
variable (w : World) (K : PySem.W.Frag)
/-- the iterator yields the data ds -/
structure ItR (Hf : Hp) (ds : List D) (J : It) : Prop where
  size : ds.length ≤ sizeLine
  go : ∀ i Hf1 H1, Sub Hf Hf1 → Sub Hf1 H1 → i < ds.length → J.go i H1
  stop : ∀ i Hf1 H1, Sub Hf Hf1 → Sub Hf1 H1 → ds.length ≤ i → J.stop i H1
  yld : ∀ i Hf1 H1 x H2 d, Sub Hf Hf1 → Sub Hf1 H1 → ds[i]? = some d → J.yld i H1 x H2 → ∃ Hf2, Sub Hf2 H2 ∧ Step (fun _ => False) Hf1 H1 Hf2 H2 ∧ Rep w K Hf2 d x
def tIG (W : XW) (f : Env → M (List D × Env)) : TI := fun σ H R =>
  ∃ Hf ρ, Slots w K Hf H ρ σ ∧ Goes W Hf H ρ σ (f ρ) fun ds ρ' => ∀ J Hf' H', Post w K Hf H ρ Hf' H' ρ' σ → ItR w K Hf' ds J → R J H'
end
abbrev sI (X : Cx) (W : XW) (f : Env → M (List D × Env)) : TI := tIG X.w X.K W f
section
variable {w : World} {K : PySem.W.Frag} {Hf H : Hp}
theorem ItR.list {a : Addr} {xs : List V} {ds : List D} (hz : ds.length ≤ sizeLine) (q : SqL K Hf a xs) (r : Reps w K Hf ds xs) : ItR w K Hf ds (Itl K a) where
  size := hz
  go := fun i Hf1 H1 s1 s2 hi => ⟨xs, xs[i]'(by rw [r.length]; exact hi), sub_l s2 (sub_l s1 q), by simp⟩
  stop := fun i Hf1 H1 s1 s2 hi => ⟨xs, sub_l s2 (sub_l s1 q), by rw [r.length]; exact hi⟩
  yld := fun i Hf1 H1 x H2 d s1 s2 e y => by
    obtain ⟨rfl, y⟩ := y
    obtain ⟨v, e1, e2⟩ := r.get e
    have := y xs (sub_l s2 (sub_l s1 q))
    rw [e1] at this
    cases this
    exact ⟨Hf1, s2, Step.refl, e2.mono s1⟩
theorem ItR.tup {a : Addr} {xs : List V} {ds : List D} (hz : ds.length ≤ sizeLine) (q : SqT K Hf a xs) (r : Reps w K Hf ds xs) : ItR w K Hf ds (Itt K a) where
  size := hz
  go := fun i Hf1 H1 s1 s2 hi => ⟨xs, xs[i]'(by rw [r.length]; exact hi), sub_t s2 (sub_t s1 q), by simp⟩
  stop := fun i Hf1 H1 s1 s2 hi => ⟨xs, sub_t s2 (sub_t s1 q), by rw [r.length]; exact hi⟩
  yld := fun i Hf1 H1 x H2 d s1 s2 e y => by
    obtain ⟨rfl, y⟩ := y
    obtain ⟨v, e1, e2⟩ := r.get e
    have := y xs (sub_t s2 (sub_t s1 q))
    rw [e1] at this
    cases this
    exact ⟨Hf1, s2, Step.refl, e2.mono s1⟩
theorem iota_get : ∀ (n : Nat) (lo : Int) (i : Nat), (iotaD lo n)[i]? = if i < n then some (.int (lo + i)) else none
  | 0, lo, i => by simp [iotaD]
  | n + 1, lo, 0 => by simp [iotaD]
  | n + 1, lo, i + 1 => by
    simp only [iotaD, List.getElem?_cons_succ, iota_get n (lo + 1) i]
    have e : lo + 1 + (i : Int) = lo + ((i + 1 : Nat) : Int) := by omega
    rw [e]
    by_cases h : i < n
    · rw [if_pos h, if_pos (by omega)]
    · rw [if_neg h, if_neg (by omega)]
theorem iota_len : ∀ (n : Nat) (lo : Int), (iotaD lo n).length = n
  | 0, _ => rfl
  | n + 1, lo => by simp [iotaD, iota_len n]
theorem ItR.rng {lo : Int} {n : Nat} (hz : n ≤ sizeLine) : ItR w K Hf (iotaD lo n) (Itr lo n) where
  size := by rw [iota_len]; exact hz
  go := fun i _ _ _ _ hi => by rw [iota_len] at hi; exact hi
  stop := fun i _ _ _ _ hi => by rw [iota_len] at hi; exact hi
  yld := fun i Hf1 H1 x H2 d s1 s2 e y => by
    obtain ⟨rfl, rfl⟩ := y
    rw [iota_get] at e
    split at e
    · cases e; exact ⟨Hf1, s2, Step.refl, by simp [Rep]⟩
    · cases e
end
end Ev
end
section
set_option maxHeartbeats 200000
set_option maxRecDepth 100000
/-! Lists, tuples, dicts, ranges walked. -/
namespace Ev
open PySem PySem.Spec PyProof.Rows L2

/-- a dict's keys, as they stand -/
def Itk (a : Addr) (es : Array DictEntry) (ep : Nat) : It :=
  ⟨fun i H => H a = some (DO a es ep) ∧ ∃ (h : i < es.size) (x : V), RelV x es[i].key, fun i H x H' => H' = H ∧ ∃ h : i < es.size, RelV x es[i].key, fun i H => H a = some (DO a es ep) ∧ es.size ≤ i⟩
theorem do_raw {X : Cx} {pins : List (Addr × Obj)} {σ : L2.St} {H : Hp} {s : Shared} {a : Addr} {es : Array DictEntry} {ep : Nat} (I : Inv X pins σ H s) (h : H a = some (DO a es ep)) : s.heap.DictRaw a es ep := by
  obtain ⟨q, _⟩ : DPhi a es ep s.heap ∧ _ := I.hok a _ h
  exact q
theorem turn_keys {P : Program} {w : World} {K : PySem.W.Frag} {tg : Expr} (a it : Addr) (es : Array DictEntry) (ep : Nat) : Turn P w K tg (Itk a es ep) [it] it (fun i h => h.IsKeyIter it a i es.size ep) where
  mem := by simp
  obj := fun i h st b hb => by
    have e : b = it := by simpa using hb
    subst e
    obtain ⟨o, e, c, d⟩ := st
    exact ⟨o, e, fun v z => by rw [d] at z; cases z⟩
  keep := fun i h h' st k => by
    obtain ⟨o, e, c, d⟩ := st
    exact ⟨o, k it (by simp) o e, c, d⟩
  item := by
    intro X hP hw hK hc i pins s σ H E I hf st hg
    subst hP hw hK
    obtain ⟨hd, hi, x, rx⟩ := hg
    obtain ⟨f0, f1, f2, f3, f4, f5⟩ := hf it (by simp)
    refine wpAny_pyNext_keys_item_raw st (do_raw I hd) hi fun h' st' sb => ?_
    have I1 : Inv X pins σ H { s with heap := h' } := I.turned (t' := s.toks) (fun b o hb e => (sb.2 b hb).trans e) f0 f1 f3 f4 f5
    obtain ⟨o, e, c, d⟩ := id st'
    exact ⟨_, rfl, go_of (s := { s with heap := h' }) e c d (by decide) ⟨x, H, I1, rx, ⟨rfl, hi, rx⟩, st', fun b hb => (hf b hb).1⟩⟩
  done := by
    intro X hP hw hK hc i pins s σ H E I hf st hg
    subst hP hw hK
    obtain ⟨hd, hi⟩ := hg
    obtain ⟨f0, f1, f2, f3, f4, f5⟩ := hf it (by simp)
    exact wpAny_pyNext_keys_end_raw (I.ok.hd hc) st (do_raw I hd) hi fun h' eb => ⟨rfl, I.turned (t' := s.toks) (fun b o hb e => eb b o hb e) f0 f1 f3 f4 f5⟩
  self := fun _ _ _ _ _ st h => wpAny_pyIter_keyiter st h
section
variable {w : World} {K : PySem.W.Frag} {Hf H : Hp}
theorem RepE.get : ∀ {kvs : List (D × D)} {es : List DictEntry} {i : Nat} {p : D × D}, RepE w K H kvs es → kvs[i]? = some p → ∃ e, es[i]? = some e ∧ e.hash = (keyN p.1).hash w ∧ (∃ x, RelV x e.key ∧ Rep w K H p.1 x) ∧ ∃ y, RelV y e.val ∧ Rep w K H p.2 y
  | [], _, _, _, _, e => by simp at e
  | (k, v) :: r, _, 0, _, h, e => by
    simp only [RepE] at h
    obtain ⟨e0, er, rfl, q1, q2, q3, _⟩ := h
    simp at e
    subst e
    exact ⟨e0, rfl, q1, q2, q3⟩
  | (k, v) :: r, _, i + 1, _, h, e => by
    simp only [RepE] at h
    obtain ⟨e0, er, rfl, _, _, _, q⟩ := h
    obtain ⟨e1, k1, k2⟩ := RepE.get (i := i) q (by simpa using e)
    exact ⟨e1, by simpa using k1, k2⟩
theorem RepE.length : ∀ {kvs : List (D × D)} {es : List DictEntry}, RepE w K H kvs es → es.length = kvs.length
  | [], _, h => by simp only [RepE] at h; subst h; rfl
  | (k, v) :: r, _, h => by
    simp only [RepE] at h
    obtain ⟨e0, er, rfl, _, _, _, q⟩ := h
    simp [RepE.length q]
theorem ItR.keys {a : Addr} {es : List DictEntry} {ep : Nat} {kvs : List (D × D)} (hz : es.length ≤ sizeLine) (q : Hf a = some (DO a es.toArray ep)) (r : RepE w K Hf kvs es) : ItR w K Hf (kvs.map (·.1)) (Itk a es.toArray ep) where
  size := by rw [List.length_map, ← r.length]; exact hz
  go := fun i Hf1 H1 s1 s2 hi => by
    rw [List.length_map] at hi
    obtain ⟨e, e1, _, ⟨x, rx, _⟩, _⟩ := r.get (List.getElem?_eq_getElem hi)
    obtain ⟨hi', e2⟩ := List.getElem?_eq_some_iff.mp e1
    exact ⟨s2 _ _ (s1 _ _ q), by simpa using hi', x, by simp [e2, rx]⟩
  stop := fun i Hf1 H1 s1 s2 hi => ⟨s2 _ _ (s1 _ _ q), by rw [List.length_map, ← r.length] at hi; simpa using hi⟩
  yld := fun i Hf1 H1 x H2 d s1 s2 e y => by
    obtain ⟨rfl, hi, rx⟩ := y
    rw [List.getElem?_map] at e
    cases e0 : kvs[i]? with
    | none => rw [e0] at e; cases e
    | some p =>
      rw [e0] at e
      cases e
      obtain ⟨en, e1, _, ⟨x', rx', rep⟩, _⟩ := r.get e0
      obtain ⟨hi', e2⟩ := List.getElem?_eq_some_iff.mp e1
      have : x = x' := by
        have rx2 : RelV x en.key := by simpa [e2] using rx
        exact rx2.inj rx'
      subst this
      exact ⟨Hf1, s2, Step.refl, rep.mono s1⟩
theorem ItR.str {z : Str} (hz : z.length ≤ sizeLine) : ItR w K Hf (z.cps.toList.map fun c => PyData.str ⟨#[c]⟩) (Its z) where
  size := by rw [List.length_map, Array.length_toList]; exact hz
  go := fun i _ _ _ _ hi => by rw [List.length_map, Array.length_toList] at hi; exact hi
  stop := fun i _ _ _ _ hi => by rw [List.length_map, Array.length_toList] at hi; exact hi
  yld := fun i Hf1 H1 x H2 d s1 s2 e y => by
    obtain ⟨rfl, q, e1, rfl⟩ := y
    rw [List.getElem?_map, Array.getElem?_toList, e1] at e
    cases e
    exact ⟨Hf1, s2, Step.refl, by simp [Rep]⟩
end
section
variable {X : Cx} {W : XW} {tg : Expr} {fl : Flags} {c : CallF} {pos p : Pos}
theorem pi_seq {e : Ex} {x : Expr} (hx : PE X x (sE X W (ev fl c e))) : PI X tg x (sI X W (evi fl c (.seq e))) := by
  refine ⟨fun pins s σ H R I ⟨Hf, ρ, S, g⟩ => ?_⟩
  unfold evi at g
  refine thn ((sD_of hx).run pins s σ H (fun v H1 => ∃ Hf1 d, Sub Hf1 H1 ∧ Rep X.w X.K Hf1 d v ∧ ∃ ds, itemsOf d = some ds ∧ ∀ J, ItR X.w X.K Hf1 ds J → R J H1) I
    (Goes.read S g fun r ρ1 v Hf1 H1 _ P R1 q => ?_)) fun v s1 ⟨x, H1, I1, r1, Hf1, d, sb, rep, ds, ed, q1⟩ => ?_
  · simp only at q
    split at q
    · rename_i ds e1
      exact ⟨Hf1, r.d, P.slots.sub, R1, ds, e1, fun J hJ => q J Hf1 H1 P hJ⟩
    · exact q.elim
  · cases d with
    | list xs =>
      cases ed
      simp only [Rep] at rep
      obtain ⟨a, ys, rfl, hq, hr⟩ := rep
      cases r1
      obtain ⟨its, rv, pl, hz⟩ := I1.list (sub_l sb hq)
      refine wpAny_pyIter_list pl.isList ?_
      refine ⟨s1.heap.objs.size, [s1.heap.objs.size], _, _, H1, rfl, I1.kept (t' := s1.toks) fun b o e => Heap.get?_push_of_some _ e, turn_list a _, ⟨_, Heap.get?_push_size _ rfl, rfl, rfl⟩, fun b hb => ?_, q1 _ (ItR.list (by rw [← hr.length]; exact hz) hq hr)⟩
      have e : b = s1.heap.objs.size := by simpa using hb
      subst e
      exact I1.fpOk (Nat.le_refl _) (I1.hok.fresh (Nat.le_refl _))
    | tuple xs =>
      cases ed
      simp only [Rep] at rep
      obtain ⟨a, ys, rfl, hq, hr⟩ := rep
      cases r1
      obtain ⟨its, rv, pl, hz⟩ := I1.tuple (sub_t sb hq)
      refine wpAny_pyIter_tuple (show s1.heap.IsTuple a its.toArray from pl) ?_
      refine ⟨s1.heap.objs.size, [s1.heap.objs.size], _, _, H1, rfl, I1.kept (t' := s1.toks) fun b o e => Heap.get?_push_of_some _ e, turn_tuple a _, ⟨_, Heap.get?_push_size _ rfl, rfl, rfl⟩, fun b hb => ?_, q1 _ (ItR.tup (by rw [← hr.length]; exact hz) hq hr)⟩
      have e : b = s1.heap.objs.size := by simpa using hb
      subst e
      exact I1.fpOk (Nat.le_refl _) (I1.hok.fresh (Nat.le_refl _))
    | dict kvs =>
      cases ed
      simp only [Rep] at rep
      obtain ⟨a, es, ep, rfl, hn, hz, hq, hr⟩ := rep
      cases r1
      have hd := do_raw I1 (sb _ _ hq)
      refine wpAny_pyIter_dict_raw hn.1 hd ?_
      refine ⟨s1.heap.objs.size, [s1.heap.objs.size], _, _, H1, rfl, I1.kept (t' := s1.toks) fun b o e => Heap.get?_push_of_some _ e, turn_keys a _ _ _, ⟨_, Heap.get?_push_size _ rfl, rfl, rfl⟩, fun b hb => ?_, q1 _ (ItR.keys hz hq hr)⟩
      have e : b = s1.heap.objs.size := by simpa using hb
      subst e
      exact I1.fpOk (Nat.le_refl _) (I1.hok.fresh (Nat.le_refl _))
    | str z =>
      have ed' : (if z.length ≤ sizeLine then some (z.cps.toList.map fun c => PyData.str ⟨#[c]⟩) else none) = some ds := ed
      split at ed'
      · rename_i hz
        cases ed'
        have ex : x = .str z := by simpa [Rep] using rep
        subst ex
        obtain ⟨t, rfl⟩ := r1
        cases ha : z.cps.all (· < 128)
        · exact wpAny_pyIter_wide ha (pi_one (tk := s1.toks) I1 _ (turn_str _ z t "str_iterator" (.inr rfl)) ⟨_, Heap.get?_push_size _ rfl, rfl, rfl⟩ (q1 _ (ItR.str hz)))
        · exact wpAny_pyIter_ascii ha (pi_one (tk := s1.toks) I1 _ (turn_str _ z t "str_ascii_iterator" (.inl rfl)) ⟨_, Heap.get?_push_size _ rfl, rfl, rfl⟩ (q1 _ (ItR.str hz)))
      · cases ed'
    | _ => cases ed
theorem pi_rng1 {e : Ex} {x : Expr} {f : Str} (hg : Gl X f) (hf : f = "range") (hm : X.mg f = none) (hs : noStar x = true) (hx : PE X x (sE X W (ev fl c e))) : PI X tg (.Call (.Name f p) [x] [] pos) (sI X W (evi fl c (.rng1 e))) := by
  subst hf
  refine PIimp (pi_range1 hg hm (pa_cons (sD_of hx) pa_nil (star_ne hs)) (by rw [star_ne hs]; rfl)) fun σ H R ⟨Hf, ρ, S, g⟩ => ?_
  unfold evi at g
  show sD X W (ev fl c e) σ H fun x H1 => _
  refine Goes.read S g fun r ρ1 v Hf1 H1 _ P R1 q => ?_
  obtain ⟨rd, hr⟩ : ∃ d, r.d = d := ⟨_, rfl⟩
  simp only [hr] at q R1
  cases rd with
  | int n =>
    rw [repI R1]
    simp only at q
    split at q
    · rename_i hb
      have hz : sizeLine = 16777216 := sizeLine_eq
      refine ⟨n, rfl, by omega, by omega, q _ Hf1 H1 P (ItR.rng (by omega))⟩
    · exact q.elim
  | _ => exact q.elim
theorem pi_rng2 {e f : Ex} {x y : Expr} {n : Str} (hg : Gl X n) (hf : n = "range") (hm : X.mg n = none) (hs : noStar x = true) (hs2 : noStar y = true) (hx : PE X x (sE X W (ev fl c e))) (hy : PE X y (sE X W (ev fl c f))) : PI X tg (.Call (.Name n p) [x, y] [] pos) (sI X W (evi fl c (.rng2 e f))) := by
  subst hf
  refine PIimp (pi_range2 hg hm (pa_cons (sD_of hx) (pa_cons (sD_of hy) pa_nil (star_ne hs2)) (star_ne hs)) (by rw [star_ne hs, star_ne hs2]; rfl) (by rw [star_ne hs2]; rfl)) fun σ H R ⟨Hf, ρ, S, g⟩ => ?_
  unfold evi at g
  show sD X W (ev fl c e) σ H fun x H1 => sD X W (ev fl c f) σ H1 fun y H2 => _
  refine Goes.read S g fun r ρ1 v Hf1 H1 _ P R1 q => ?_
  refine Goes.read P.slots q fun r' ρ2 v' Hf2 H2 _ P2 R2 q2 => ?_
  obtain ⟨rd, hr⟩ : ∃ d, r.d = d := ⟨_, rfl⟩
  obtain ⟨rd', hr'⟩ : ∃ d, r'.d = d := ⟨_, rfl⟩
  simp only [hr, hr'] at q2 R1 R2
  cases rd with
  | int n =>
    cases rd' with
    | int m =>
      rw [repI R1, repI R2]
      simp only at q2
      split at q2
      · rename_i hb
        have hz : sizeLine = 16777216 := sizeLine_eq
        exact ⟨n, m, rfl, ⟨by omega, by omega, by omega, by omega⟩, q2 _ Hf2 H2 (Post.trans S P P2) (ItR.rng (by omega))⟩
      · exact q2.elim
    | _ => exact q2.elim
  | _ => exact q2.elim
end
end Ev
end
section
set_option maxHeartbeats 200000
set_option maxRecDepth 100000
/-! List comprehensions. -/
namespace Ev
open PySem PySem.Spec PyProof.Rows L2

theorem wipe_get (σ : L2.St) (i : Nat) : ∀ vs : List Nat, (wipe σ vs)[i]? = if i ∈ vs then σ[i]?.map (fun _ => none) else σ[i]?
  | [] => by simp [wipe]
  | v :: vs => by
    have ih := wipe_get σ i vs
    show ((wipe σ vs).set v none)[i]? = _
    by_cases h : v = i
    · subst h
      rw [if_pos List.mem_cons_self]
      by_cases hv : v < (wipe σ vs).length
      · rw [List.getElem?_set_self hv]
        rw [wipe_length] at hv
        rw [List.getElem?_eq_getElem hv] <;> rfl
      · rw [List.getElem?_eq_none (by rw [List.length_set]; omega)]
        rw [wipe_length] at hv
        rw [List.getElem?_eq_none (by omega)] <;> rfl
    · rw [List.getElem?_set_ne h, ih]
      have e : (i ∈ v :: vs) ↔ i ∈ vs := by simp [Ne.symm h]
      simp only [e]
theorem wipeE_get (ρ : Env) (i : Nat) : ∀ vs : List Nat, (wipeE ρ vs)[i]? = if i ∈ vs then ρ[i]?.map (fun _ => none) else ρ[i]?
  | [] => by simp [wipeE]
  | v :: vs => by
    have ih := wipeE_get ρ i vs
    have hl : ∀ vs : List Nat, (wipeE ρ vs).length = ρ.length := fun vs => by
      induction vs with
      | nil => rfl
      | cons v vs ih => show ((wipeE ρ vs).set v none).length = _; rw [List.length_set, ih]
    show ((wipeE ρ vs).set v none)[i]? = _
    by_cases h : v = i
    · subst h
      rw [if_pos List.mem_cons_self]
      by_cases hv : v < (wipeE ρ vs).length
      · rw [List.getElem?_set_self hv]
        rw [hl] at hv
        rw [List.getElem?_eq_getElem hv] <;> rfl
      · rw [List.getElem?_eq_none (by rw [List.length_set]; omega)]
        rw [hl] at hv
        rw [List.getElem?_eq_none (by omega)] <;> rfl
    · rw [List.getElem?_set_ne h, ih]
      have e : (i ∈ v :: vs) ↔ i ∈ vs := by simp [Ne.symm h]
      simp only [e]
theorem wipeE_len (ρ : Env) : ∀ vs : List Nat, (wipeE ρ vs).length = ρ.length
  | [] => rfl
  | v :: vs => by show ((wipeE ρ vs).set v none).length = _; rw [List.length_set, wipeE_len ρ vs]
theorem backE_len (ρ0 ρ : Env) : ∀ vs : List Nat, (backE ρ0 ρ vs).length = ρ.length
  | [] => rfl
  | v :: vs => by show ((backE ρ0 ρ vs).set v _).length = _; rw [List.length_set, backE_len ρ0 ρ vs]
theorem backE_get (ρ0 ρ : Env) (hl : ρ0.length = ρ.length) (i : Nat) : ∀ vs : List Nat, (backE ρ0 ρ vs)[i]? = if i ∈ vs then ρ0[i]? else ρ[i]?
  | [] => by simp [backE]
  | v :: vs => by
    have ih := backE_get ρ0 ρ hl i vs
    show ((backE ρ0 ρ vs).set v (ρ0[v]?.getD none))[i]? = _
    by_cases h : v = i
    · subst h
      rw [if_pos List.mem_cons_self]
      by_cases hv : v < (backE ρ0 ρ vs).length
      · rw [List.getElem?_set_self hv]
        rw [backE_len, ← hl] at hv
        rw [List.getElem?_eq_getElem hv] <;> rfl
      · rw [List.getElem?_eq_none (by rw [List.length_set]; omega)]
        rw [backE_len, ← hl] at hv
        rw [List.getElem?_eq_none (by omega)]
    · rw [List.getElem?_set_ne h, ih]
      have e : (i ∈ v :: vs) ↔ i ∈ vs := by simp [Ne.symm h]
      simp only [e]
/-- none of them is wanted -/
abbrev WF : XW := fun _ _ _ _ => False
section
variable {w : World} {K : PySem.W.Frag} {Hf H Hf2 H2 : Hp} {ρ ρ2 ρe : Env} {σ : L2.St} {own : List Nat}
theorem wipeE_own {j : Nat} {s : Sl} (e : (wipeE ρ own)[j]? = some (some s)) : j ∉ own ∧ ρ[j]? = some (some s) := by
  rw [wipeE_get] at e
  by_cases h : j ∈ own
  · rw [if_pos h] at e
    cases z : ρ[j]? with
    | none => rw [z] at e; cases e
    | some o => rw [z] at e; cases e
  · rw [if_neg h] at e
    exact ⟨h, e⟩
theorem Slots.wipe (S : Slots w K Hf H ρ σ) (own : List Nat) : Slots w K Hf H (wipeE ρ own) (L2.wipe σ own) := by
  refine ⟨S.sub, by rw [wipeE_len, wipe_length]; exact S.len, fun j s e => ?_, fun i j l m d1 d2 a e1 e2 e3 e4 => ?_⟩
  · obtain ⟨h, e⟩ := wipeE_own e
    obtain ⟨v, e2, r⟩ := S.rep j s e
    exact ⟨v, by rw [wipe_get, if_neg h]; exact e2, r⟩
  · obtain ⟨h1, k1⟩ := wipeE_own e1
    obtain ⟨h2, k2⟩ := wipeE_own e2
    rw [wipe_get, if_neg h1] at e3
    rw [wipe_get, if_neg h2] at e4
    exact S.one i j l m d1 d2 a k1 k2 e3 e4
theorem OwnSet.wipe {a : Addr} : OwnSet (wipeE ρ own) (L2.wipe σ own) a → ∃ (i : Nat) (l : Bool) (d : D), i ∉ own ∧ ρ[i]? = some (some (Sl.own l d)) ∧ σ[i]? = some (some (V.ref a)) := fun ⟨i, l, d, e1, e2⟩ => by
  obtain ⟨h, k⟩ := wipeE_own e1
  rw [wipe_get, if_neg h] at e2
  exact ⟨i, l, d, h, k, e2⟩
theorem OwnL.wipe {l : Bool} {a : Addr} : OwnL l (wipeE ρ own) (L2.wipe σ own) a → ∃ (i : Nat) (d : D), i ∉ own ∧ ρ[i]? = some (some (Sl.own l d)) ∧ σ[i]? = some (some (V.ref a)) := fun ⟨i, d, e1, e2⟩ => by
  obtain ⟨h, k⟩ := wipeE_own e1
  rw [wipe_get, if_neg h] at e2
  exact ⟨i, d, h, k, e2⟩
theorem wipe_ext {σ' : L2.St} (hl : σ'.length = σ.length) (h : ∀ j, j ∉ own → σ'[j]? = (L2.wipe σ own)[j]?) : L2.wipe σ' own = L2.wipe σ own := by
  apply List.ext_getElem?
  intro j
  rw [wipe_get, wipe_get]
  by_cases hj : j ∈ own
  · rw [if_pos hj, if_pos hj]
    by_cases hz : j < σ.length
    · rw [List.getElem?_eq_getElem hz, List.getElem?_eq_getElem (by rw [hl]; exact hz)] <;> rfl
    · rw [List.getElem?_eq_none (by omega), List.getElem?_eq_none (by omega)]
  · rw [if_neg hj, if_neg hj, h j hj, wipe_get, if_neg hj]
/-- a step of the machine's loop over data -/
theorem bd_ok {α β : Type} {m : M α} {f : α → M β} {b : β} (h : bd m f = some (.ok b)) : ∃ a, m = some (.ok a) ∧ f a = some (.ok b) := by
  cases m with
  | none => cases h
  | some r => cases r with
    | error x => cases h
    | ok a => exact ⟨a, rfl, h⟩
theorem opt_ok {α : Type} {o : Option α} {a : α} (h : opt o = some (.ok a)) : o = some a := by
  cases o with
  | none => cases h
  | some b => cases h; rfl
theorem nox_ok {α : Type} {m : M α} {a : α} (h : nox m = some (.ok a)) : m = some (.ok a) := by
  unfold nox at h
  split at h
  · exact h
  · cases h
/-- the whole comprehension, behind its iterator -/
theorem comp_loop {tg : Tg} {ft : Env → M (Bool × Env)} {fe : Env → M (Sl × Env)} {ds ys : List D} {J : It} {L : Addr} {Qd : Hp → Prop}
    (S : Slots w K Hf2 H2 ρ2 σ) (hJ : ItR w K Hf2 ds J) (hL : H2 L = none) (hin : ∀ i ∈ tgIx tg, i ∈ own) (hc : clp (compTurn tg own ft fe) ds ρ2 = some (.ok (ys, ρe)))
    (q : ∀ Hf' H' xs, Post w K Hf2 H2 ρ2 Hf' H' (backE ρ2 ρe own) σ → Hf' L = none → H' L = some (.lst xs) → Reps w K Hf' ys xs → Qd H') :
    ∃ W : Nat → Nat → Hp → Prop, (∃ m, W 0 m (upd H2 L (.lst []))) ∧ ∀ i m H, W i m H →
      (J.stop i H ∧ Qd H) ∨ (J.go i H ∧ ∃ Nx : Hp → Prop, (∀ H', Nx H' → ∃ m', m' < m ∧ W (i + 1) m' H') ∧ ∀ x H', J.yld i H x H' → gD K tg x (L2.wipe σ own) H' fun σ2 H2 => L2.wipe σ2 own = L2.wipe σ own ∧ tBG (α := Unit) w K WF ft σ2 H2 fun b H3 =>
        if b = true then tE w K WF fe σ2 H3 fun y H4 => ∃ acc, H4 L = some (.lst acc) ∧ acc.length < sizeLine ∧ Nx (upd H4 L (.lst (acc ++ [y]))) else Nx H3) := by
  have hL2 : Hf2 L = none := S.sub.none hL
  -- the invariant
  let St (i : Nat) (H : Hp) : Prop := ∃ Hfi ρi acc yd yr, i ≤ ds.length ∧ Slots w K Hfi H (wipeE ρi own) (L2.wipe σ own) ∧ Step (OwnSet (wipeE ρ2 own) (L2.wipe σ own)) Hf2 H2 Hfi H ∧ Hfi L = none ∧
    OwnIx (wipeE ρi own) (wipeE ρ2 own) ∧ H L = some (.lst acc) ∧ Reps w K Hfi yd acc ∧ yd.length ≤ i ∧ clp (compTurn tg own ft fe) (ds.drop i) ρi = some (.ok (yr, ρe)) ∧ ys = yd ++ yr
  have notL : ∀ a, OwnSet (wipeE ρ2 own) (L2.wipe σ own) a → a ≠ L := fun a h e => by
    obtain ⟨i, l, d, _, e1, e2⟩ := OwnSet.wipe h
    obtain ⟨_, o, e3⟩ := S.ownThere ⟨i, l, d, e1, e2⟩
    rw [e, hL] at e3; cases e3
  refine ⟨fun i m H => m = ds.length - i ∧ St i H, ⟨ds.length, by simp, Hf2, ρ2, [], [], ys, Nat.zero_le _, ?_, Step.new hL, hL2, fun _ _ d h => ⟨d, h⟩, upd_same, Reps.nil, Nat.le_refl _, by simpa using hc, by simp⟩, ?_⟩
  · exact (S.wipe own).step (M := fun _ => False) (Step.new hL) (S.sub.trans (Sub.new hL)) fun _ _ z => z
  rintro i m H ⟨rfl, Hfi, ρi, acc, yd, yr, hi, Si, st, hfL, ow, hHL, rp, hy, hcl, hys⟩
  by_cases hlt : i < ds.length
  · refine .inr ⟨hJ.go i Hfi H st.sub Si.sub hlt, St (i + 1), fun H' h => ⟨ds.length - (i + 1), by omega, rfl, h⟩, fun x H' y => ?_⟩
    obtain ⟨d, hd⟩ : ∃ d, ds[i]? = some d := ⟨_, List.getElem?_eq_getElem hlt⟩
    obtain ⟨Hf3, sb3, st3, rx⟩ := hJ.yld i Hfi H x H' d st.sub Si.sub hd y
    rw [List.drop_eq_getElem_cons hlt] at hcl
    have hd' : ds[i] = d := by
      rw [List.getElem?_eq_getElem hlt] at hd
      exact Option.some.inj hd
    rw [hd'] at hcl
    unfold clp at hcl
    obtain ⟨⟨o, ρ'⟩, hturn, hcl⟩ := bd_ok hcl
    obtain ⟨⟨yr', ρe'⟩, hrest, hcl⟩ := bd_ok hcl
    cases hcl
    unfold compTurn at hturn
    obtain ⟨ρt, htg, hturn⟩ := bd_ok hturn
    obtain ⟨⟨b, ρb⟩, htest, hturn⟩ := bd_ok hturn
    have S3 : Slots w K Hf3 H' (wipeE ρi own) (L2.wipe σ own) := Si.step st3 sb3 fun _ _ z => z
    refine tgS_ok S3 rx (opt_ok htg) fun σt St' owt same hlen => ⟨?_, ?_⟩
    · refine wipe_ext (by rw [hlen, wipe_length]) fun j hj => (same j fun z => hj (hin j z)).1
    have ew : L2.wipe σt own = L2.wipe σ own := wipe_ext (by rw [hlen, wipe_length]) fun j hj => (same j fun z => hj (hin j z)).1
    -- all that is kept up to here
    have st' : Step (OwnSet (wipeE ρ2 own) (L2.wipe σ own)) Hf2 H2 Hf3 H' := st.trans st3 fun _ z => z.elim
    have hH'L : H' L = some (.lst acc) := st3.keep L _ hHL fun z => z
    have hf3L : Hf3 L = none := st3.cap L _ hHL (fun z => z) hfL
    have rp3 : Reps w K Hf3 yd acc := rp.mono st3.sub
    refine ⟨Hf3, ρt, St', ?_⟩
    rw [htest]
    intro Hf4 H4 P4
    have ow4L : ∀ l a, OwnL l ρt σt a → OwnL l (wipeE ρ2 own) (L2.wipe σ own) a := fun l a ⟨j, d, e1, e2⟩ => by
      obtain ⟨k1, k2⟩ := owt j l d e1
      rw [k2] at e2
      exact ow.l l a ⟨j, d, k1, e2⟩
    have ix4 : ∀ i l d', i ∉ own → ρt[i]? = some (some (Sl.own l d')) → ∃ d, (wipeE ρ2 own)[i]? = some (some (Sl.own l d)) := fun i l d' hi e => ow i l d' (by rw [← (same i fun z => hi (hin i z)).2]; exact e)
    have ow4 := ownS_of ow4L
    have nL4 : ¬ OwnSet ρt σt L := fun h => notL L (ow4 L h) rfl
    have hH4L : H4 L = some (.lst acc) := P4.step.keep L _ hH'L nL4
    have hf4L : Hf4 L = none := P4.step.cap L _ hH'L nL4 hf3L
    have st4 : Step (OwnSet (wipeE ρ2 own) (L2.wipe σ own)) Hf2 H2 Hf4 H4 := st'.trans P4.step fun a h => .inl (ow4 a h)
    -- the next turn's state
    have next : ∀ {Hf5 H5 : Hp} {ρ5 : Env} {acc' : List V} {yd' : List D}, Slots w K Hf5 H5 ρ5 σt → Step (OwnSet (wipeE ρ2 own) (L2.wipe σ own)) Hf2 H2 Hf5 H5 → OwnIx ρ5 ρt →
        Hf5 L = none → H5 L = some (.lst acc') → Reps w K Hf5 yd' acc' → yd'.length ≤ i + 1 → clp (compTurn tg own ft fe) (ds.drop (i + 1)) ρ5 = some (.ok (yr', ρe')) → ys = yd' ++ yr' → St (i + 1) H5 :=
      fun {Hf5 H5 ρ5 acc' yd'} s5 t5 o5 f5 h5 r5 l5 c5 e5 => ⟨Hf5, ρ5, acc', yd', yr', hlt, by rw [← ew]; exact s5.wipe own, t5, f5, fun j l d h => by
        obtain ⟨hj, k1⟩ := wipeE_own h
        obtain ⟨d1, k2⟩ := o5 j l d k1
        exact ix4 j l d1 hj k2, h5, r5, l5, c5, e5⟩
    cases b with
    | false =>
      simp only [Bool.false_eq_true, if_false] at hturn
      cases hturn
      rw [if_neg Bool.false_ne_true]
      exact next P4.slots st4 P4.own hf4L hH4L (rp3.mono P4.step.sub) (by omega) hrest (by simpa using hys)
    | true =>
      rw [if_pos rfl] at hturn ⊢
      obtain ⟨⟨r, ρq⟩, helt, hturn⟩ := bd_ok hturn
      cases hturn
      refine ⟨Hf4, ρb, P4.slots, ?_⟩
      rw [helt]
      intro v Hf5 H5 P5 R5
      obtain ⟨Hf6, P6, R6, _⟩ := P5.freeze P4.slots R5
      have ow5L : ∀ l a, OwnL l ρb σt a → OwnL l (wipeE ρ2 own) (L2.wipe σ own) a := fun l a h => ow4L l a (P4.own.l l a h)
      have ow5 := ownS_of ow5L
      have nL5 : ¬ OwnSet ρb σt L := fun h => notL L (ow5 L h) rfl
      have hH5L : H5 L = some (.lst acc) := P6.step.keep L _ hH4L nL5
      have hf6L : Hf6 L = none := P6.step.cap L _ hH4L nL5 hf4L
      have sz := hJ.size
      refine ⟨acc, hH5L, by rw [rp.length]; omega, ?_⟩
      have st6 : Step (OwnSet (wipeE ρ2 own) (L2.wipe σ own)) Hf2 H2 Hf6 H5 := st4.trans P6.step fun a h => .inl (ow5 a h)
      have stU : Step (fun a => a = L) Hf6 H5 Hf6 (upd H5 L (.lst (acc ++ [v]))) := ⟨Sub.refl _, fun a o h n => by rw [upd_ne n]; exact h, fun _ _ _ _ h => h, fun a o h => by
        by_cases e : a = L
        · exact ⟨_, by rw [e, upd_same]⟩
        · exact ⟨o, by rw [upd_ne e]; exact h⟩⟩
      exact next (ρ5 := ρq) (P6.slots.step stU (P6.slots.sub.mut hf6L) fun a h e => notL a (ow5 a (P6.ownS a h)) e) (st6.trans stU fun x e => .inr (by rw [e]; exact hL)) (P4.own.trans P6.own) hf6L upd_same (Reps.append ((rp3.mono P4.step.sub).mono P6.step.sub) (Reps.one R6)) (by simp; omega) hrest (by simpa using hys)
  · have e : i = ds.length := by omega
    subst e
    refine .inl ⟨hJ.stop _ Hfi H st.sub Si.sub (Nat.le_refl _), ?_⟩
    rw [List.drop_length] at hcl
    have hρ : ρi = ρe ∧ yr = [] := by cases hcl; exact ⟨rfl, rfl⟩
    obtain ⟨rfl, rfl⟩ := hρ
    have hll : ρ2.length = ρi.length := by
      have h1 := Si.len
      rw [wipeE_len, wipe_length] at h1
      rw [S.len, h1]
    have bk := backE_get ρ2 ρi hll
    have keepO : ∀ a o, H2 a = some o → ¬ OwnSet (wipeE ρ2 own) (L2.wipe σ own) a → H a = some o ∧ (Hf2 a = none → Hfi a = none) := fun a o h n => by
      exact ⟨st.keep a o h n, st.cap a o h n⟩
    have apart : ∀ j (l : Bool) (d : D) a, j ∈ own → ρ2[j]? = some (some (Sl.own l d)) → σ[j]? = some (some (V.ref a)) → ¬ OwnSet (wipeE ρ2 own) (L2.wipe σ own) a := fun j l d a hj e1 e2 h => by
      obtain ⟨k, l', d', hk, e3, e4⟩ := OwnSet.wipe h
      exact hk (by rw [← S.one j k l l' d d' a e1 e3 e2 e4]; exact hj)
    have inner : ∀ j s, j ∉ own → ρi[j]? = some (some s) → (wipeE ρi own)[j]? = some (some s) := fun j s hj e => by rw [wipeE_get, if_neg hj]; exact e
    have sg : ∀ j, j ∉ own → (L2.wipe σ own)[j]? = σ[j]? := fun j hj => by rw [wipe_get, if_neg hj]
    refine q Hfi H acc ⟨⟨Si.sub, by rw [backE_len, ← hll]; exact S.len, fun j s e => ?_, fun j k l m d1 d2 a e1 e2 e3 e4 => ?_⟩, ⟨st.sub, fun a o h n => ?_, fun a o h n => ?_, fun a o h => ?_⟩, fun j l d e1 => ?_⟩ hfL hHL (by
      have : ys = yd := by simpa using hys
      rw [this]; exact rp)
    · rw [bk] at e
      by_cases hj : j ∈ own
      · rw [if_pos hj] at e
        obtain ⟨v, k1, k2⟩ := S.rep j s e
        refine ⟨v, k1, ?_⟩
        cases s with
        | val d => exact Rep.mono st.sub k2
        | own l d =>
          obtain ⟨a, rfl, n, z⟩ := k2
          have m := apart j l d a hj e k1
          obtain ⟨o, ho⟩ := z.there
          exact ⟨a, rfl, (keepO a o ho m).2 n, z.step st m⟩
      · rw [if_neg hj] at e
        obtain ⟨v, k1, k2⟩ := Si.rep j s (inner j s hj e)
        rw [sg j hj] at k1
        exact ⟨v, k1, k2⟩
    · rw [bk] at e1 e2
      have out : ∀ {j : Nat} {l : Bool} {d : D}, j ∉ own → ρi[j]? = some (some (Sl.own l d)) → σ[j]? = some (some (V.ref a)) → OwnSet (wipeE ρ2 own) (L2.wipe σ own) a := fun {j l d} hj k1 k2 => ownS_of ow.l a ⟨j, l, d, inner j _ hj k1, by rw [sg j hj]; exact k2⟩
      by_cases hj : j ∈ own
      · rw [if_pos hj] at e1
        by_cases hk : k ∈ own
        · rw [if_pos hk] at e2
          exact S.one j k l m d1 d2 a e1 e2 e3 e4
        · rw [if_neg hk] at e2
          exact absurd (out hk e2 e4) (apart j l d1 a hj e1 e3)
      · rw [if_neg hj] at e1
        by_cases hk : k ∈ own
        · rw [if_pos hk] at e2
          exact absurd (out hj e1 e3) (apart k m d2 a hk e2 e4)
        · rw [if_neg hk] at e2
          exact Si.one j k l m d1 d2 a (inner j _ hj e1) (inner k _ hk e2) (by rw [sg j hj]; exact e3) (by rw [sg k hk]; exact e4)
    · refine (keepO a o h fun z => n ?_).1
      obtain ⟨j, l, d, _, k1, k2⟩ := OwnSet.wipe z
      exact ⟨j, l, d, k1, k2⟩
    · refine (keepO a o h fun z => n ?_).2
      obtain ⟨j, l, d, _, k1, k2⟩ := OwnSet.wipe z
      exact ⟨j, l, d, k1, k2⟩
    · exact st.dom a o h
    · rw [bk] at e1
      by_cases hj : j ∈ own
      · rw [if_pos hj] at e1
        exact ⟨d, e1⟩
      · rw [if_neg hj] at e1
        obtain ⟨d', k1⟩ := ow j l d (inner j _ hj e1)
        exact ⟨d', (wipeE_own k1).2⟩
end
end Ev
end
section
set_option maxHeartbeats 200000
set_option maxRecDepth 100000
/-! A comprehension as an expression, and stored at once. -/
namespace Ev
open PySem PySem.Spec PyProof.Rows L2

def notSet : Expr → Bool
  | .Set _ _ _ => false
  | _ => true
theorem folded_ne {e : Expr} {env : PySem.Env} (h : notSet e = true) (x : Value) : foldedSetIterable e env x = pure x := by
  cases e <;> first | rfl | cases h
theorem ownP_ix {N : List Str} : ∀ {own : List Nat}, ∀ p ∈ ownP N own, N[p.2]? = some p.1
  | [], p, h => by simp [ownP] at h
  | i :: is, p, h => by
    unfold ownP at h
    rcases List.mem_append.mp h with h | h
    · split at h
      · rename_i x e
        have e' : p = (x, i) := by simpa using h
        subst e'
        exact e
      · simp at h
    · exact ownP_ix p h
section
variable {X : Cx} {W : XW} {fl : Flags} {c : CallF} {pos : Pos}
theorem comp_key {own : List Nat} {elt : Ex} {tg : Tg} {it : Ix} {ifs : Tx} {σ : L2.St} {H : Hp} {Q : VK} (hin : ∀ i ∈ tgIx tg, i ∈ own) (h : sE X W (ev fl c (.comp own elt tg it ifs)) σ H Q) :
    tLc (sI X W (evi fl c it)) (gD X.K tg) (tBG (α := Unit) X.w X.K WF (evt fl c ifs)) (tE X.w X.K WF (ev fl c elt)) own σ H Q := by
  obtain ⟨Hf, ρ, S, g⟩ := h
  unfold ev at g
  refine ⟨Hf, ρ, S, (Goes.bd g).imp fun ds ρ1 e q J Hf1 H1 P hJ => fun L hL => ?_⟩
  have q' := Goes.bd q
  cases e1 : nox (clp (compTurn tg own (evt fl c ifs) (ev fl c elt)) ds ρ1) with
  | none => simp only [e1] at q'; exact q'.elim
  | some out =>
    cases out with
    | error x =>
      exfalso
      unfold nox at e1
      split at e1
      · cases e1
      · cases e1
    | ok p =>
      obtain ⟨ys, ρe⟩ := p
      simp only [e1] at q'
      have q2 : ∀ v Hf' H', Post X.w X.K Hf H ρ Hf' H' (backE ρ1 ρe own) σ → ResR X.w X.K Hf' H' H (.own false (.list ys)) v → Q v H' := q'
      refine comp_loop P.slots hJ hL hin (nox_ok e1) fun Hf' H' xs P2 hfL hHL r => ?_
      have hb : H L = none := by
        cases z : H L with
        | none => rfl
        | some o =>
          obtain ⟨o', e'⟩ := P.step.dom L o z
          rw [hL] at e'; cases e'
      exact q2 (.ref L) Hf' H' (Post.trans S P P2) ⟨L, rfl, hfL, hb, xs, hHL, r⟩
/-- what a comprehension's parts are -/
structure CompOk (X : Cx) (W : XW) (fl : Flags) (c : CallF) (own : List Nat) (elt : Ex) (tg : Tg) (it : Ix) (ifs : Tx) (ex tgx ix : Expr) (cs : List Expr) (scope : Scope) : Prop where
  hi : PI X tgx ix (sI X W (evi fl c it))
  ok : BlkOk X.N X.env.scope scope (ownP X.N own)
  eq : (ownP X.N own).map (·.2) = own
  tgin : ∀ i ∈ tgIx tg, i ∈ own
  hg : ∀ (s : Shared) (H : Hp) (C : Addr) (cl : List (Str × Addr)) (fp : List Addr), PG (X.blk s H scope (compEnvC scope cl C X.env) fp) tgx (gD X.K tg)
  ht : ∀ (s : Shared) (H : Hp) (C : Addr) (cl : List (Str × Addr)) (fp : List Addr), PTs (X.blk s H scope (compEnvC scope cl C X.env) fp) cs (tBG (α := Unit) X.w X.K WF (evt fl c ifs))
  he : ∀ (s : Shared) (H : Hp) (C : Addr) (cl : List (Str × Addr)) (fp : List Addr), PE (X.blk s H scope (compEnvC scope cl C X.env) fp) ex (tE X.w X.K WF (ev fl c elt))
  hs : notSet ix = true
theorem re_comp {own : List Nat} {elt : Ex} {tg : Tg} {it : Ix} {ifs : Tx} {ex tgx ix : Expr} {cs : List Expr} {scope : Scope} (hc : X.calm = true) (hN : X.N.Nodup) (h : CompOk X W fl c own elt tg it ifs ex tgx ix cs scope) :
    PE X (.ListComp ex [⟨tgx, ix, cs, 0⟩] scope pos) (sE X W (ev fl c (.comp own elt tg it ifs))) :=
  PEimp (pe_lc hc hN h.hi h.ok h.hg h.ht h.he (folded_ne h.hs)) fun σ H Q q => by
    rw [h.eq]
    exact comp_key h.tgin q
theorem rs_setComp {own : List Nat} {elt : Ex} {tg : Tg} {it : Ix} {ifs : Tx} {ex tgx ix : Expr} {cs : List Expr} {scope : Scope} {i : Nat} {y : Str} {py spos : Pos} (hc : X.calm = true) (hN : X.N.Nodup) (hy : X.N[i]? = some y) (hyl : X.env.scope.names.lookup y = some .local)
    (hsw : swapsWith (.ListComp ex [⟨tgx, ix, cs, 0⟩] scope pos) (some (.Name y py)) spos.line X.env = pure true) (h : CompOk X W fl c own elt tg it ifs ex tgx ix cs scope) :
    PS X (.Assign [.Name y py] (.ListComp ex [⟨tgx, ix, cs, 0⟩] scope pos) spos) (tAsg (sE X W (ev fl c (.comp own elt tg it ifs))) (gName i)) :=
  PSimp (ps_setLc hc hN hy hyl hsw h.hi h.ok h.hg h.ht h.he (folded_ne h.hs)) fun D σ H q => by
    rw [h.eq]
    exact comp_key h.tgin q
end
end Ev
end
section
set_option maxHeartbeats 200000
set_option maxRecDepth 100000
/-! Statements. -/
namespace Ev
open PySem PySem.Spec PyProof.Rows L2

section
variable (w : World) (K : PySem.W.Frag)
/-- behind a statement -/
structure PostS (Hf H : Hp) (ρ : Env) (σ : L2.St) (Hf' H' : Hp) (ρ' : Env) (σ' : L2.St) : Prop where
  slots : Slots w K Hf' H' ρ' σ'
  step : Step (OwnSet ρ σ) Hf H Hf' H'
  ownT : ∀ (i : Nat) (d' : D), ρ'[i]? = some (some (Sl.own true d')) → (∃ d, ρ[i]? = some (some (Sl.own true d))) ∧ σ'[i]? = σ[i]?
  ownF : ∀ a, OwnL false ρ' σ' a → OwnL false ρ σ a ∨ H a = none
/-- a def's answer: frozen data, or an object of its own -/
def RetR (Hf H Hb : Hp) (ρ : Env) (σ : L2.St) : Sl → V → Prop
  | .val d, v => Rep w K Hf d v
  | .own false d, v => ∃ a, v = .ref a ∧ Hf a = none ∧ OwnAt w K Hf H a d ∧ (OwnL false ρ σ a ∨ Hb a = none)
  | .own true _, _ => False
/-- what is wanted of a flow -/
def Wants (Hf H : Hp) (ρ : Env) (σ : L2.St) (D : Ends) : Fl → Prop
  | .nx ρ' => ∀ σ' Hf' H', PostS w K Hf H ρ σ Hf' H' ρ' σ' → D.nx σ' H'
  | .bk ρ' => ∀ σ' Hf' H', PostS w K Hf H ρ σ Hf' H' ρ' σ' → D.bk σ' H'
  | .ct ρ' => ∀ σ' Hf' H', PostS w K Hf H ρ σ Hf' H' ρ' σ' → D.ct σ' H'
  | .rt r ρ' => ∀ v σ' Hf' H', PostS w K Hf H ρ σ Hf' H' ρ' σ' → RetR w K Hf' H' H ρ σ r v → D.rt v H'
/-- qt: an exception is raised at the slots of the entry -/
def GoesS (qt : Bool) (W : XW) (Hf H : Hp) (ρ : Env) (σ : L2.St) (out : M Fl) (Q : Fl → Prop) : Prop := match out with
  | none => False
  | some (.error x) => ∀ σ', (qt = true → σ' = σ) → ∀ Hf' H', Sub Hf' H' → Step (OwnSet ρ σ) Hf H Hf' H' → W σ' x Hf' H'
  | some (.ok f) => Q f
def tS (qt : Bool) (W : XW) (f : Env → M Fl) : TS := fun D σ H => ∃ Hf ρ, Slots w K Hf H ρ σ ∧ GoesS qt W Hf H ρ σ (f ρ) (Wants w K Hf H ρ σ D)
end
section
variable {w : World} {K : PySem.W.Frag} {Hf H Hf' H' Hf1 H1 : Hp} {ρ ρ' ρ1 : Env} {σ σ' σ1 : L2.St} {qt : Bool} {W : XW}
theorem PostS.refl (S : Slots w K Hf H ρ σ) : PostS w K Hf H ρ σ Hf H ρ σ := ⟨S, Step.refl, fun i d e => ⟨⟨d, e⟩, rfl⟩, fun _ h => .inl h⟩
theorem Post.toS (P : Post w K Hf H ρ Hf' H' ρ' σ) : PostS w K Hf H ρ σ Hf' H' ρ' σ := ⟨P.slots, P.step, fun i d e => ⟨P.own i true d e, rfl⟩, fun a h => .inl (P.own.l false a h)⟩
theorem PostS.set (P : PostS w K Hf H ρ σ Hf' H' ρ' σ') (a : Addr) (h : OwnSet ρ' σ' a) : OwnSet ρ σ a ∨ H a = none := by
  obtain ⟨i, l, d, e1, e2⟩ := h
  cases l with
  | true =>
    obtain ⟨⟨d', e3⟩, e4⟩ := P.ownT i d e1
    rw [e4] at e2
    exact .inl ⟨i, true, d', e3, e2⟩
  | false =>
    rcases P.ownF a ⟨i, d, e1, e2⟩ with ⟨j, d', e3, e4⟩ | h
    · exact .inl ⟨j, false, d', e3, e4⟩
    · exact .inr h
theorem fresh_back {M : Addr → Prop} {a : Addr} (st : Step M Hf H Hf' H') (h : H' a = none) : H a = none := by
  cases z : H a with
  | none => rfl
  | some o =>
    obtain ⟨o', e⟩ := st.dom a o z
    rw [h] at e; cases e
theorem PostS.trans (a : PostS w K Hf H ρ σ Hf1 H1 ρ1 σ1) (b : PostS w K Hf1 H1 ρ1 σ1 Hf' H' ρ' σ') : PostS w K Hf H ρ σ Hf' H' ρ' σ' where
  slots := b.slots
  step := a.step.trans b.step fun x h => a.set x h
  ownT := fun i d e => by
    obtain ⟨⟨d1, e1⟩, e2⟩ := b.ownT i d e
    obtain ⟨h, e3⟩ := a.ownT i d1 e1
    exact ⟨h, e2.trans e3⟩
  ownF := fun x h => by
    rcases b.ownF x h with h | h
    · exact a.ownF x h
    · exact .inr (fresh_back a.step h)
theorem RetR.back {r : Sl} {v : V} (a : PostS w K Hf H ρ σ Hf1 H1 ρ1 σ1) (h : RetR w K Hf' H' H1 ρ1 σ1 r v) : RetR w K Hf' H' H ρ σ r v := by
  cases r with
  | val d => exact h
  | own l d =>
    cases l with
    | true => exact h
    | false =>
      obtain ⟨x, e, n, q, z⟩ := h
      refine ⟨x, e, n, q, ?_⟩
      rcases z with z | z
      · exact a.ownF x z
      · exact .inr (fresh_back a.step z)
theorem Wants.back {D : Ends} {f : Fl} (a : PostS w K Hf H ρ σ Hf1 H1 ρ1 σ1) (h : Wants w K Hf H ρ σ D f) : Wants w K Hf1 H1 ρ1 σ1 D f := by
  cases f with
  | nx ρ' => exact fun σ' Hf' H' P => h σ' Hf' H' (a.trans P)
  | bk ρ' => exact fun σ' Hf' H' P => h σ' Hf' H' (a.trans P)
  | ct ρ' => exact fun σ' Hf' H' P => h σ' Hf' H' (a.trans P)
  | rt r ρ' => exact fun v σ' Hf' H' P R => h v σ' Hf' H' (a.trans P) (R.back a)
theorem GoesS.shift {out : M Fl} {Q Q' : Fl → Prop} (hv : qt = true → σ1 = σ) (P : PostS w K Hf H ρ σ Hf1 H1 ρ1 σ1) (h : GoesS qt W Hf H ρ σ out Q) (q : ∀ f, Q f → Q' f) : GoesS qt W Hf1 H1 ρ1 σ1 out Q' := by
  unfold GoesS at h ⊢
  split
  · exact h
  · intro σ' hs Hf' H' e st
    exact h σ' (fun z => (hs z).trans (hv z)) Hf' H' e (P.step.trans st fun x z => P.set x z)
  · exact q _ h
theorem GoesS.imp {out : M Fl} {Q Q' : Fl → Prop} (h : GoesS qt W Hf H ρ σ out Q) (q : ∀ f, out = some (.ok f) → Q f → Q' f) : GoesS qt W Hf H ρ σ out Q' := by
  unfold GoesS at h ⊢
  split
  · exact h
  · exact h
  · exact q _ rfl h
theorem GoesS.bd {out : M Fl} {g : Fl → M Fl} {Q : Fl → Prop} (h : GoesS qt W Hf H ρ σ (Ev.bd out g) Q) : GoesS qt W Hf H ρ σ out fun f => GoesS qt W Hf H ρ σ (g f) Q := by
  cases out with
  | none => exact h
  | some r => cases r with
    | error x => exact h
    | ok p => exact h
/-- an expression first -/
theorem GoesS.bdE {α : Type} {out : M (α × Env)} {g : α × Env → M Fl} {Q : Fl → Prop} (h : GoesS qt W Hf H ρ σ (Ev.bd out g) Q) : Goes W Hf H ρ σ out fun a ρ1 => GoesS qt W Hf H ρ σ (g (a, ρ1)) Q := by
  cases out with
  | none => exact h
  | some r => cases r with
    | error x => exact h σ fun _ => rfl
    | ok p => exact h
theorem GoesS.opt {α : Type} {o : Option α} {g : α → M Fl} {Q : Fl → Prop} (h : GoesS qt W Hf H ρ σ (Ev.bd (opt o) g) Q) : ∃ a, o = some a ∧ GoesS qt W Hf H ρ σ (g a) Q := by
  cases o with
  | none => exact h.elim
  | some a => exact ⟨a, rfl, h⟩
/-- a slot takes what came -/
theorem Slots.setRes {i : Nat} {s : Sl} {v : V} {ρ0 : Env} (S0 : Slots w K Hf H ρ σ) (P : Post w K Hf H ρ Hf1 H1 ρ1 σ) (R : ResR w K Hf1 H1 H s v) (e : setSl ρ1 i s = some ρ') : PostS w K Hf H ρ σ Hf1 H1 ρ' (σ.set i (some v)) := by
  have nt : ∀ d, ρ1[i]? ≠ some (some (Sl.own true d)) := fun d z => by
    unfold setSl at e
    rw [z] at e
    cases e
  have hρ := setSl_val e
  subst hρ
  have S := P.slots
  have fr : ∀ a, v = .ref a → H a = none → ∀ j (l : Bool) (d : D), ρ1[j]? = some (some (Sl.own l d)) → σ[j]? = some (some (V.ref a)) → False := fun a _ h j l d k1 k2 => by
    obtain ⟨_, o, e3⟩ := S0.ownThere (P.ownS a ⟨j, l, d, k1, k2⟩)
    rw [h] at e3; cases e3
  refine ⟨⟨S.sub, by rw [List.length_set, List.length_set]; exact S.len, fun j sl k => ?_, fun j k l m d1 d2 a e1 e2 e3 e4 => ?_⟩, P.step, fun j d' k => ?_, fun a ⟨j, d', k1, k2⟩ => ?_⟩
  · by_cases hj : i = j
    · subst hj
      have hi : i < ρ1.length := by
        have := (List.getElem?_eq_some_iff.mp k).1
        simpa using this
      rw [List.getElem?_set_self hi] at k
      cases k
      refine ⟨v, by rw [List.getElem?_set_self (by rw [← S.len]; exact hi)], ?_⟩
      cases s with
      | val d => exact R
      | own l d => cases l with
        | true => exact R.elim
        | false =>
          obtain ⟨a, q1, q2, _, q3⟩ := R
          exact ⟨a, q1, q2, q3⟩
    · rw [List.getElem?_set_ne hj] at k ⊢
      exact S.rep j sl k
  · have key : ∀ {j k : Nat} {l m : Bool} {d1 d2 : D}, j = i → k ≠ i → (ρ1.set i (some s))[j]? = some (some (Sl.own l d1)) → (ρ1.set i (some s))[k]? = some (some (Sl.own m d2)) → (σ.set i (some v))[j]? = some (some (V.ref a)) → (σ.set i (some v))[k]? = some (some (V.ref a)) → False := by
      intro jj kk ll mm c1 c2 hj hk f1 f2 f3 f4
      rw [hj] at f1 f3
      have hi : i < ρ1.length := by
        have := (List.getElem?_eq_some_iff.mp f1).1
        simpa using this
      rw [List.getElem?_set_self hi] at f1
      rw [List.getElem?_set_self (by rw [← S.len]; exact hi)] at f3
      rw [List.getElem?_set_ne (Ne.symm hk)] at f2 f4
      have g1 : s = .own ll c1 := Option.some.inj (Option.some.inj f1)
      have g3 : v = .ref a := Option.some.inj (Option.some.inj f3)
      rw [g1, g3] at R
      cases ll with
      | true => exact R.elim
      | false =>
        obtain ⟨b, q1, q2, q3, q4⟩ := R
        cases q1
        exact fr a g3 q3 kk mm c2 f2 f4
    by_cases hj : j = i
    · by_cases hk : k = i
      · rw [hj, hk]
      · exact (key hj hk e1 e2 e3 e4).elim
    · by_cases hk : k = i
      · exact (key hk hj e2 e1 e4 e3).elim
      · rw [List.getElem?_set_ne (Ne.symm hj)] at e1 e3
        rw [List.getElem?_set_ne (Ne.symm hk)] at e2 e4
        exact S.one j k l m d1 d2 a e1 e2 e3 e4
  · by_cases hj : i = j
    · subst hj
      have hi : i < ρ1.length := by
        have := (List.getElem?_eq_some_iff.mp k).1
        simpa using this
      rw [List.getElem?_set_self hi] at k
      cases k
      exact R.elim
    · rw [List.getElem?_set_ne hj] at k
      exact ⟨P.own j true d' k, List.getElem?_set_ne hj⟩
  · by_cases hj : i = j
    · subst hj
      have hi : i < ρ1.length := by
        have := (List.getElem?_eq_some_iff.mp k1).1
        simpa using this
      rw [List.getElem?_set_self hi] at k1
      rw [List.getElem?_set_self (by rw [← S.len]; exact hi)] at k2
      cases k1
      cases k2
      obtain ⟨b, q1, q2, q3, q4⟩ := R
      cases q1
      exact .inr q3
    · rw [List.getElem?_set_ne hj] at k1 k2
      exact .inl (P.own.l false a ⟨j, d', k1, k2⟩)
/-- targets -/
theorem tg_post {σt : L2.St} {ρt : Env} (S : Slots w K Hf H ρt σt) (same : ∀ (j : Nat) (l : Bool) (d : D), ρt[j]? = some (some (Sl.own l d)) → ρ[j]? = some (some (Sl.own l d)) ∧ σt[j]? = σ[j]?) : PostS w K Hf H ρ σ Hf H ρt σt :=
  ⟨S, Step.refl, fun i d e => let ⟨h1, h2⟩ := same i true d e; ⟨⟨d, h1⟩, h2⟩, fun a ⟨j, d, e1, e2⟩ => let ⟨h1, h2⟩ := same j false d e1; .inl ⟨j, d, h1, by rw [← h2]; exact e2⟩⟩
theorem PostS.op (S : Slots w K Hf H ρ σ) (st : Step (fun _ => False) Hf H Hf' H') (sb : Sub Hf' H') : PostS w K Hf H ρ σ Hf' H' ρ σ :=
  ⟨S.step st sb fun _ _ z => z, st.mono fun _ _ _ z => z.elim, fun i d e => ⟨⟨d, e⟩, rfl⟩, fun _ h => .inl h⟩
end
section
variable {X : Cx} {qt : Bool} {W : XW} {fl : Flags} {c : CallF} {pos p : Pos}
abbrev sV (qt : Bool) (X : Cx) (W : XW) (f : Env → M Fl) : TS := tS X.w X.K qt W f
abbrev sS (X : Cx) (W : XW) (f : Env → M Fl) : TS := tS X.w X.K false W f
/-- an expression, then the rest -/
theorem GoesS.read {w : World} {K : PySem.W.Frag} {Hf H : Hp} {ρ : Env} {σ : L2.St} {qt : Bool} {W : XW} {α : Type} {RR : Hp → Hp → Hp → Env → L2.St → α → V → Prop} {f : Env → M (α × Env)} {g : α × Env → M Fl} {Q : Fl → Prop} {Q1 : VK} (S : Slots w K Hf H ρ σ) (h : GoesS qt W Hf H ρ σ (Ev.bd (f ρ) g) Q)
    (k : ∀ r ρ1 v Hf1 H1, Post w K Hf H ρ Hf1 H1 ρ1 σ → RR Hf1 H1 H ρ1 σ r v → GoesS qt W Hf H ρ σ (g (r, ρ1)) Q → Q1 v H1) : tG w K RR W f σ H Q1 :=
  ⟨Hf, ρ, S, (GoesS.bdE h).imp fun r ρ1 e q v Hf1 H1 P R => k r ρ1 v Hf1 H1 P R q⟩
theorem GoesS.readT {w : World} {K : PySem.W.Frag} {Hf H : Hp} {ρ : Env} {σ : L2.St} {qt : Bool} {W : XW} {f : Env → M (Bool × Env)} {g : Bool × Env → M Fl} {Q : Fl → Prop} {Q1 : Bool → Hp → Prop} (S : Slots w K Hf H ρ σ) (h : GoesS qt W Hf H ρ σ (Ev.bd (f ρ) g) Q)
    (k : ∀ b ρ1 Hf1 H1, Post w K Hf H ρ Hf1 H1 ρ1 σ → GoesS qt W Hf H ρ σ (g (b, ρ1)) Q → Q1 b H1) : tBG (α := Unit) w K W f σ H Q1 :=
  ⟨Hf, ρ, S, (GoesS.bdE h).imp fun r ρ1 e q Hf1 H1 P => k r ρ1 Hf1 H1 P q⟩
theorem rs_pas : PS X (.Pass pos) (sV qt X W (evS fl c .pas)) := PSimp ps_pass fun D σ H ⟨Hf, ρ, S, g⟩ => g σ Hf H (PostS.refl S)
theorem rs_brk : PS X (.Break pos) (sV qt X W (evS fl c .brk)) := PSimp ps_break fun D σ H ⟨Hf, ρ, S, g⟩ => g σ Hf H (PostS.refl S)
theorem rs_cnt : PS X (.Continue pos) (sV qt X W (evS fl c .cnt)) := PSimp ps_continue fun D σ H ⟨Hf, ρ, S, g⟩ => g σ Hf H (PostS.refl S)
theorem rs_retN : PS X (.Return none pos) (sV qt X W (evS fl c .retN)) := PSimp ps_retN fun D σ H ⟨Hf, ρ, S, g⟩ => g .non σ Hf H (PostS.refl S) (by simp [RetR, Rep])
theorem rs_stk {s : Stmt} : PS X s (sV qt X W (evS fl c .stk)) := ⟨fun pins s σ H D I ⟨Hf, ρ, S, g⟩ => g.elim⟩
theorem re_stk {e : Expr} : PE X e (sE X W (ev fl c .stk)) := ⟨fun pins s σ H Q I ⟨Hf, ρ, S, g⟩ => g.elim⟩
theorem rs_drop {e : Ex} {x : Expr} (hx : PE X x (sE X W (ev fl c e))) (hs : swapsWith x none pos.line X.env = pure false) : PS X (.Expr x pos) (sV qt X W (evS fl c (.drop e))) := PSimp (ps_expr hx hs) fun D σ H ⟨Hf, ρ, S, g⟩ => by
  unfold evS at g
  show sE X W (ev fl c e) σ H fun _ H1 => D.nx σ H1
  exact GoesS.read S g fun r ρ1 v Hf1 H1 P R q => q σ Hf1 H1 P.toS
/-- an answer -/
theorem rs_ret {e : Ex} {x : Expr} (hx : PE X x (sE X W (ev fl c e))) (hv : ∀ i, e = .var i → PE X x (tVar i)) : PS X (.Return (some x) pos) (sV qt X W (evS fl c (.ret e))) := by
  have gen : ∀ (h : ∀ ρ, evrOf e (ev fl c e) ρ = ev fl c e ρ), PS X (.Return (some x) pos) (sV qt X W (evS fl c (.ret e))) := fun h => PSimp (ps_ret hx) fun D σ H ⟨Hf, ρ, S, g⟩ => by
    unfold evS at g
    rw [h] at g
    show sE X W (ev fl c e) σ H D.rt
    refine GoesS.read S g fun r ρ1 v Hf1 H1 P R q => q v σ Hf1 H1 P.toS ?_
    cases r with
    | val d => exact R
    | own l d => cases l with
      | true => exact R
      | false =>
        obtain ⟨a, q1, q2, q3, q4⟩ := R
        exact ⟨a, q1, q2, q4, .inr q3⟩
  cases e with
  | var i =>
    exact PSimp (ps_ret (hv i rfl)) fun D σ H ⟨Hf, ρ, S, g⟩ => by
      unfold evS at g
      unfold evrOf at g
      simp only at g
      split at g
      · rename_i d e1
        obtain ⟨v, e2, a, rfl, n, z⟩ := S.rep i _ e1
        have hi : i < ρ.length := (List.getElem?_eq_some_iff.mp e1).1
        have out : ∀ {j : Nat} {s : Sl}, (ρ.set i none)[j]? = some (some s) → i ≠ j ∧ ρ[j]? = some (some s) := fun {j s} k => by
          by_cases hj : i = j
          · subst hj
            rw [List.getElem?_set_self hi] at k; cases k
          · rw [List.getElem?_set_ne hj] at k
            exact ⟨hj, k⟩
        refine ⟨.ref a, e2, g (.ref a) σ Hf H ⟨⟨S.sub, by rw [List.length_set]; exact S.len, fun j s k => S.rep j s (out k).2, fun j k l m d1 d2 b k1 k2 k3 k4 => S.one j k l m d1 d2 b (out k1).2 (out k2).2 k3 k4⟩, Step.refl, fun j d' k => ⟨⟨d', (out k).2⟩, rfl⟩, fun b ⟨j, d', k1, k2⟩ => .inl ⟨j, d', (out k1).2, k2⟩⟩ ⟨a, rfl, n, z, .inl ⟨i, d, e1, e2⟩⟩⟩
      · rename_i d e1
        obtain ⟨v, e2, r⟩ := S.rep i _ e1
        exact ⟨v, e2, g v σ Hf H (PostS.refl S) r⟩
      · exact g.elim
  | _ => exact gen fun _ => rfl
theorem rs_asg {i : Nat} {e : Ex} {s : Stmt} (h : PS X s (tAsg (sE X W (ev fl c e)) (gName i))) : PS X s (sV qt X W (evS fl c (.asg i e))) := PSimp h fun D σ H ⟨Hf, ρ, S, g⟩ => by
  unfold evS at g
  show sE X W (ev fl c e) σ H fun x H1 => D.nx (σ.set i (some x)) H1
  refine GoesS.read S g fun r ρ1 v Hf1 H1 P R q => ?_
  obtain ⟨ρ', e1, q2⟩ := GoesS.opt q
  exact q2 _ Hf1 H1 (Slots.setRes (ρ0 := ρ) S P R e1)
theorem rs_asgT {is : List Nat} {e : Ex} {s : Stmt} (h : PS X s (tAsg (sD X W (ev fl c e)) (gD X.K (.tup is)))) : PS X s (sV qt X W (evS fl c (.asgT is e))) := PSimp h fun D σ H ⟨Hf, ρ, S, g⟩ => by
  unfold evS at g
  show sD X W (ev fl c e) σ H fun x H1 => gD X.K (.tup is) x σ H1 D.nx
  refine GoesS.read S g fun r ρ1 v Hf1 H1 P R q => ?_
  obtain ⟨ρ', e1, q2⟩ := GoesS.opt q
  exact tgS_ok P.slots R e1 fun σ' St same _ _ => q2 σ' Hf1 H1 (P.toS.trans (tg_post St same))
theorem rs_if {t : Tx} {a b : Sts} {x : Expr} {y z : List Stmt} (hx : PT X x (sT X W (evt fl c t))) (hy : PSs X y (sS X W (evSs fl c a))) (hz : PSs X z (sS X W (evSs fl c b))) : PS X (.If x y z pos) (sS X W (evS fl c (.iff t a b))) :=
  PSimp (ps_if hx hy hz) fun D σ H ⟨Hf, ρ, S, g⟩ => by
    unfold evS at g
    show sT X W (evt fl c t) σ H fun b' H1 => if b' = true then sS X W (evSs fl c a) D σ H1 else sS X W (evSs fl c b) D σ H1
    refine GoesS.readT S g fun b' ρ1 Hf1 H1 P q => ?_
    cases b' with
    | true => exact ⟨Hf1, ρ1, P.slots, q.shift (fun _ => rfl) P.toS fun f h => h.back P.toS⟩
    | false => exact ⟨Hf1, ρ1, P.slots, q.shift (fun _ => rfl) P.toS fun f h => h.back P.toS⟩
theorem rss_nil : PSs X [] (sV qt X W (evSs fl c .nil)) := PSsimp pss_nil fun D σ H ⟨Hf, ρ, S, g⟩ => g σ Hf H (PostS.refl S)
theorem rss_one {s : St} {x : Stmt} (h : PS X x (sV qt X W (evS fl c s))) : PSs X [x] (sV qt X W (evSs fl c (.cons s .nil))) := PSsimp (pss_one h) fun D σ H q => q
theorem rss_cons {s s2 : St} {ss : Sts} {x : Stmt} {xs : List Stmt} (h : PS X x (sS X W (evS fl c s))) (hs : PSs X xs (sS X W (evSs fl c (.cons s2 ss)))) : PSs X (x :: xs) (sS X W (evSs fl c (.cons s (.cons s2 ss)))) :=
  PSsimp (pss_cons h hs) fun D σ H ⟨Hf, ρ, S, g⟩ => by
    have g' : GoesS false W Hf H ρ σ (bd (evS fl c s ρ) fun f => match f with
      | .nx ρ' => evSs fl c (.cons s2 ss) ρ'
      | f => Ev.rt f) (Wants X.w X.K Hf H ρ σ D) := g
    show tS X.w X.K false W (evS fl c s) (Ends.mk (sS X W (evSs fl c (.cons s2 ss)) D) D.rt D.bk D.ct) σ H
    refine ⟨Hf, ρ, S, (GoesS.bd g').imp fun f _ q => ?_⟩
    cases f with
    | nx ρ' => exact fun σ' Hf' H' P => ⟨Hf', ρ', P.slots, q.shift (fun z => nomatch z) P fun f h => h.back P⟩
    | rt r ρ' => exact q
    | bk ρ' => exact q
    | ct ρ' => exact q
/-! ### loops -/
theorem rs_for {tg : Tg} {it : Ix} {body : Sts} {tx ix : Expr} {bs : List Stmt} (hp : PassesOwn (model X.prog X.w) X.A X.env X.xe) (hc : X.calm = true) (hi : PI X tx ix (sI X W (evi fl c it))) (hg : PG X tx (gD X.K tg)) (hb : PSs X bs (sS X W (evSs fl c body))) (hs : notSet ix = true) :
    PS X (.For tx ix bs [] pos) (sS X W (evS fl c (.fr tg it body))) := PSimp (ps_for hp hc hi hg hb (folded_ne hs)) fun D σ H ⟨Hf, ρ, S, g⟩ => by
  unfold evS at g
  show sI X W (evi fl c it) σ H fun J H1 => _
  refine ⟨Hf, ρ, S, (GoesS.bdE g).imp fun ds ρ1 _ q J Hf1 H1 P hJ => ?_⟩
  let body' : PyData → Ev.Env → M Fl := fun x ρ1 => bd (opt (tgS tg x ρ1)) fun ρ2 => evSs fl c body ρ2
  let Inv' (i : Nat) (σi : L2.St) (Hi : Hp) : Prop := ∃ Hfi ρi, i ≤ ds.length ∧ PostS X.w X.K Hf H ρ σ Hfi Hi ρi σi ∧ Sub Hf1 Hfi ∧ GoesS false W Hf H ρ σ (flp body' (ds.drop i) ρi) (Wants X.w X.K Hf H ρ σ D)
  refine ⟨fun i m σi Hi => m = ds.length - i ∧ Inv' i σi Hi, ⟨ds.length, by simp, Hf1, ρ1, Nat.zero_le _, P.toS, Sub.refl _, q⟩, ?_⟩
  rintro i m σi Hi ⟨rfl, Hfi, ρi, hle, Pi, sbi, gi⟩
  by_cases hlt : i < ds.length
  · refine .inr ⟨hJ.go i Hfi Hi sbi Pi.slots.sub hlt, Inv' (i + 1), fun σ' H' h => ⟨ds.length - (i + 1), by omega, rfl, h⟩, fun x H' y => ?_⟩
    obtain ⟨d, hd⟩ : ∃ d, ds[i]? = some d := ⟨_, List.getElem?_eq_getElem hlt⟩
    obtain ⟨Hf3, sb3, st3, rx⟩ := hJ.yld i Hfi Hi x H' d sbi Pi.slots.sub hd y
    rw [List.drop_eq_getElem_cons hlt] at gi
    have hd' : ds[i] = d := by
      rw [List.getElem?_eq_getElem hlt] at hd
      exact Option.some.inj hd
    rw [hd'] at gi
    unfold flp at gi
    have g1 := GoesS.bd gi
    obtain ⟨ρt, et, g2⟩ := GoesS.opt g1
    have P3 : PostS X.w X.K Hf H ρ σ Hf3 H' ρi σi := Pi.trans (PostS.op Pi.slots st3 sb3)
    refine tgS_ok P3.slots rx et fun σt St same _ _ => ?_
    have P4 := P3.trans (tg_post St same)
    refine ⟨Hf3, ρt, St, g2.shift (fun z => nomatch z) P4 fun f h => ?_⟩
    cases f with
    | nx ρ' => exact fun σ' Hf' H'' P5 => ⟨Hf', ρ', hlt, P4.trans P5, (sbi.trans st3.sub).trans P5.step.sub, h⟩
    | ct ρ' => exact fun σ' Hf' H'' P5 => ⟨Hf', ρ', hlt, P4.trans P5, (sbi.trans st3.sub).trans P5.step.sub, h⟩
    | bk ρ' => exact fun σ' Hf' H'' P5 => h σ' Hf' H'' (P4.trans P5)
    | rt r ρ' => exact fun v σ' Hf' H'' P5 R => h v σ' Hf' H'' (P4.trans P5) (R.back P4)
  · have e : i = ds.length := by omega
    subst e
    rw [List.drop_length] at gi
    exact .inl ⟨hJ.stop _ Hfi Hi sbi Pi.slots.sub (Nat.le_refl _), gi σi Hfi Hi Pi⟩
theorem rs_while {t : Tx} {body : Sts} {x : Expr} {bs : List Stmt} (hp : PassesOwn (model X.prog X.w) X.A X.env X.xe) (hx : PT X x (sT X W (evt fl c t))) (hb : PSs X bs (sS X W (evSs fl c body))) :
    PS X (.While x bs [] pos) (sS X W (evS fl c (.whl t body))) := PSimp (ps_while hp hx hb) fun D σ H ⟨Hf, ρ, S, g⟩ => by
  unfold evS at g
  refine ⟨fun m σi Hi => sS X W (wlp (evt fl c t) (evSs fl c body) m) D σi Hi, ⟨whileMost, Hf, ρ, S, g⟩, ?_⟩
  rintro m σi Hi ⟨Hfi, ρi, Si, gi⟩
  cases m with
  | zero => exact gi.elim
  | succ m =>
    unfold wlp at gi
    show sT X W (evt fl c t) σi Hi fun b H1 => _
    refine GoesS.readT Si gi fun b ρ1 Hf1 H1 P q => ?_
    cases b with
    | false =>
      rw [if_neg Bool.false_ne_true] at q ⊢
      exact q σi Hf1 H1 P.toS
    | true =>
      rw [if_pos rfl] at q ⊢
      refine ⟨fun σ' H' => sS X W (wlp (evt fl c t) (evSs fl c body) m) D σ' H', fun σ' H' h => ⟨m, Nat.lt_succ_self m, h⟩, Hf1, ρ1, P.slots, ?_⟩
      refine (GoesS.bd q).shift (fun _ => rfl) P.toS fun f h => ?_
      cases f with
      | nx ρ' => exact fun σ' Hf' H'' P5 => ⟨Hf', ρ', P5.slots, h.shift (fun z => nomatch z) (P.toS.trans P5) fun f k => k.back (P.toS.trans P5)⟩
      | ct ρ' => exact fun σ' Hf' H'' P5 => ⟨Hf', ρ', P5.slots, h.shift (fun z => nomatch z) (P.toS.trans P5) fun f k => k.back (P.toS.trans P5)⟩
      | bk ρ' => exact fun σ' Hf' H'' P5 => h σ' Hf' H'' (P.toS.trans P5)
      | rt r ρ' => exact fun v σ' Hf' H'' P5 R => h v σ' Hf' H'' (P.toS.trans P5) (R.back P.toS)
end
end Ev
end
section
set_option maxRecDepth 100000
set_option maxHeartbeats 2000000
/-! The iterator of a dict's items, whatever became of the pair it handed out. -/
namespace Ev
open PySem PySem.Spec PySem.Calls PyProof.Rows
open PySem.W (KdxIt)
section
variable {prog : Program} {w : World} {A : Around} {E : Value → Shared → Prop} {s : Shared}
theorem alive_by {a : Addr} {Q : Option Obj → Shared → Prop} (h : Q (s.heap.get? a) s) : wpAny (model prog w) A (loadIfAlive a) Q E s := fun _ _ _ => h
/-- a pair more; its iterator keeps some pair, alive or not -/
theorem next_pair {it d a : Addr} {f : Bool} {i ep : Nat} {es : Array DictEntry} {ok ov : Value} {Q : Option Value → Shared → Prop} (hit : KdxIt s.heap it d i es.size ep ok ov a f) (hm : s.heap.DictRaw d es ep) (hlt : i < es.size)
    (hQ : ∀ h' a' f' ok' ov', KdxIt h' it d (i + 1) es.size ep ok' ov' a' f' → h'.get? s.heap.objs.size = some { cls := .type "tuple", data := .seq #[es[i].key, es[i].val] } → (∀ b o, b ≠ it → s.heap.get? b = some o → h'.get? b = some o) → Q (some (.ref s.heap.objs.size)) { s with heap := h' }) :
    wpAny (model prog w) A (pyNext (.ref it)) Q E s := by
  obtain ⟨hp, g, dr, tk, os⟩ := s
  obtain ⟨od, e1, _, e2⟩ := id hm
  have tI : Shared.TypeIs ⟨hp, g, dr, tk, os⟩ (.ref it) "dict_itemiterator" := ⟨_, hit, rfl⟩
  unfold pyNext; refine wpAny_bind (wpAny_attempt (wpAny_callSpecial?_slot (name := Str.ofString "__next__") tI PySem.F.slot_dict_itemiterator_next (wpAny_call_entry PySem.F.slot_dict_itemiterator_next tI PySem.F.entry_dict_itemiterator_next ?_ (PySem.F.args_dict_itemiterator_next_1 _))))
  refine wpAny_bind (wpAny_pure ?_); refine wpAny_bind ?_; refine wpAny_bind ?_
  first | refine wpAny_bind (wpAny_typeNameOfWhole_itemiter tI (wpAny_pure ?_)) | refine wpAny_bind (wpAny_typeNameOf_itemiter tI (wpAny_pure ?_))
  refine wpAny_bind (wpAny_fieldsOf hit rfl ?_); simp only [show Builtin.Dict_items.ownsTuple "dict_itemiterator" = true by decide, if_true]
  show wpAny _ _ (if (Value.ref d == Value.none) = true then _ else _) _ _ _
  rw [if_neg (by simp)]; refine wpAny_bind (wpAny_pure ?_); refine wpAny_bind (wpAny_dictEntries e1 e2 ?_)
  rw [if_neg (by simp)]; refine wpAny_bind (wpAny_pure ?_); refine wpAny_bind (wpAny_dictEpoch e1 e2 ?_)
  rw [if_neg (by simp)]; refine wpAny_pure ?_
  simp only [show ¬ ((i : Int) < 0) by omega, if_false, Int.toNat_natCast, Array.getElem?_eq_getElem hlt]; refine wpAny_bind ?_
  first | refine wpAny_bind (wpAny_typeNameOfWhole_itemiter tI (wpAny_pure ?_)) | refine wpAny_bind (wpAny_typeNameOf_itemiter tI (wpAny_pure ?_))
  refine wpAny_bind (wpAny_isOneOf_itemiter tI ?_); show wpAny _ _ (setField (.ref it) 3 (rawInt ((i : Int) + 1)) >>= _) _ _ ⟨hp, g, dr, tk, os⟩
  refine wpAny_bind (wpAny_setField_rec hit (by simp) fun g1 q1 b1 => ?_)
  have k1 : KdxIt g1 it d (i + 1) es.size ep ok ov a f := by
    have e : ((i + 1 : Nat) : Int) = (i : Int) + 1 := by omega
    unfold KdxIt; rw [e]; simpa [rawInt] using q1
  have tJ : Shared.TypeIs ⟨g1, g, dr, tk, os⟩ (.ref it) "dict_itemiterator" := ⟨_, k1, rfl⟩
  have b1' : Heap.SameBut it hp g1 := b1
  refine wpAny_bind (wpAny_holding ?_); refine wpAny_bind (wpAny_isOneOf_itemiter tJ ?_); refine wpAny_bind (wpAny_isOneOf_itemiter tJ ?_)
  show wpAny _ _ (Builtin.Dict_items.pairFromOwner (.ref it) 6 es[i].key es[i].val) _ _ ⟨g1, g, dr, tk, os⟩
  unfold Builtin.Dict_items.pairFromOwner; refine wpAny_bind (wpAny_newTuple ?_)
  obtain ⟨g2, hg2⟩ : ∃ g2 : Heap, g2 = g1.push { cls := .type "tuple", data := .seq #[es[i].key, es[i].val] } := ⟨_, rfl⟩
  have sz : g1.objs.size = hp.objs.size := b1'.1
  have lt : it < hp.objs.size := Heap.lt_size hit
  have ne : hp.objs.size ≠ it := Nat.ne_of_gt lt
  have k2 : KdxIt g2 it d (i + 1) es.size ep ok ov a f := by rw [hg2]; exact Heap.get?_push_of_some _ k1
  have t2 : g2.get? hp.objs.size = some { cls := .type "tuple", data := .seq #[es[i].key, es[i].val] } := by rw [hg2, ← sz]; exact Heap.get?_push_size _ rfl
  have s2 : ∀ b o, b ≠ it → hp.get? b = some o → g2.get? b = some o := fun b o hb e => by rw [hg2]; exact Heap.get?_push_of_some _ (b1'.extBut b o hb e)
  rw [← hg2]; show wpAny _ _ (Builtin.Dict_items.ownedTupleIsFree (.ref it) >>= _) _ _ ⟨g2, g, dr, tk, os⟩
  rw [sz]; refine wpAny_bind ?_; unfold Builtin.Dict_items.ownedTupleIsFree
  refine wpAny_bind (wpAny_field k2 rfl (x := rawInt a) rfl ?_); show wpAny _ _ (loadIfAlive ((a : Int).toNat) >>= _) _ _ _
  rw [Int.toNat_natCast]; refine wpAny_bind (alive_by ?_)
  have goes : ∀ h3 a' f' ok' ov', KdxIt h3 it d (i + 1) es.size ep ok' ov' a' f' → (∀ b o, b ≠ it → g2.get? b = some o → h3.get? b = some o) → Q (some (.ref hp.objs.size)) ⟨h3, g, dr, tk, os⟩ := fun h3 a' f' ok' ov' q k => hQ h3 a' f' ok' ov' q (k _ _ ne t2) fun b o hb e => k b o hb (s2 b o hb e)
  cases al : (g2.get? a) with
  | some oa =>
    simp only [Option.isNone_some, Bool.false_eq_true, if_false]
    refine wpAny_bind (wpAny_field k2 rfl (x := .bool f) rfl ?_)
    cases f with
    | true =>
      rw [if_neg (by simp)]; refine wpAny_pure ?_; simp only [Bool.false_eq_true, if_false]
      exact wpAny_pure (wpAny_pure ⟨_, rfl, wpAny_pure (goes g2 a true ok ov k2 fun _ _ _ e => e)⟩)
    | false =>
      rw [if_pos (by rfl)]; refine wpAny_bind (wpAny_setField_rec k2 (by simp) fun g3 q3 b3 => ?_)
      refine wpAny_pure ?_; simp only [Bool.false_eq_true, if_false]
      exact wpAny_pure (wpAny_pure ⟨_, rfl, wpAny_pure (goes g3 a true ok ov q3 fun b o hb e => Heap.SameBut.extBut (show Heap.SameBut it g2 g3 from b3) b o hb e)⟩)
  | none =>
    simp only [Option.isNone_none, if_true]; refine wpAny_pure ?_; simp only [if_true]
    refine wpAny_bind (wpAny_field k2 rfl (x := ok) rfl ?_); refine wpAny_bind (wpAny_field k2 rfl (x := ov) rfl ?_)
    refine wpAny_bind (wpAny_setField_rec k2 (by simp) fun g3 q3 b3 => ?_)
    have k3 : KdxIt g3 it d (i + 1) es.size ep es[i].key ov a f := q3
    refine wpAny_bind (wpAny_setField_rec k3 (by simp) fun g4 q4 b4 => ?_)
    have k4 : KdxIt g4 it d (i + 1) es.size ep es[i].key es[i].val a f := q4
    refine wpAny_bind (wpAny_setField_rec k4 (by simp) fun g5 q5 b5 => ?_)
    have k5 : KdxIt g5 it d (i + 1) es.size ep es[i].key es[i].val hp.objs.size f := q5
    refine wpAny_bind (wpAny_setField_rec k5 (by simp) fun g6 q6 b6 => ?_)
    have k6 : KdxIt g6 it d (i + 1) es.size ep es[i].key es[i].val hp.objs.size false := q6
    have kk : ∀ b o, b ≠ it → g2.get? b = some o → g6.get? b = some o := fun b o hb e => (show Heap.SameBut it g5 g6 from b6).extBut b o hb ((show Heap.SameBut it g4 g5 from b5).extBut b o hb ((show Heap.SameBut it g3 g4 from b4).extBut b o hb ((show Heap.SameBut it g2 g3 from b3).extBut b o hb e)))
    exact wpAny_bind (wpAny_letGo (wpAny_pure (wpAny_pure ⟨_, rfl, wpAny_pure (goes g6 _ _ _ _ k6 kk)⟩)))
end
end Ev
end
section
set_option maxRecDepth 100000
set_option maxHeartbeats 2000000
/-! The rules of the values: operators, comparisons. -/
namespace Ev
open PySem PySem.Spec PyProof.Rows L2
section
variable {w : World} {K : PySem.W.Frag} {Hf H : Hp} {Q : VK}
theorem Ends1.val {d : D} {v : V} (q : Ends1 w K Hf H (.val d) Q) (s : Sub Hf H) (h : Rep w K Hf d v) : Q v H := q v Hf H s Step.refl h
theorem Ends1.newL {ds : List D} {xs : List V} (q : Ends1 w K Hf H (.own false (.list ds)) Q) (s : Sub Hf H) (r : Reps w K Hf ds xs) (p : Addr) (hp : H p = none) : Q (.ref p) (upd H p (.lst xs)) :=
  q (.ref p) Hf _ (Sub.mut s (s.none hp)) (Step.new hp) ⟨p, rfl, s.none hp, hp, xs, upd_same, r⟩
theorem Ends1.newT {ds : List D} {xs : List V} (q : Ends1 w K Hf H (.val (.tuple ds)) Q) (s : Sub Hf H) (r : Reps w K Hf ds xs) (p : Addr) (hp : H p = none) : Q (.ref p) (upd H p (.tup xs)) :=
  q (.ref p) (upd Hf p (.tup xs)) _ s.both (Step.newF s hp) (by
    show Rep w K _ (.tuple ds) _
    simp only [Rep]
    exact ⟨p, xs, rfl, SqT.of upd_same, r.mono (Sub.new (s.none hp))⟩)
theorem opInt {i : Int} {v : V} (h : Opr w K Hf H (.int i) v) : v = .int i := by simpa [Opr, Rep] using h
theorem opStr {i : Str} {v : V} (h : Opr w K Hf H (.str i) v) : v = .str i := by simpa [Opr, Rep] using h
theorem opBool {i : Bool} {v : V} (h : Opr w K Hf H (.bool i) v) : v = .bl i := by simpa [Opr, Rep] using h
theorem opNone {v : V} (h : Opr w K Hf H .none v) : v = .non := by simpa [Opr, Rep] using h
theorem opTup {ds : List D} {v : V} (h : Opr w K Hf H (.tuple ds) v) : ∃ a xs, v = .ref a ∧ SqT K Hf a xs ∧ Reps w K Hf ds xs := by simpa [Opr, Rep] using h
theorem opList {ds : List D} {v : V} (h : Opr w K Hf H (.list ds) v) : ∃ a xs, v = .ref a ∧ SqL K H a xs ∧ Reps w K Hf ds xs := h
theorem resInt {Hb : Hp} {i : Int} : ResR w K Hf H Hb (.val (.int i)) (.int i) := by simp [ResR, Rep]
end
section
variable {X : Cx}
/-- list + list, as they are read -/
def rCatL (K : PySem.W.Frag) : R2 := fun x y H Q => ∃ l b xs zs, x = .ref l ∧ y = .ref b ∧ SqL K H l xs ∧ SqL K H b zs ∧ xs.length + zs.length ≤ sizeLine ∧ ∀ p, H p = none → Q (.ref p) (upd H p (.lst (xs ++ zs)))
theorem op_catL : OpR X (binaryOp .Add) (rCatL X.K) := by
  intro pins s σ H x y v u Q I rx ry h
  obtain ⟨l, b, xs, zs, rfl, rfl, hH, hB, hz, q⟩ := h
  cases rx
  cases ry
  obtain ⟨its, r, pl, _⟩ := I.list hH
  obtain ⟨its2, r2, pl2, _⟩ := I.list hB
  have e1 := r.length
  have e2 := r2.length
  obtain ⟨⟨cls, dd, data, sl⟩, ho, hc, n, hd⟩ := pl.isList
  obtain ⟨⟨cls2, dd2, data2, sl2⟩, ho2, hc2, n2, hd2⟩ := pl2.isList
  simp only at hc hd hc2 hd2
  subst hc hd hc2 hd2
  have ea : its.toArray ++ its2.toArray = (its ++ its2).toArray := by simp
  refine concat_meets ⟨_, ho, rfl⟩ ⟨_, ho2, rfl⟩ noFill_list_add seq_list_add PySem.F.slot_list_add PySem.F.entry_list_add (PySem.F.args_list_add_2 _ _) (list_addW l b its.toArray its2.toArray n n2 dd dd2 sl sl2 (by rw [List.size_toArray, List.size_toArray]; omega)) ⟨ho, ho2, ?_⟩
  rw [ea]
  exact ⟨.ref _, _, I.lnew (t' := s.toks) (r.append r2) (by rw [List.length_append]; omega), rfl, q _ I.fresh⟩
theorem reps_nil {w : World} {K : PySem.W.Frag} {H : Hp} {ds : List D} (r : Reps w K H ds []) : ds = [] := by
  cases ds with
  | nil => rfl
  | cons d ds => simp [Reps] at r
theorem bin_rule (hc : X.calm = true) (o : Bop) : OpR X (binaryOp (bopOf o)) (rD2 X.w X.K (binD o)) := by
  intro pins s σ H x y v u Q I rx ry ⟨Hf, dx, dy, r, sb, ox, oy, e, q⟩
  cases o with
  | add =>
    cases dx with
    | int i =>
      cases dy with
      | int j =>
        cases e
        rw [opInt ox] at rx; rw [opInt oy] at ry
        exact op_add pins s σ H _ _ v u Q I rx ry ⟨i, j, rfl, rfl, q.val sb (by simp [Rep])⟩
      | _ => cases e
    | str i =>
      cases dy with
      | str j =>
        simp only [binD] at e
        split at e
        · rename_i hz
          cases e
          rw [opStr ox] at rx; rw [opStr oy] at ry
          exact op_add_str pins s σ H _ _ v u Q I rx ry ⟨i, j, rfl, rfl, hz, q.val sb (by simp [Rep])⟩
        · cases e
      | _ => cases e
    | list xs =>
      cases dy with
      | list ys =>
        simp only [binD] at e
        split at e
        · rename_i hz
          cases e
          obtain ⟨a, vs, rfl, h1, r1⟩ := opList ox
          obtain ⟨b, us, rfl, h2, r2⟩ := opList oy
          exact op_catL pins s σ H _ _ v u Q I rx ry ⟨a, b, vs, us, rfl, rfl, h1, h2, by rw [r1.length, r2.length]; exact hz, fun p hp => q.newL sb (r1.append r2) p hp⟩
        · cases e
      | _ => cases e
    | tuple xs =>
      cases dy with
      | tuple ys =>
        simp only [binD] at e
        split at e
        · rename_i hz
          cases e
          obtain ⟨a, vs, rfl, h1, r1⟩ := opTup ox
          obtain ⟨b, us, rfl, h2, r2⟩ := opTup oy
          refine op_catA pins s σ H _ _ v u Q I rx ry ⟨a, b, vs, us, rfl, rfl, sub_t sb h1, sub_t sb h2, by rw [r1.length, r2.length]; exact hz, fun z => ?_, fun z z2 => ?_, fun _ _ p hp => q.newT sb (r1.append r2) p hp⟩
          · subst z
            have := reps_nil r1
            subst this
            exact q.val sb (by simp only [List.nil_append, Rep]; exact ⟨b, us, rfl, h2, r2⟩)
          · subst z2
            have := reps_nil r2
            subst this
            exact q.val sb (by simp only [List.append_nil, Rep]; exact ⟨a, vs, rfl, h1, r1⟩)
        · cases e
      | _ => cases e
    | _ => cases e
  | sub =>
    cases dx with
    | int i =>
      cases dy with
      | int j =>
        cases e
        rw [opInt ox] at rx; rw [opInt oy] at ry
        exact op_sub pins s σ H _ _ v u Q I rx ry ⟨i, j, rfl, rfl, q.val sb (by simp [Rep])⟩
      | _ => cases e
    | _ => cases e
  | mul =>
    cases dx with
    | int i =>
      cases dy with
      | int j =>
        simp only [binD] at e
        split at e
        · rename_i hz
          cases e
          rw [opInt ox] at rx; rw [opInt oy] at ry
          refine op_mul pins s σ H _ _ v u Q I rx ry ⟨i, j, rfl, rfl, ?_, q.val sb (by simp [Rep])⟩
          simp only [Bool.or_eq_true, decide_eq_true_eq] at hz
          rcases hz with hz | hz
          · left; omega
          · right; omega
        · cases e
      | _ => cases e
    | _ => cases e
  | fdiv =>
    cases dx with
    | int i =>
      cases dy with
      | int j =>
        simp only [binD] at e
        split at e
        · rename_i hz
          cases e
          rw [opInt ox] at rx; rw [opInt oy] at ry
          exact op_fdiv pins s σ H _ _ v u Q I rx ry ⟨i, j, rfl, rfl, hz, q.val sb (by simp [Rep])⟩
        · cases e
      | _ => cases e
    | _ => cases e
  | mod =>
    cases dx with
    | int i =>
      cases dy with
      | int j =>
        simp only [binD] at e
        split at e
        · rename_i hz
          cases e
          rw [opInt ox] at rx; rw [opInt oy] at ry
          exact op_mod pins s σ H _ _ v u Q I rx ry ⟨i, j, rfl, rfl, hz, q.val sb (by simp [Rep])⟩
        · cases e
      | _ => cases e
    | _ => cases e
  | pow =>
    cases dx with
    | int i =>
      cases dy with
      | int j =>
        simp only [binD] at e
        split at e
        · rename_i hz
          cases e
          rw [opInt ox] at rx; rw [opInt oy] at ry
          exact op_pow pins s σ H _ _ v u Q I rx ry ⟨i, j, rfl, rfl, hz, q.val sb (by simp [Rep])⟩
        · cases e
      | _ => cases e
    | _ => cases e
/-! ### == -/
mutual
theorem dp_of {w : World} {K : PySem.W.Frag} {H : Hp} : ∀ {d : D} {v : V}, d.canLay0 = true → Rep w K H d v → Dp K H v d
  | .none, _, _, h => by have e := (by simpa [Rep] using h); subst e; exact .non
  | .bool _, _, _, h => by have e := (by simpa [Rep] using h); subst e; exact .bl _
  | .int _, _, _, h => by have e := (by simpa [Rep] using h); subst e; exact .int _
  | .str _, _, _, h => by have e := (by simpa [Rep] using h); subst e; exact .str _
  | .tuple ds, _, c, h => by
    simp only [Rep] at h
    obtain ⟨a, xs, e, q, r⟩ := h
    subst e
    exact .tup q (dps_of (by simpa [PyData.canLay0] using c) r)
  | .list ds, _, c, h => by
    simp only [Rep] at h
    obtain ⟨a, xs, e, q, r⟩ := h
    subst e
    exact .lst q (dps_of (by simpa [PyData.canLay0] using c) r)
  | .dict _, _, c, _ => by simp [PyData.canLay0] at c
theorem dps_of {w : World} {K : PySem.W.Frag} {H : Hp} : ∀ {ds : List D} {vs : List V}, PyData.canLayAll0 ds = true → Reps w K H ds vs → DpAll K H vs ds
  | [], _, _, h => by simp only [Reps] at h; subst h; exact .nil
  | d :: ds, _, c, h => by
    simp only [Reps] at h
    obtain ⟨v, vs, e, q, r⟩ := h
    subst e
    have c' : d.canLay0 = true ∧ PyData.canLayAll0 ds = true := by simpa [PyData.canLayAll0] using c
    exact .cons (dp_of c'.1 q) (dps_of c'.2 r)
end
theorem dp_opr {w : World} {K : PySem.W.Frag} {Hf H : Hp} {d : D} {v : V} (s : Sub Hf H) (c : SeqAt.shaped d = true) (h : Opr w K Hf H d v) : Dp K H v d := by
  have c0 := SeqAt.canLay_of_shaped c
  cases d with
  | list ds =>
    obtain ⟨a, xs, rfl, q, r⟩ := opList h
    exact .lst q (dps_of (by simpa [PyData.canLay0] using c0) (r.mono s))
  | dict kvs => simp [PyData.canLay0] at c0
  | _ => exact dp_of (w := w) c0 (Rep.mono s h)
end
end Ev
end
section
set_option maxRecDepth 100000
set_option maxHeartbeats 2000000
/-! Dicts: their entries, told as the library's dicts. -/
namespace Ev
open PySem PySem.Spec PyProof.Rows L2
/-! ### keys that are ints or texts -/
def toKey : D → Key
  | .int i => .inl i
  | .str x => .inr x
  | _ => .inl 0
def K0 (k : D) : Prop := keyK k = some false
def K1 (k : D) : Prop := keyK k = some true
theorem K0.shape {k : D} (h : K0 k) : (∃ i, k = .int i) ∨ ∃ x, k = .str x := by
  cases k with
  | int i => exact .inl ⟨i, rfl⟩
  | str x => exact .inr ⟨x, rfl⟩
  | tuple ds =>
    unfold K0 at h
    simp only [keyK] at h
    split at h <;> simp at h
  | _ => cases h
theorem toKey_eq {a b : D} (ha : K0 a) (hb : K0 b) : toKey a = toKey b ↔ keyN a = keyN b := by
  rcases ha.shape with ⟨i, rfl⟩ | ⟨x, rfl⟩ <;> rcases hb.shape with ⟨j, rfl⟩ | ⟨y, rfl⟩ <;> simp [toKey, keyN]
theorem key_hash {P : Program} {w : World} {k : D} (h : K0 k) : (keyN k).hash w = (mixKind P w).hash (toKey k) := by
  rcases h.shape with ⟨i, rfl⟩ | ⟨x, rfl⟩
  · show NestedKey.hash w (.num i) = hashInt i
    simp only [NestedKey.hash]
  · show NestedKey.hash w (.text x) = hashStr w x
    simp only [NestedKey.hash]
theorem key_is {P : Program} {w : World} {K : PySem.W.Frag} {H : Hp} {k : D} {v : V} {u : Value} (h : K0 k) (r : Rep w K H k v) (e : RelV v u) : (mixKind P w).is (toKey k) u = true := by
  rcases h.shape with ⟨i, rfl⟩ | ⟨x, rfl⟩
  · have e1 : v = .int i := by simpa [Rep] using r
    subst e1
    obtain ⟨t, rfl⟩ := e
    exact keyIs_int i t
  · have e1 : v = .str x := by simpa [Rep] using r
    subst e1
    obtain ⟨t, rfl⟩ := e
    exact keyIs_str x t
theorem key_back {P : Program} {w : World} {K : PySem.W.Frag} {H : Hp} {k : D} {u : Value} (h : K0 k) (e : (mixKind P w).is (toKey k) u = true) : ∃ x, RelV x u ∧ Rep w K H k x := by
  rcases h.shape with ⟨i, rfl⟩ | ⟨x, rfl⟩
  · rcases keyIs_shape (show keyIs (.inl i) u = true from e) with ⟨j, t, e1, rfl⟩ | ⟨y, t, e1, _⟩
    · cases e1; exact ⟨.int i, ⟨t, rfl⟩, by simp [Rep]⟩
    · cases e1
  · rcases keyIs_shape (show keyIs (.inr x) u = true from e) with ⟨j, t, e1, _⟩ | ⟨y, t, e1, rfl⟩
    · cases e1
    · cases e1; exact ⟨.str x, ⟨t, rfl⟩, by simp [Rep]⟩
section
variable {w : World} {K : PySem.W.Frag}
/-- a dict's values under its keys, as the library has them -/
def VsK (H : Hp) : List (D × D) → List (Key × Value) → Prop
  | [], vs => vs = []
  | (k, v) :: r, vs => ∃ u vr y, vs = (toKey k, u) :: vr ∧ RelV y u ∧ Rep w K H v y ∧ VsK H r vr
theorem VsK.mono {H H' : Hp} (s : Sub H H') : ∀ {kvs : List (D × D)} {vs : List (Key × Value)}, VsK (w := w) (K := K) H kvs vs → VsK (w := w) (K := K) H' kvs vs
  | [], _, h => h
  | (k, v) :: r, _, ⟨u, vr, y, e, h1, h2, h3⟩ => ⟨u, vr, y, e, h1, h2.mono s, h3.mono s⟩
theorem VsK.length {H : Hp} : ∀ {kvs : List (D × D)} {vs : List (Key × Value)}, VsK (w := w) (K := K) H kvs vs → vs.length = kvs.length
  | [], _, h => by
    have e : _ = [] := h
    rw [e]; rfl
  | (k, v) :: r, _, ⟨u, vr, y, e, h1, h2, h3⟩ => by rw [e]; simp [h3.length]
theorem VsK.keys {H : Hp} : ∀ {kvs : List (D × D)} {vs : List (Key × Value)}, VsK (w := w) (K := K) H kvs vs → vs.map (·.1) = kvs.map fun p => toKey p.1
  | [], _, h => by
    have e : _ = [] := h
    rw [e]; rfl
  | (k, v) :: r, _, ⟨u, vr, y, e, h1, h2, h3⟩ => by rw [e]; simp [h3.keys]
theorem nodup_keys {kvs : List (D × D)} (h0 : ∀ p ∈ kvs, K0 p.1) (nd : (kvs.map fun p => keyN p.1).Nodup) : (kvs.map fun p => toKey p.1).Nodup := by
  induction kvs with
  | nil => exact List.nodup_nil
  | cons p r ih =>
    rw [List.map_cons, List.nodup_cons] at nd ⊢
    refine ⟨fun hm => nd.1 ?_, ih (fun q hq => h0 q (List.mem_cons_of_mem _ hq)) nd.2⟩
    obtain ⟨q, hq, e⟩ := List.mem_map.mp hm
    exact List.mem_map.mpr ⟨q, hq, (toKey_eq (h0 q (List.mem_cons_of_mem _ hq)) (h0 p List.mem_cons_self)).mp e⟩
theorem from_K {P : Program} {H : Hp} : ∀ {kvs : List (D × D)} {es : List DictEntry}, RepE w K H kvs es → (∀ p ∈ kvs, K0 p.1) → ∃ vs, VsK (w := w) (K := K) H kvs vs ∧ Pairs (mixKind P w) es vs ∧ ∀ e ∈ es, ∃ k, (mixKind P w).is k e.key = true ∧ e.hash = (mixKind P w).hash k
  | [], es, h, _ => by
    simp only [RepE] at h
    subst h
    exact ⟨[], rfl, .nil, fun e he => by cases he⟩
  | (k, v) :: r, es, h, h0 => by
    simp only [RepE] at h
    obtain ⟨e, er, rfl, h1, ⟨x, hx, rx⟩, ⟨y, hy, ry⟩, h3⟩ := h
    obtain ⟨vs, a1, a2, a3⟩ := from_K (P := P) h3 fun p hp => h0 p (List.mem_cons_of_mem _ hp)
    have k0 : K0 k := h0 _ List.mem_cons_self
    refine ⟨(toKey k, e.val) :: vs, ⟨e.val, vs, y, rfl, hy, ry, a1⟩, .cons (key_is k0 rx hx) rfl a2, fun e' he => ?_⟩
    rcases List.mem_cons.mp he with rfl | he
    · exact ⟨toKey k, key_is k0 rx hx, by rw [h1, key_hash (P := P) k0]⟩
    · exact a3 e' he
theorem to_K {P : Program} {H : Hp} : ∀ {kvs : List (D × D)} {es : List DictEntry} {vs : List (Key × Value)}, VsK (w := w) (K := K) H kvs vs → (∀ p ∈ kvs, K0 p.1) → Pairs (mixKind P w) es vs → (∀ e ∈ es, ∃ k, (mixKind P w).is k e.key = true ∧ e.hash = (mixKind P w).hash k) → RepE w K H kvs es
  | [], es, vs, h, _, hp, _ => by
    have e : vs = [] := h
    subst e
    cases hp
    simp [RepE]
  | (k, v) :: r, es, vs, ⟨u, vr, y, e, h1, h2, h3⟩, h0, hp, hk => by
    subst e
    have k0 : K0 k := h0 _ List.mem_cons_self
    cases hp with
    | cons p1 p2 p3 =>
      rename_i e es'
      simp only [RepE]
      refine ⟨_, _, rfl, ?_, key_back k0 p1, ⟨y, by rw [p2]; exact h1, h2⟩, to_K h3 (fun p hp => h0 p (List.mem_cons_of_mem _ hp)) p3 fun e he => hk e (List.mem_cons_of_mem _ he)⟩
      obtain ⟨k', b1, b2⟩ := hk _ List.mem_cons_self
      rw [b2, key_hash (P := P) k0, (mixKind P w).inj _ _ _ b1 p1]
/-- what stands under a key -/
theorem val_K {H : Hp} {k : D} (hk : K0 k) : ∀ {kvs : List (D × D)} {vs : List (Key × Value)}, VsK (w := w) (K := K) H kvs vs → (∀ p ∈ kvs, K0 p.1) →
    match lookD k kvs with
    | some v => ∃ u y, valueAt vs (toKey k) = some u ∧ RelV y u ∧ Rep w K H v y
    | none => valueAt vs (toKey k) = none
  | [], vs, h, _ => by
    have e : vs = [] := h
    subst e
    rfl
  | (a, v) :: r, vs, ⟨u, vr, y, e, h1, h2, h3⟩, h0 => by
    subst e
    have ih := val_K hk h3 fun p hp => h0 p (List.mem_cons_of_mem _ hp)
    have hq := toKey_eq (h0 _ List.mem_cons_self) hk
    unfold lookD
    by_cases e : keyN a = keyN k
    · rw [if_pos e]
      have e2 : toKey a = toKey k := hq.mpr e
      exact ⟨u, y, by simp [valueAt, e2], h1, h2⟩
    · rw [if_neg e]
      have e2 : ¬ toKey a = toKey k := fun z => e (hq.mp z)
      have e3 : valueAt ((toKey a, u) :: vr) (toKey k) = valueAt vr (toKey k) := by simp [valueAt, e2]
      rw [e3]
      exact ih
theorem map_id_of {κ : Type} [DecidableEq κ] {vs : List (κ × Value)} {k : κ} {u : Value} (h : k ∉ vs.map (·.1)) : (vs.map fun kv => if kv.1 = k then (kv.1, u) else kv) = vs := by
  induction vs with
  | nil => rfl
  | cons p r ih =>
    simp only [List.map_cons, List.mem_cons, not_or] at h ⊢
    rw [if_neg (fun e => h.1 e.symm), ih h.2]
theorem stored_K {H : Hp} {k v : D} {y : V} {u : Value} (hk : K0 k) (hr : RelV y u) (hv : Rep w K H v y) : ∀ {kvs : List (D × D)} {vs : List (Key × Value)}, VsK (w := w) (K := K) H kvs vs → (∀ p ∈ kvs, K0 p.1) → (kvs.map fun p => keyN p.1).Nodup → VsK (w := w) (K := K) H (putD k v kvs) (stored vs (toKey k) u)
  | [], vs, h, _, _ => by
    have e : vs = [] := h
    subst e
    exact ⟨u, [], y, rfl, hr, hv, rfl⟩
  | (a, b) :: r, vs, ⟨u', vr, y', e, h1, h2, h3⟩, h0, nd => by
    subst e
    have hq := toKey_eq (h0 _ List.mem_cons_self) hk
    have h0' : ∀ p ∈ r, K0 p.1 := fun p hp => h0 p (List.mem_cons_of_mem _ hp)
    have nd' := nd
    rw [List.map_cons, List.nodup_cons] at nd'
    unfold putD
    by_cases e : keyN a = keyN k
    · rw [if_pos e]
      have e2 : toKey a = toKey k := hq.mpr e
      have hn : toKey k ∉ vr.map (·.1) := by
        rw [h3.keys]
        intro hm
        obtain ⟨q, hq', e3⟩ := List.mem_map.mp hm
        exact nd'.1 (List.mem_map.mpr ⟨q, hq', by rw [e]; exact (toKey_eq (h0' q hq') hk).mp e3⟩)
      have e3 : stored ((toKey a, u') :: vr) (toKey k) u = (toKey a, u) :: vr := by
        unfold stored
        rw [if_pos (by simp [e2])]
        rw [List.map_cons, if_pos e2, map_id_of hn]
      rw [e3]
      exact ⟨u, vr, y, rfl, hr, hv, h3⟩
    · rw [if_neg e]
      have e2 : ¬ toKey a = toKey k := fun z => e (hq.mp z)
      have e3 : stored ((toKey a, u') :: vr) (toKey k) u = (toKey a, u') :: stored vr (toKey k) u := by
        unfold stored
        by_cases ha : (vr.any fun kv => decide (kv.1 = toKey k)) = true
        · rw [if_pos (by simp [e2]; simpa using ha), if_pos ha, List.map_cons, if_neg e2]
        · rw [if_neg (by simp [e2]; simpa using ha), if_neg ha]; rfl
      rw [e3]
      exact ⟨u', _, y', rfl, h1, h2, stored_K hk hr hv h3 h0' nd'.2⟩
/-! ### of any keys -/
theorem putD_keys {k v : D} : ∀ {kvs : List (D × D)}, (∀ p ∈ putD k v kvs, p.1 = k ∨ ∃ q ∈ kvs, q.1 = p.1)
  | [], p, h => by
    have e : p = (k, v) := by simpa [putD] using h
    exact .inl (by rw [e])
  | (a, b) :: r, p, h => by
    unfold putD at h
    split at h
    · rcases List.mem_cons.mp h with e | h
      · exact .inr ⟨(a, b), List.mem_cons_self, by rw [e]⟩
      · exact .inr ⟨p, List.mem_cons_of_mem _ h, rfl⟩
    · rcases List.mem_cons.mp h with e | h
      · exact .inr ⟨(a, b), List.mem_cons_self, by rw [e]⟩
      · rcases putD_keys p h with e | ⟨q, hq, e⟩
        · exact .inl e
        · exact .inr ⟨q, List.mem_cons_of_mem _ hq, e⟩
theorem putD_nodup {k v : D} : ∀ {kvs : List (D × D)}, (kvs.map fun p => keyN p.1).Nodup → ((putD k v kvs).map fun p => keyN p.1).Nodup
  | [], _ => by simp [putD]
  | (a, b) :: r, nd => by
    unfold putD
    rw [List.map_cons, List.nodup_cons] at nd
    split
    · rw [List.map_cons, List.nodup_cons]; exact nd
    · rename_i e
      rw [List.map_cons, List.nodup_cons]
      refine ⟨fun hm => ?_, putD_nodup nd.2⟩
      obtain ⟨q, hq, e1⟩ := List.mem_map.mp hm
      rcases putD_keys q hq with e2 | ⟨q', hq', e2⟩
      · rw [e2] at e1; exact e e1.symm
      · exact nd.1 (List.mem_map.mpr ⟨q', hq', by rw [e2]; exact e1⟩)
theorem putD_length {k v : D} : ∀ {kvs : List (D × D)}, (putD k v kvs).length ≤ kvs.length + 1
  | [] => by simp [putD]
  | (a, b) :: r => by
    unfold putD
    split
    · simp
    · have := putD_length (k := k) (v := v) (kvs := r)
      simp only [List.length_cons]
      omega
/-! ### keys that are tuples -/
/-- a dict's entries, as the library has them -/
def XsH (H : Hp) : List (D × D) → List (NestedKey × Addr × Value) → Prop
  | [], xs => xs = []
  | (k, v) :: r, xs => ∃ b u xr y, xs = (keyN k, b, u) :: xr ∧ Rep w K H k (.ref b) ∧ RelV y u ∧ Rep w K H v y ∧ XsH H r xr
theorem XsH.mono {H H' : Hp} (s : Sub H H') : ∀ {kvs : List (D × D)} {xs : List (NestedKey × Addr × Value)}, XsH (w := w) (K := K) H kvs xs → XsH (w := w) (K := K) H' kvs xs
  | [], _, h => h
  | (k, v) :: r, _, ⟨b, u, xr, y, e, h0, h1, h2, h3⟩ => ⟨b, u, xr, y, e, h0.mono s, h1, h2.mono s, h3.mono s⟩
theorem XsH.length {H : Hp} : ∀ {kvs : List (D × D)} {xs : List (NestedKey × Addr × Value)}, XsH (w := w) (K := K) H kvs xs → xs.length = kvs.length
  | [], _, h => by
    have e : _ = [] := h
    rw [e]; rfl
  | (k, v) :: r, _, ⟨b, u, xr, y, e, h0, h1, h2, h3⟩ => by rw [e]; simp [h3.length]
theorem XsH.keys {H : Hp} : ∀ {kvs : List (D × D)} {xs : List (NestedKey × Addr × Value)}, XsH (w := w) (K := K) H kvs xs → xs.map (·.1) = kvs.map fun p => keyN p.1
  | [], _, h => by
    have e : _ = [] := h
    rw [e]; rfl
  | (k, v) :: r, _, ⟨b, u, xr, y, e, h0, h1, h2, h3⟩ => by rw [e]; simp [h3.keys]
theorem K1.shape {k : D} (h : K1 k) : ∃ ds, k = .tuple ds ∧ keysD 7 ds = true := by
  cases k with
  | tuple ds =>
    unfold K1 at h
    simp only [keyK] at h
    split at h
    · rename_i e; exact ⟨ds, rfl, e⟩
    · simp at h
  | _ => cases h
theorem from_H {P : Program} {H : Hp} : ∀ {kvs : List (D × D)} {es : List DictEntry}, RepE w K H kvs es → (∀ p ∈ kvs, K1 p.1) → ∃ xs, XsH (w := w) (K := K) H kvs xs ∧ es = xs.map (entryOfKey (nestedKind P w))
  | [], es, h, _ => by
    simp only [RepE] at h
    subst h
    exact ⟨[], rfl, rfl⟩
  | (k, v) :: r, es, h, h0 => by
    simp only [RepE] at h
    obtain ⟨e, er, rfl, h1, ⟨x, hx, rx⟩, ⟨y, hy, ry⟩, h3⟩ := h
    obtain ⟨xs, a1, a2⟩ := from_H (P := P) h3 fun p hp => h0 p (List.mem_cons_of_mem _ hp)
    obtain ⟨ds, rfl, _⟩ := (h0 _ List.mem_cons_self : K1 k).shape
    obtain ⟨b, zs, rfl, q1, q2⟩ : ∃ b zs, x = .ref b ∧ SqT K H b zs ∧ Reps w K H ds zs := by simpa [Rep] using rx
    obtain ⟨eh, ek, ev⟩ := e
    cases (show ek = Value.ref b from hx)
    refine ⟨(keyN (.tuple ds), b, ev) :: xs, ⟨b, ev, xs, y, rfl, rx, hy, ry, a1⟩, ?_⟩
    rw [List.map_cons, ← a2]
    unfold entryOfKey
    simp only at h1
    rw [h1]
    rfl
theorem to_H {P : Program} {H : Hp} : ∀ {kvs : List (D × D)} {xs : List (NestedKey × Addr × Value)}, XsH (w := w) (K := K) H kvs xs → RepE w K H kvs (xs.map (entryOfKey (nestedKind P w)))
  | [], xs, h => by
    have e : xs = [] := h
    subst e
    simp [RepE]
  | (k, v) :: r, xs, ⟨b, u, xr, y, e, h0, h1, h2, h3⟩ => by
    subst e
    rw [List.map_cons]
    simp only [RepE]
    exact ⟨_, _, rfl, rfl, ⟨.ref b, rfl, h0⟩, ⟨y, h1, h2⟩, to_H h3⟩
theorem val_H {H : Hp} {k : D} : ∀ {kvs : List (D × D)} {xs : List (NestedKey × Addr × Value)}, XsH (w := w) (K := K) H kvs xs →
    match lookD k kvs with
    | some v => ∃ b u y, atKey xs (keyN k) = some (b, u) ∧ RelV y u ∧ Rep w K H v y
    | none => atKey xs (keyN k) = none
  | [], xs, h => by
    have e : xs = [] := h
    subst e
    rfl
  | (a, v) :: r, xs, ⟨b, u, xr, y, e, h0, h1, h2, h3⟩ => by
    subst e
    have ih := val_H (k := k) h3
    unfold lookD
    by_cases e : keyN a = keyN k
    · rw [if_pos e]
      exact ⟨b, u, y, by simp [atKey, e], h1, h2⟩
    · rw [if_neg e]
      have e3 : atKey ((keyN a, b, u) :: xr) (keyN k) = atKey xr (keyN k) := by simp [atKey, e]
      rw [e3]
      exact ih
theorem put_id {xs : List (NestedKey × Addr × Value)} {k : NestedKey} {u : Value} (h : k ∉ xs.map (·.1)) : xs.map (putAt k u) = xs := by
  induction xs with
  | nil => rfl
  | cons p r ih =>
    simp only [List.map_cons, List.mem_cons, not_or] at h ⊢
    rw [ih h.2]
    unfold putAt
    rw [if_neg (fun e => h.1 e.symm)]
theorem stored_H {H : Hp} {k v : D} {b : Addr} {y : V} {u : Value} (hkr : Rep w K H k (.ref b)) (hr : RelV y u) (hv : Rep w K H v y) : ∀ {kvs : List (D × D)} {xs : List (NestedKey × Addr × Value)}, XsH (w := w) (K := K) H kvs xs → (kvs.map fun p => keyN p.1).Nodup → XsH (w := w) (K := K) H (putD k v kvs) (storedH xs (keyN k) b u)
  | [], xs, h, _ => by
    have e : xs = [] := h
    subst e
    exact ⟨b, u, [], y, rfl, hkr, hr, hv, rfl⟩
  | (a, c) :: r, xs, ⟨b', u', xr, y', e, h0, h1, h2, h3⟩, nd => by
    subst e
    rw [List.map_cons, List.nodup_cons] at nd
    unfold putD
    by_cases e : keyN a = keyN k
    · rw [if_pos e]
      have hn : keyN k ∉ xr.map (·.1) := by
        rw [h3.keys]
        intro hm
        obtain ⟨q, hq', e3⟩ := List.mem_map.mp hm
        exact nd.1 (List.mem_map.mpr ⟨q, hq', by rw [e]; exact e3⟩)
      have e3 : storedH ((keyN a, b', u') :: xr) (keyN k) b u = (keyN a, b', u) :: xr := by
        unfold storedH
        rw [if_pos (by simp [atKey, e]), List.map_cons, put_id hn]
        unfold putAt
        rw [if_pos e]
      rw [e3]
      exact ⟨b', u, xr, y, rfl, h0, hr, hv, h3⟩
    · rw [if_neg e]
      have e2 : atKey ((keyN a, b', u') :: xr) (keyN k) = atKey xr (keyN k) := by simp [atKey, e]
      have e3 : storedH ((keyN a, b', u') :: xr) (keyN k) b u = (keyN a, b', u') :: storedH xr (keyN k) b u := by
        unfold storedH
        rw [e2]
        by_cases ha : (atKey xr (keyN k)).isSome = true
        · rw [if_pos ha, if_pos ha, List.map_cons]
          congr 1
          unfold putAt
          rw [if_neg e]
        · rw [if_neg ha, if_neg ha]; rfl
      rw [e3]
      exact ⟨b', u', _, y', rfl, h0, h1, h2, stored_H hkr hr hv h3 nd.2⟩
end
/-! ### a tuple as a key -/
section
variable {X : Cx} {pins : List (Addr × Obj)} {σ : L2.St} {Hf H : Hp} {s : Shared}
mutual
theorem nested_of (I : Inv X pins σ H s) (sb : Sub Hf H) : ∀ {n : Nat} {d : D} {v : V} {u : Value}, keyD n d = true → Rep X.w X.K Hf d v → RelV v u → NestedIs s.heap (keyN d) u ∧ (keyN d).depth ≤ n
  | n, .none, v, u, _, r, e => by
    have e1 : v = .non := by simpa [Rep] using r
    subst e1
    cases e
    exact ⟨by simp only [keyN]; exact .none, by simp [keyN, NestedKey.depth]⟩
  | n, .int i, v, u, _, r, e => by
    have e1 : v = .int i := by simpa [Rep] using r
    subst e1
    obtain ⟨t, rfl⟩ := e
    exact ⟨by simp only [keyN]; exact .int i t, by simp [keyN, NestedKey.depth]⟩
  | n, .str x, v, u, _, r, e => by
    have e1 : v = .str x := by simpa [Rep] using r
    subst e1
    obtain ⟨t, rfl⟩ := e
    exact ⟨by simp only [keyN]; exact .text x t, by simp [keyN, NestedKey.depth]⟩
  | 0, .tuple ds, v, u, k, _, _ => by simp [keyD] at k
  | n + 1, .tuple ds, v, u, k, r, e => by
    obtain ⟨a, xs, rfl, q, rs⟩ : ∃ a xs, v = .ref a ∧ SqT X.K Hf a xs ∧ Reps X.w X.K Hf ds xs := by simpa [Rep] using r
    cases (show u = Value.ref a from e)
    obtain ⟨its, rv, ⟨o, ho, hc, m, hd⟩, _⟩ := I.tuple (sub_t sb q)
    obtain ⟨h1, h2⟩ := nesteds_of I sb (by simpa [keyD] using k) rs rv
    refine ⟨by simp only [keyN]; exact .tup ho hc hd (by simpa using h1), ?_⟩
    simp only [keyN, NestedKey.depth]
    omega
  | n, .bool _, _, _, k, _, _ => by cases n <;> simp [keyD] at k
  | n, .list _, _, _, k, _, _ => by cases n <;> simp [keyD] at k
  | n, .dict _, _, _, k, _, _ => by cases n <;> simp [keyD] at k
theorem nesteds_of (I : Inv X pins σ H s) (sb : Sub Hf H) : ∀ {n : Nat} {ds : List D} {vs : List V} {us : List Value}, keysD n ds = true → Reps X.w X.K Hf ds vs → Vals vs us → NestedAll s.heap (keyNs ds) us ∧ NestedKey.depthAll (keyNs ds) ≤ n
  | n, [], vs, us, _, r, e => by
    simp only [Reps] at r
    subst r
    cases e
    exact ⟨by simp only [keyNs]; exact .nil, by simp [keyNs, NestedKey.depthAll]⟩
  | n, d :: ds, vs, us, k, r, e => by
    simp only [Reps] at r
    obtain ⟨v, vr, rfl, r1, r2⟩ := r
    have k' : keyD n d = true ∧ keysD n ds = true := by simpa [keysD] using k
    cases e with
    | cons e1 e2 =>
      obtain ⟨a1, a2⟩ := nested_of I sb k'.1 r1 e1
      obtain ⟨b1, b2⟩ := nesteds_of I sb k'.2 r2 e2
      refine ⟨by simp only [keyNs]; exact .cons a1 b1, ?_⟩
      simp only [keyNs, NestedKey.depthAll]
      omega
end
theorem key_at (I : Inv X pins σ H s) (sb : Sub Hf H) {k : D} {b : Addr} (h : K1 k) (r : Rep X.w X.K Hf k (.ref b)) : (nestedKind X.prog X.w).is s.heap (keyN k) b := by
  obtain ⟨ds, rfl, hd⟩ := h.shape
  exact nested_of (n := 8) I sb (by simpa [keyD] using hd) r rfl
/-- the library's dict of ints and texts -/
theorem dict_K (I : Inv X pins σ H s) {a : Addr} {es : List DictEntry} {ep : Nat} {kvs : List (D × D)} (h : H a = some (DO a es.toArray ep)) (r : RepE X.w X.K Hf kvs es) (h0 : ∀ p ∈ kvs, K0 p.1) (nd : (kvs.map fun p => keyN p.1).Nodup) :
    ∃ vs, VsK (w := X.w) (K := X.K) Hf kvs vs ∧ s.heap.DictOf (mixKind X.prog X.w) a vs := by
  obtain ⟨vs, a1, a2, a3⟩ := from_K (P := X.prog) r h0
  obtain ⟨o, ho, hc, hd⟩ := do_raw I h
  refine ⟨vs, a1, o, es.toArray, ep, ho, hc, hd, fun e he => a3 e (by simpa using he), by simpa using a2, ?_⟩
  rw [a1.keys]
  exact nodup_keys h0 nd
/-- the library's dict of tuples -/
theorem dict_H (I : Inv X pins σ H s) (sb : Sub Hf H) {a : Addr} {es : List DictEntry} {ep : Nat} {kvs : List (D × D)} (h : H a = some (DO a es.toArray ep)) (r : RepE X.w X.K Hf kvs es) (h0 : ∀ p ∈ kvs, K1 p.1) (nd : (kvs.map fun p => keyN p.1).Nodup) :
    ∃ xs, XsH (w := X.w) (K := X.K) Hf kvs xs ∧ s.heap.DictOfH (nestedKind X.prog X.w) a xs := by
  obtain ⟨xs, a1, a2⟩ := from_H (P := X.prog) r h0
  obtain ⟨o, ho, hc, hd⟩ := do_raw I h
  refine ⟨xs, a1, o, es.toArray, ep, ho, hc, hd, by simpa using a2, ?_, by rw [a1.keys]; exact nd⟩
  have : ∀ (kvs : List (D × D)) (xs : List (NestedKey × Addr × Value)), (∀ p ∈ kvs, K1 p.1) → XsH (w := X.w) (K := X.K) Hf kvs xs → ∀ x ∈ xs, (nestedKind X.prog X.w).is s.heap x.1 x.2.1 := by
    intro kvs
    induction kvs with
    | nil =>
      intro xs _ q x hx
      have e : xs = [] := q
      subst e
      cases hx
    | cons p r ih =>
      intro xs h1 q x hx
      obtain ⟨b, u, xr, y, e, q0, q1, q2, q3⟩ := q
      subst e
      rcases List.mem_cons.mp hx with e | hx
      · rw [e]
        exact key_at I sb (h1 p List.mem_cons_self) q0
      · exact ih xr (fun q hq => h1 q (List.mem_cons_of_mem _ hq)) q3 x hx
  exact this kvs xs h0 a1
end
end Ev
end
section
set_option maxRecDepth 100000
set_option maxHeartbeats 2000000
/-! A comprehension of a dict. -/
namespace Ev
open PySem PySem.Spec PyProof.Rows L2
section
variable {w : World} {K : PySem.W.Frag}
/-- pairs as a dict's keys and values -/
def VsV (w : World) (K : PySem.W.Frag) (H : Hp) : List (D × D) → List (Key × V) → Prop
  | [], vs => vs = []
  | (k, v) :: r, vs => ∃ y vr, vs = (toKey k, y) :: vr ∧ Rep w K H v y ∧ VsV w K H r vr
theorem VsV.mono {H H' : Hp} (s : Sub H H') : ∀ {kvs : List (D × D)} {vs : List (Key × V)}, VsV w K H kvs vs → VsV w K H' kvs vs
  | [], _, h => h
  | (k, v) :: r, _, ⟨y, vr, e, h2, h3⟩ => ⟨y, vr, e, h2.mono s, h3.mono s⟩
theorem VsV.length {H : Hp} : ∀ {kvs : List (D × D)} {vs : List (Key × V)}, VsV w K H kvs vs → vs.length = kvs.length
  | [], _, h => by
    have e : _ = [] := h
    rw [e]; rfl
  | (k, v) :: r, _, ⟨y, vr, e, h2, h3⟩ => by rw [e]; simp [h3.length]
theorem VsV.keys {H : Hp} : ∀ {kvs : List (D × D)} {vs : List (Key × V)}, VsV w K H kvs vs → vs.map (·.1) = kvs.map fun p => toKey p.1
  | [], _, h => by
    have e : _ = [] := h
    rw [e]; rfl
  | (k, v) :: r, _, ⟨y, vr, e, h2, h3⟩ => by rw [e]; simp [h3.keys]
theorem VsV.toK {H : Hp} : ∀ {kvs : List (D × D)} {ks : List (Key × V)} {vs : List (Key × Value)}, VsV w K H kvs ks → KV ks vs → VsK (w := w) (K := K) H kvs vs
  | [], _, vs, h, kv => by
    have e : _ = [] := h
    subst e
    cases kv
    rfl
  | (k, v) :: r, _, vs, ⟨y, vr, e, h2, h3⟩, kv => by
    subst e
    cases kv with
    | @cons a b la lb h ht =>
      obtain ⟨b1, b2⟩ := b
      obtain ⟨e1, e2⟩ := h
      have e1' : toKey k = b1 := e1
      subst e1'
      exact ⟨b2, lb, y, rfl, e2, h2, VsV.toK h3 ht⟩
theorem map_idV {vs : List (Key × V)} {k : Key} {u : V} (h : k ∉ vs.map (·.1)) : (vs.map fun kv => if kv.1 = k then (kv.1, u) else kv) = vs := by
  induction vs with
  | nil => rfl
  | cons p r ih =>
    simp only [List.map_cons, List.mem_cons, not_or] at h ⊢
    rw [if_neg (fun e => h.1 e.symm), ih h.2]
theorem put_V {H : Hp} {k v : D} {y : V} (hk : K0 k) (hv : Rep w K H v y) : ∀ {kvs : List (D × D)} {vs : List (Key × V)}, VsV w K H kvs vs → (∀ p ∈ kvs, K0 p.1) → (kvs.map fun p => keyN p.1).Nodup → VsV w K H (putD k v kvs) (putK vs (toKey k) y)
  | [], vs, h, _, _ => by
    have e : vs = [] := h
    subst e
    exact ⟨y, [], rfl, hv, rfl⟩
  | (a, b) :: r, vs, ⟨y', vr, e, h2, h3⟩, h0, nd => by
    subst e
    have hq := toKey_eq (h0 _ List.mem_cons_self) hk
    have h0' : ∀ p ∈ r, K0 p.1 := fun p hp => h0 p (List.mem_cons_of_mem _ hp)
    have nd' := nd
    rw [List.map_cons, List.nodup_cons] at nd'
    unfold putD
    by_cases e : keyN a = keyN k
    · rw [if_pos e]
      have e2 : toKey a = toKey k := hq.mpr e
      have hn : toKey k ∉ vr.map (·.1) := by
        rw [h3.keys]
        intro hm
        obtain ⟨q, hq', e3⟩ := List.mem_map.mp hm
        exact nd'.1 (List.mem_map.mpr ⟨q, hq', by rw [e]; exact (toKey_eq (h0' q hq') hk).mp e3⟩)
      have e3 : putK ((toKey a, y') :: vr) (toKey k) y = (toKey a, y) :: vr := by
        unfold putK
        rw [if_pos (by simp [e2])]
        rw [List.map_cons, if_pos e2, map_idV hn]
      rw [e3]
      exact ⟨y, vr, rfl, hv, h3⟩
    · rw [if_neg e]
      have e2 : ¬ toKey a = toKey k := fun z => e (hq.mp z)
      have e3 : putK ((toKey a, y') :: vr) (toKey k) y = (toKey a, y') :: putK vr (toKey k) y := by
        unfold putK
        by_cases ha : (vr.any fun kv => decide (kv.1 = toKey k)) = true
        · rw [if_pos (by simp [e2]; simpa using ha), if_pos ha, List.map_cons, if_neg e2]
        · rw [if_neg (by simp [e2]; simpa using ha), if_neg ha]; rfl
      rw [e3]
      exact ⟨y', _, rfl, h2, put_V hk hv h3 h0' nd'.2⟩
theorem kV_rep {H : Hp} {k : D} {y : V} (hk : K0 k) (h : Rep w K H k y) : y = kV (toKey k) := by
  rcases hk.shape with ⟨i, rfl⟩ | ⟨x, rfl⟩
  · have e : y = .int i := by simpa [Rep] using h
    rw [e]; rfl
  · have e : y = .str x := by simpa [Rep] using h
    rw [e]; rfl
end
theorem putAll_app : ∀ {ps acc : List (D × D)} {k v : D}, putAll acc (ps ++ [(k, v)]) = putD k v (putAll acc ps)
  | [], acc, k, v => rfl
  | (a, b) :: r, acc, k, v => putAll_app (ps := r)
theorem pairsD_cons {x : D} {xs : List D} {ps : List (D × D)} (h : pairsD (x :: xs) = some ps) : ∃ a b r, x = .tuple [a, b] ∧ pairsD xs = some r ∧ ps = (a, b) :: r := by
  cases x with
  | tuple zs =>
    cases zs with
    | nil => cases h
    | cons a zs =>
      cases zs with
      | nil => cases h
      | cons b zs =>
        cases zs with
        | cons _ _ => cases h
        | nil =>
          obtain ⟨r, e1, e2⟩ := Option.map_eq_some_iff.mp h
          exact ⟨a, b, r, rfl, e1, e2.symm⟩
  | _ => cases h
end Ev
end
section
set_option maxRecDepth 100000
set_option maxHeartbeats 2000000
/-! A comprehension of a dict: its loop. -/
namespace Ev
open PySem PySem.Spec PyProof.Rows L2
theorem putAll_ndp : ∀ {ps acc : List (D × D)}, (acc.map fun p => keyN p.1).Nodup → ((putAll acc ps).map fun p => keyN p.1).Nodup
  | [], _, h => h
  | (k, v) :: r, _, h => putAll_ndp (ps := r) (putD_nodup h)
theorem putAll_len0 : ∀ {ps acc : List (D × D)}, (putAll acc ps).length ≤ acc.length + ps.length
  | [], acc => by simp [putAll]
  | (k, v) :: r, acc => by
    have h1 := putAll_len0 (ps := r) (acc := putD k v acc)
    have h2 := putD_length (k := k) (v := v) (kvs := acc)
    simp only [putAll, List.length_cons]
    omega
theorem putAll_K : ∀ {ps acc : List (D × D)}, (∀ p ∈ ps, K0 p.1) → (∀ p ∈ acc, K0 p.1) → ∀ p ∈ putAll acc ps, K0 p.1
  | [], _, _, h => h
  | (k, v) :: r, acc, h, h2 => putAll_K (ps := r) (fun p hp => h p (List.mem_cons_of_mem _ hp)) fun p hp => by
    rcases putD_keys p hp with e | ⟨q, hq, e⟩
    · rw [e]; exact h _ List.mem_cons_self
    · rw [← e]; exact h2 q hq
section
variable {w : World} {K : PySem.W.Frag} {Hf H Hf2 H2 : Hp} {ρ ρ2 ρe : Env} {σ : L2.St} {own : List Nat}
/-- the whole comprehension of a dict, behind its iterator -/
theorem dcomp_loop {tg : Tg} {ft : Env → M (Bool × Env)} {fk fe : Env → M (Sl × Env)} {ds ys : List D} {ps : List (D × D)} {J : It} {L : Addr} {Qd : Hp → Prop}
    (S : Slots w K Hf2 H2 ρ2 σ) (hJ : ItR w K Hf2 ds J) (hL : H2 L = none) (hin : ∀ i ∈ tgIx tg, i ∈ own) (hc : clp (dcTurn tg own ft fk fe) ds ρ2 = some (.ok (ys, ρe))) (hp : pairsD ys = some ps) (h0 : ∀ p ∈ ps, K0 p.1) (hz : ps.length ≤ sizeLine)
    (q : ∀ Hf' H' xs, Post w K Hf2 H2 ρ2 Hf' H' (backE ρ2 ρe own) σ → Hf' L = none → H' L = some (.dK xs) → VsV w K Hf' (putAll [] ps) xs → Qd H') :
    ∃ W : Nat → Nat → Hp → Prop, (∃ m, W 0 m (upd H2 L (.dK []))) ∧ ∀ i m H, W i m H →
      (J.stop i H ∧ Qd H) ∨ (J.go i H ∧ ∃ Nx : Hp → Prop, (∀ H', Nx H' → ∃ m', m' < m ∧ W (i + 1) m' H') ∧ ∀ x H', J.yld i H x H' → gD K tg x (L2.wipe σ own) H' fun σ2 H2 => L2.wipe σ2 own = L2.wipe σ own ∧ tBG (α := Unit) w K WF ft σ2 H2 fun b H3 =>
        if b = true then tD w K WF fk σ2 H3 fun y H4 => tD w K WF fe σ2 H4 fun z H5 => ∃ kvs k, y = kV k ∧ H5 L = some (.dK kvs) ∧ kvs.length < sizeLine ∧ Nx (upd H5 L (.dK (putK kvs k z))) else Nx H3) := by
  have hL2 : Hf2 L = none := S.sub.none hL
  -- the invariant
  let St (i : Nat) (H : Hp) : Prop := ∃ Hfi ρi acc yd yr, i ≤ ds.length ∧ Slots w K Hfi H (wipeE ρi own) (L2.wipe σ own) ∧ Step (OwnSet (wipeE ρ2 own) (L2.wipe σ own)) Hf2 H2 Hfi H ∧ Hfi L = none ∧
    OwnIx (wipeE ρi own) (wipeE ρ2 own) ∧ H L = some (.dK acc) ∧ VsV w K Hfi (putAll [] yd) acc ∧ yd.length ≤ i ∧ clp (dcTurn tg own ft fk fe) (ds.drop i) ρi = some (.ok (yr, ρe)) ∧ ∃ pr, pairsD yr = some pr ∧ ps = yd ++ pr
  have notL : ∀ a, OwnSet (wipeE ρ2 own) (L2.wipe σ own) a → a ≠ L := fun a h e => by
    obtain ⟨i, l, d, _, e1, e2⟩ := OwnSet.wipe h
    obtain ⟨_, o, e3⟩ := S.ownThere ⟨i, l, d, e1, e2⟩
    rw [e, hL] at e3; cases e3
  refine ⟨fun i m H => m = ds.length - i ∧ St i H, ⟨ds.length, by simp, Hf2, ρ2, [], [], ys, Nat.zero_le _, ?_, Step.new hL, hL2, fun _ _ d h => ⟨d, h⟩, upd_same, rfl, Nat.le_refl _, by simpa using hc, ps, hp, by simp⟩, ?_⟩
  · exact (S.wipe own).step (M := fun _ => False) (Step.new hL) (S.sub.trans (Sub.new hL)) fun _ _ z => z
  rintro i m H ⟨rfl, Hfi, ρi, acc, yd, yr, hi, Si, st, hfL, ow, hHL, rp, hy, hcl, pr, hpr, hys⟩
  by_cases hlt : i < ds.length
  · refine .inr ⟨hJ.go i Hfi H st.sub Si.sub hlt, St (i + 1), fun H' h => ⟨ds.length - (i + 1), by omega, rfl, h⟩, fun x H' y => ?_⟩
    obtain ⟨d, hd⟩ : ∃ d, ds[i]? = some d := ⟨_, List.getElem?_eq_getElem hlt⟩
    obtain ⟨Hf3, sb3, st3, rx⟩ := hJ.yld i Hfi H x H' d st.sub Si.sub hd y
    rw [List.drop_eq_getElem_cons hlt] at hcl
    have hd' : ds[i] = d := by
      rw [List.getElem?_eq_getElem hlt] at hd
      exact Option.some.inj hd
    rw [hd'] at hcl
    unfold clp at hcl
    obtain ⟨⟨o, ρ'⟩, hturn, hcl⟩ := bd_ok hcl
    obtain ⟨⟨yr', ρe'⟩, hrest, hcl⟩ := bd_ok hcl
    cases hcl
    unfold dcTurn at hturn
    obtain ⟨ρt, htg, hturn⟩ := bd_ok hturn
    obtain ⟨⟨b, ρb⟩, htest, hturn⟩ := bd_ok hturn
    have S3 : Slots w K Hf3 H' (wipeE ρi own) (L2.wipe σ own) := Si.step st3 sb3 fun _ _ z => z
    refine tgS_ok S3 rx (opt_ok htg) fun σt St' owt same hlen => ⟨?_, ?_⟩
    · refine wipe_ext (by rw [hlen, wipe_length]) fun j hj => (same j fun z => hj (hin j z)).1
    have ew : L2.wipe σt own = L2.wipe σ own := wipe_ext (by rw [hlen, wipe_length]) fun j hj => (same j fun z => hj (hin j z)).1
    -- all that is kept up to here
    have st' : Step (OwnSet (wipeE ρ2 own) (L2.wipe σ own)) Hf2 H2 Hf3 H' := st.trans st3 fun _ z => z.elim
    have hH'L : H' L = some (.dK acc) := st3.keep L _ hHL fun z => z
    have hf3L : Hf3 L = none := st3.cap L _ hHL (fun z => z) hfL
    have rp3 : VsV w K Hf3 (putAll [] yd) acc := rp.mono st3.sub
    refine ⟨Hf3, ρt, St', ?_⟩
    rw [htest]
    intro Hf4 H4 P4
    have ow4L : ∀ l a, OwnL l ρt σt a → OwnL l (wipeE ρ2 own) (L2.wipe σ own) a := fun l a ⟨j, d, e1, e2⟩ => by
      obtain ⟨k1, k2⟩ := owt j l d e1
      rw [k2] at e2
      exact ow.l l a ⟨j, d, k1, e2⟩
    have ix4 : ∀ i l d', i ∉ own → ρt[i]? = some (some (Sl.own l d')) → ∃ d, (wipeE ρ2 own)[i]? = some (some (Sl.own l d)) := fun i l d' hi e => ow i l d' (by rw [← (same i fun z => hi (hin i z)).2]; exact e)
    have ow4 := ownS_of ow4L
    have nL4 : ¬ OwnSet ρt σt L := fun h => notL L (ow4 L h) rfl
    have hH4L : H4 L = some (.dK acc) := P4.step.keep L _ hH'L nL4
    have hf4L : Hf4 L = none := P4.step.cap L _ hH'L nL4 hf3L
    have st4 : Step (OwnSet (wipeE ρ2 own) (L2.wipe σ own)) Hf2 H2 Hf4 H4 := st'.trans P4.step fun a h => .inl (ow4 a h)
    -- the next turn's state
    have next : ∀ {Hf5 H5 : Hp} {ρ5 : Env} {acc' : List (Key × V)} {yd' pr' : List (D × D)}, Slots w K Hf5 H5 ρ5 σt → Step (OwnSet (wipeE ρ2 own) (L2.wipe σ own)) Hf2 H2 Hf5 H5 → OwnIx ρ5 ρt →
        Hf5 L = none → H5 L = some (.dK acc') → VsV w K Hf5 (putAll [] yd') acc' → yd'.length ≤ i + 1 → clp (dcTurn tg own ft fk fe) (ds.drop (i + 1)) ρ5 = some (.ok (yr', ρe')) → pairsD yr' = some pr' → ps = yd' ++ pr' → St (i + 1) H5 :=
      fun {Hf5 H5 ρ5 acc' yd' pr'} s5 t5 o5 f5 h5 r5 l5 c5 e5' e5 => ⟨Hf5, ρ5, acc', yd', yr', hlt, by rw [← ew]; exact s5.wipe own, t5, f5, fun j l d h => by
        obtain ⟨hj, k1⟩ := wipeE_own h
        obtain ⟨d1, k2⟩ := o5 j l d k1
        exact ix4 j l d1 hj k2, h5, r5, l5, c5, _, e5', e5⟩
    have hps : ∀ p ∈ yd, K0 p.1 := fun p hq => h0 p (by rw [hys]; exact List.mem_append_left _ hq)
    have nd : ((putAll [] yd).map fun p => keyN p.1).Nodup := putAll_ndp List.nodup_nil
    cases b with
    | false =>
      simp only [Bool.false_eq_true, if_false] at hturn
      cases hturn
      rw [if_neg Bool.false_ne_true]
      exact next P4.slots st4 P4.own hf4L hH4L (rp3.mono P4.step.sub) (by omega) hrest hpr hys
    | true =>
      rw [if_pos rfl] at hturn ⊢
      obtain ⟨⟨r1, ρk⟩, hk1, hturn⟩ := bd_ok hturn
      obtain ⟨⟨r2, ρq⟩, hk2, hturn⟩ := bd_ok hturn
      cases hturn
      obtain ⟨a1, b1, pr1, e1, e2, e3⟩ := pairsD_cons hpr
      cases e1
      subst e3
      refine ⟨Hf4, ρb, P4.slots, ?_⟩
      rw [hk1]
      intro y Hfk Hk Pk Rk
      refine ⟨Hfk, ρk, Pk.slots, ?_⟩
      rw [hk2]
      intro z Hf6 H5 Pz Rz
      have P6 := Post.trans P4.slots Pk Pz
      have ow5L : ∀ l a, OwnL l ρb σt a → OwnL l (wipeE ρ2 own) (L2.wipe σ own) a := fun l a h => ow4L l a (P4.own.l l a h)
      have ow5 := ownS_of ow5L
      have nL5 : ¬ OwnSet ρb σt L := fun h => notL L (ow5 L h) rfl
      have hH5L : H5 L = some (.dK acc) := P6.step.keep L _ hH4L nL5
      have hf6L : Hf6 L = none := P6.step.cap L _ hH4L nL5 hf4L
      have kk : K0 r1.d := h0 _ (by rw [hys]; exact List.mem_append_right _ List.mem_cons_self)
      have hlen : acc.length < sizeLine := by
        have l1 := rp.length
        have l2 := putAll_len0 (ps := yd) (acc := [])
        have l3 : ps.length = yd.length + (pr1.length + 1) := by rw [hys]; simp
        simp only [List.length_nil] at l2
        omega
      refine ⟨acc, toKey r1.d, kV_rep kk Rk, hH5L, hlen, ?_⟩
      have st6 : Step (OwnSet (wipeE ρ2 own) (L2.wipe σ own)) Hf2 H2 Hf6 H5 := st4.trans P6.step fun a h => .inl (ow5 a h)
      have stU : Step (fun a => a = L) Hf6 H5 Hf6 (upd H5 L (.dK (putK acc (toKey r1.d) z))) := ⟨Sub.refl _, fun a o h n => by rw [upd_ne n]; exact h, fun _ _ _ _ h => h, fun a o h => by
        by_cases e : a = L
        · exact ⟨_, by rw [e, upd_same]⟩
        · exact ⟨o, by rw [upd_ne e]; exact h⟩⟩
      refine next (ρ5 := ρq) (yd' := yd ++ [(r1.d, r2.d)]) (P6.slots.step stU (P6.slots.sub.mut hf6L) fun a h e => notL a (ow5 a (P6.ownS a h)) e) (st6.trans stU fun x e => .inr (by rw [e]; exact hL)) (P4.own.trans P6.own) hf6L upd_same ?_ (by simp; omega) hrest e2 (by rw [hys]; simp)
      rw [putAll_app]
      exact put_V kk Rz ((rp3.mono P4.step.sub).mono P6.step.sub) (fun p hq => putAll_K hps (fun p h => by cases h) p hq) nd
  · have e : i = ds.length := by omega
    subst e
    refine .inl ⟨hJ.stop _ Hfi H st.sub Si.sub (Nat.le_refl _), ?_⟩
    rw [List.drop_length] at hcl
    have hρ : ρi = ρe ∧ yr = [] := by cases hcl; exact ⟨rfl, rfl⟩
    obtain ⟨rfl, rfl⟩ := hρ
    cases hpr
    have hll : ρ2.length = ρi.length := by
      have h1 := Si.len
      rw [wipeE_len, wipe_length] at h1
      rw [S.len, h1]
    have bk := backE_get ρ2 ρi hll
    have keepO : ∀ a o, H2 a = some o → ¬ OwnSet (wipeE ρ2 own) (L2.wipe σ own) a → H a = some o ∧ (Hf2 a = none → Hfi a = none) := fun a o h n => by
      exact ⟨st.keep a o h n, st.cap a o h n⟩
    have apart : ∀ j (l : Bool) (d : D) a, j ∈ own → ρ2[j]? = some (some (Sl.own l d)) → σ[j]? = some (some (V.ref a)) → ¬ OwnSet (wipeE ρ2 own) (L2.wipe σ own) a := fun j l d a hj e1 e2 h => by
      obtain ⟨k, l', d', hk, e3, e4⟩ := OwnSet.wipe h
      exact hk (by rw [← S.one j k l l' d d' a e1 e3 e2 e4]; exact hj)
    have inner : ∀ j s, j ∉ own → ρi[j]? = some (some s) → (wipeE ρi own)[j]? = some (some s) := fun j s hj e => by rw [wipeE_get, if_neg hj]; exact e
    have sg : ∀ j, j ∉ own → (L2.wipe σ own)[j]? = σ[j]? := fun j hj => by rw [wipe_get, if_neg hj]
    refine q Hfi H acc ⟨⟨Si.sub, by rw [backE_len, ← hll]; exact S.len, fun j s e => ?_, fun j k l m d1 d2 a e1 e2 e3 e4 => ?_⟩, ⟨st.sub, fun a o h n => ?_, fun a o h n => ?_, fun a o h => ?_⟩, fun j l d e1 => ?_⟩ hfL hHL (by
      have : ps = yd := by simpa using hys
      rw [this]; exact rp)
    · rw [bk] at e
      by_cases hj : j ∈ own
      · rw [if_pos hj] at e
        obtain ⟨v, k1, k2⟩ := S.rep j s e
        refine ⟨v, k1, ?_⟩
        cases s with
        | val d => exact Rep.mono st.sub k2
        | own l d =>
          obtain ⟨a, rfl, n, z⟩ := k2
          have m := apart j l d a hj e k1
          obtain ⟨o, ho⟩ := z.there
          exact ⟨a, rfl, (keepO a o ho m).2 n, z.step st m⟩
      · rw [if_neg hj] at e
        obtain ⟨v, k1, k2⟩ := Si.rep j s (inner j s hj e)
        rw [sg j hj] at k1
        exact ⟨v, k1, k2⟩
    · rw [bk] at e1 e2
      have out : ∀ {j : Nat} {l : Bool} {d : D}, j ∉ own → ρi[j]? = some (some (Sl.own l d)) → σ[j]? = some (some (V.ref a)) → OwnSet (wipeE ρ2 own) (L2.wipe σ own) a := fun {j l d} hj k1 k2 => ownS_of ow.l a ⟨j, l, d, inner j _ hj k1, by rw [sg j hj]; exact k2⟩
      by_cases hj : j ∈ own
      · rw [if_pos hj] at e1
        by_cases hk : k ∈ own
        · rw [if_pos hk] at e2
          exact S.one j k l m d1 d2 a e1 e2 e3 e4
        · rw [if_neg hk] at e2
          exact absurd (out hk e2 e4) (apart j l d1 a hj e1 e3)
      · rw [if_neg hj] at e1
        by_cases hk : k ∈ own
        · rw [if_pos hk] at e2
          exact absurd (out hj e1 e3) (apart k m d2 a hk e2 e4)
        · rw [if_neg hk] at e2
          exact Si.one j k l m d1 d2 a (inner j _ hj e1) (inner k _ hk e2) (by rw [sg j hj]; exact e3) (by rw [sg k hk]; exact e4)
    · refine (keepO a o h fun z => n ?_).1
      obtain ⟨j, l, d, _, k1, k2⟩ := OwnSet.wipe z
      exact ⟨j, l, d, k1, k2⟩
    · refine (keepO a o h fun z => n ?_).2
      obtain ⟨j, l, d, _, k1, k2⟩ := OwnSet.wipe z
      exact ⟨j, l, d, k1, k2⟩
    · exact st.dom a o h
    · rw [bk] at e1
      by_cases hj : j ∈ own
      · rw [if_pos hj] at e1
        exact ⟨d, e1⟩
      · rw [if_neg hj] at e1
        obtain ⟨d', k1⟩ := ow j l d (inner j _ hj e1)
        exact ⟨d', (wipeE_own k1).2⟩
end
end Ev
end
section
set_option maxRecDepth 100000
set_option maxHeartbeats 2000000
/-! A comprehension of a dict, as an expression. -/
namespace Ev
open PySem PySem.Spec PyProof.Rows L2
theorem objOk_DC {P : Program} {w : World} {H' : Hp} {h' : Heap} {a : Addr} {es : Array DictEntry} {ep : Nat} (h : h'.DictRaw a es ep) : ObjOk P w H' h' a (DO a es ep) := by
  obtain ⟨o, e, r⟩ := id h
  exact ⟨h, ⟨o, e⟩, fun h1 h2 q k => q.at fun o e => k o e⟩
theorem pairsK_spec {ys : List D} {ps : List (D × D)} (h : pairsK ys = some ps) : pairsD ys = some ps ∧ (∀ p ∈ ps, K0 p.1) ∧ ps.length ≤ sizeLine := by
  unfold pairsK at h
  obtain ⟨qs, e1, e2⟩ := Option.bind_eq_some_iff.mp h
  split at e2
  · rename_i hz
    cases e2
    rw [Bool.and_eq_true, decide_eq_true_eq, List.all_eq_true] at hz
    exact ⟨e1, fun p hp => by have := hz.1 p hp; simpa [K0] using this, hz.2⟩
  · cases e2
section
variable {X : Cx} {W : XW} {fl : Flags} {c : CallF} {pos : Pos}
/-- what the new dict wants behind the comprehension -/
def AfterDc (w : World) (K : PySem.W.Frag) (Q : VK) : VK := fun x H' => ∃ (D : Addr) (kvs : List (Key × V)) (Hf' : Hp) (ps : List (Ev.D × Ev.D)), x = .ref D ∧ H' D = some (.dK kvs) ∧ VsV w K Hf' ps kvs ∧ (∀ p ∈ ps, K0 p.1) ∧ ∀ (es : List DictEntry) (ep : Nat), (D == sysModules) = false → es.length ≤ sizeLine → RepE w K Hf' ps es → Q (.ref D) (upd H' D (DO D es.toArray ep))
theorem dcomp_key {own : List Nat} {ek ev' : Ex} {tg : Tg} {it : Ix} {ifs : Tx} {σ : L2.St} {H : Hp} {Q : VK} (hin : ∀ i ∈ tgIx tg, i ∈ own) (h : sE X W (ev fl c (.dcomp own ek ev' tg it ifs)) σ H Q) :
    tDc (sI X W (evi fl c it)) (gD X.K tg) (tBG (α := Unit) X.w X.K WF (evt fl c ifs)) (tD X.w X.K WF (ev fl c ek)) (tD X.w X.K WF (ev fl c ev')) own σ H (AfterDc X.w X.K Q) := by
  obtain ⟨Hf, ρ, S, g⟩ := h
  unfold ev at g
  refine ⟨Hf, ρ, S, (Goes.bd g).imp fun ds ρ1 e q J Hf1 H1 P hJ => fun L hL => ?_⟩
  have q' := Goes.bd q
  cases e1 : nox (clp (dcTurn tg own (evt fl c ifs) (ev fl c ek) (ev fl c ev')) ds ρ1) with
  | none => simp only [e1] at q'; exact q'.elim
  | some out =>
    cases out with
    | error x =>
      exfalso
      unfold nox at e1
      split at e1 <;> cases e1
    | ok p =>
      obtain ⟨ys, ρe⟩ := p
      simp only [e1] at q'
      have q1 : Goes W Hf H ρ σ (match pairsK ys with
        | some ps => rt (Sl.own false (.dict (putAll [] ps)), backE ρ1 ρe own)
        | none => none) fun r ρ' => ∀ v Hf' H', Post X.w X.K Hf H ρ Hf' H' ρ' σ → ResR X.w X.K Hf' H' H r v → Q v H' := q'
      cases e2 : pairsK ys with
      | none => rw [e2] at q1; exact q1.elim
      | some ps =>
        rw [e2] at q1
        have q2 : ∀ v Hf' H', Post X.w X.K Hf H ρ Hf' H' (backE ρ1 ρe own) σ → ResR X.w X.K Hf' H' H (.own false (.dict (putAll [] ps))) v → Q v H' := q1
        obtain ⟨h1, h2, h3⟩ := pairsK_spec e2
        refine dcomp_loop P.slots hJ hL hin (nox_ok e1) h1 h2 h3 fun Hf' H' xs P2 hfL hHL r => ?_
        have hb : H L = none := by
          cases z : H L with
          | none => rfl
          | some o =>
            obtain ⟨o', e'⟩ := P.step.dom L o z
            rw [hL] at e'; cases e'
        have PP := Post.trans S P P2
        refine ⟨L, xs, Hf', _, rfl, hHL, r, fun p hp => putAll_K h2 (fun p h => by cases h) p hp, fun es ep hs hl hr => ?_⟩
        have st : Step (fun a => a = L) Hf' H' Hf' (upd H' L (DO L es.toArray ep)) := ⟨Sub.refl _, fun a o h n => by rw [upd_ne n]; exact h, fun _ _ _ _ h => h, fun a o h => by
          by_cases e : a = L
          · exact ⟨_, by rw [e, upd_same]⟩
          · exact ⟨o, by rw [upd_ne e]; exact h⟩⟩
        have apart : ∀ a, OwnSet (backE ρ1 ρe own) σ a → ¬ a = L := fun a ha e => by
          obtain ⟨_, o, e3⟩ := S.ownThere (PP.ownS a ha)
          rw [e, hb] at e3; cases e3
        exact q2 (.ref L) Hf' _ ⟨PP.slots.step st (PP.slots.sub.mut hfL) apart, PP.step.trans st fun x e => .inr (by rw [e]; exact hb), PP.own⟩ ⟨L, rfl, hfL, hb, ⟨hs, putAll_ndp List.nodup_nil⟩, es, ep, hl, upd_same, hr⟩
/-- what a dict comprehension's parts are -/
structure DCompOk (X : Cx) (W : XW) (fl : Flags) (c : CallF) (own : List Nat) (ek ev' : Ex) (tg : Tg) (it : Ix) (ifs : Tx) (kx vx tgx ix : Expr) (cs : List Expr) (scope : Scope) : Prop where
  hi : PI X tgx ix (sI X W (evi fl c it))
  ok : BlkOk X.N X.env.scope scope (ownP X.N own)
  eq : (ownP X.N own).map (·.2) = own
  tgin : ∀ i ∈ tgIx tg, i ∈ own
  hg : ∀ (s : Shared) (H : Hp) (C : Addr) (cl : List (Str × Addr)) (fp : List Addr), PG (X.blk s H scope (compEnvC scope cl C X.env) fp) tgx (gD X.K tg)
  ht : ∀ (s : Shared) (H : Hp) (C : Addr) (cl : List (Str × Addr)) (fp : List Addr), PTs (X.blk s H scope (compEnvC scope cl C X.env) fp) cs (tBG (α := Unit) X.w X.K WF (evt fl c ifs))
  hk : ∀ (s : Shared) (H : Hp) (C : Addr) (cl : List (Str × Addr)) (fp : List Addr), PE (X.blk s H scope (compEnvC scope cl C X.env) fp) kx (tD X.w X.K WF (ev fl c ek))
  he : ∀ (s : Shared) (H : Hp) (C : Addr) (cl : List (Str × Addr)) (fp : List Addr), PE (X.blk s H scope (compEnvC scope cl C X.env) fp) vx (tD X.w X.K WF (ev fl c ev'))
  hs : notSet ix = true
theorem re_dcomp {own : List Nat} {ek ev' : Ex} {tg : Tg} {it : Ix} {ifs : Tx} {kx vx tgx ix : Expr} {cs : List Expr} {scope : Scope} (hc : X.calm = true) (hN : X.N.Nodup) (h : DCompOk X W fl c own ek ev' tg it ifs kx vx tgx ix cs scope) :
    PE X (.DictComp kx vx [⟨tgx, ix, cs, 0⟩] scope pos) (sE X W (ev fl c (.dcomp own ek ev' tg it ifs))) := by
  have pe := pe_dc (pos := pos) hc hN h.hi h.ok h.hg h.ht h.hk h.he (folded_ne h.hs)
  rw [h.eq] at pe
  refine ⟨fun pins s σ H Q I g => thn (pe.run pins s σ H _ I (dcomp_key h.tgin g)) fun u s1 hq => ?_⟩
  obtain ⟨x, H', I', rx, D, kvs, Hf', ps, rfl, hD, hv, h0, q⟩ := hq
  obtain ⟨z, hd, vs, kv, oo, es', ep', ho, hx, hdat, hk', hp', _⟩ := (show ObjOk X.prog X.w H' s1.heap D (.dK kvs) from I'.hok D _ hD)
  have vk := hv.toK kv
  have hr : RepE X.w X.K Hf' ps es'.toList := to_K vk h0 hp' fun e he => hk' e (by simpa using he)
  have hl : es'.toList.length ≤ sizeLine := by rw [RepE.length hr, ← hv.length]; exact z
  obtain ⟨hp, g1, d1, t1, os1⟩ := s1
  have J : Inv X pins σ (upd H' D (DO D es' ep')) ⟨hp, g1, d1, t1, os1⟩ := I'.write (t' := t1) (x := D) (e := D) (o := DO D es' ep') (by rw [hD]; exact True.intro) (.inl rfl) (fun b o _ e => e) ⟨_, ho⟩ (objOk_DC ⟨oo, ho, hx, hdat⟩)
  have q2 := q es'.toList ep' hd hl hr
  rw [Array.toArray_toList] at q2
  exact ⟨.ref D, _, J, rx, q2⟩
end
end Ev
end
section
set_option maxRecDepth 100000
set_option maxHeartbeats 2000000
/-! A dict's items walked, each pair under one name. -/
namespace Ev
open PySem PySem.Spec PyProof.Rows L2
open PySem.W (KdxIt)
/-- a dict's pairs, as they stand -/
def Itp (a : Addr) (es : Array DictEntry) (ep : Nat) : It :=
  ⟨fun i H => H a = some (DO a es ep) ∧ ∃ (h : i < es.size) (x y : V), RelV x es[i].key ∧ RelV y es[i].val,
   fun i H x H' => ∃ (p : Addr) (h : i < es.size) (xk xv : V), RelV xk es[i].key ∧ RelV xv es[i].val ∧ x = .ref p ∧ H p = none ∧ H' = upd H p (.tup [xk, xv]),
   fun i H => H a = some (DO a es ep) ∧ es.size ≤ i⟩
def nameT : Expr → Bool
  | .Name _ _ => true
  | _ => false
theorem go_name {M : Model} {A : Around} {E : Value → Shared → Prop} {s : Shared} {tg : Expr} {it u : Value} {Q : Unit → Shared → Prop} (h : nameT tg = true) (q : Q () s) : wpAny M A (letOwnedTupleGo tg it u) Q E s := by
  cases tg <;> first | exact wpAny_pure q | cases h
def StP (a it : Addr) (es : Array DictEntry) (ep : Nat) (i : Nat) (h : Heap) : Prop := (∃ ok ov, IsItemIter h it a i es.size ep ok ov) ∨ ∃ ok ov b f, KdxIt h it a i es.size ep ok ov b f
theorem StP.there {a it : Addr} {es : Array DictEntry} {ep i : Nat} {h : Heap} (x : StP a it es ep i h) : ∃ o, h.get? it = some o ∧ ∀ v, o.data ≠ .cell v := by
  rcases x with ⟨ok, ov, e⟩ | ⟨ok, ov, b, f, e⟩ <;> exact ⟨_, e, fun v z => nomatch z⟩
theorem turn_pairs {P : Program} {w : World} {K : PySem.W.Frag} {tg : Expr} (ht : nameT tg = true) (a it : Addr) (es : Array DictEntry) (ep : Nat) : Turn P w K tg (Itp a es ep) [it] it (StP a it es ep) where
  mem := by simp
  obj := fun i h st b hb => by
    have e : b = it := by simpa using hb
    subst e
    exact st.there
  keep := fun i h h' st k => by
    rcases st with ⟨ok, ov, e⟩ | ⟨ok, ov, b, f, e⟩
    · exact .inl ⟨ok, ov, k it (by simp) _ e⟩
    · exact .inr ⟨ok, ov, b, f, k it (by simp) _ e⟩
  item := by
    intro X hP hw hK hc i pins s σ H E I hf st hg
    subst hP hw hK
    obtain ⟨hd, hi, x, y, rx, ry⟩ := hg
    have hr := do_raw I hd
    obtain ⟨o0, ho0, _⟩ := st.there
    have hlt : it < s.heap.objs.size := Heap.lt_size ho0
    have fin : ∀ h', StP a it es ep (i + 1) h' → h'.get? s.heap.objs.size = some { cls := .type "tuple", data := .seq #[es[i].key, es[i].val] } → (∀ b o, b ≠ it → s.heap.get? b = some o → h'.get? b = some o) →
        ∃ u, some (Value.ref s.heap.objs.size) = some u ∧ wpAny (model X.prog X.w) X.A (letOwnedTupleGo tg (.ref it) u) (fun _ s2 => ∃ x H', Inv X pins σ H' s2 ∧ RelV x u ∧ (Itp a es ep).yld i H x H' ∧ StP a it es ep (i + 1) s2.heap ∧ ∀ b ∈ [it], H' b = none) E { s with heap := h' } := fun h' st' ht' hk => by
      have new : ObjOk X.prog X.w (upd H s.heap.objs.size (.tup [x, y])) h' s.heap.objs.size (.tup [x, y]) := ⟨by rw [sizeLine_eq]; simp, [es[i].key, es[i].val], .cons rx (.cons ry .nil), ⟨_, ht', rfl, _, rfl⟩⟩
      have I1 : Inv X pins σ (upd H s.heap.objs.size (.tup [x, y])) { s with heap := h' } := I.turnedNew (t' := s.toks) (ch := [it]) (fun b ob hb e => hk b ob (by simpa using hb) e) hf (Nat.le_refl _) new
      refine ⟨_, rfl, go_name ht ⟨.ref s.heap.objs.size, _, I1, rfl, ⟨_, hi, x, y, rx, ry, rfl, I.hok.fresh (Nat.le_refl _), rfl⟩, st', fun b hb => ?_⟩⟩
      have e : b = it := by simpa using hb
      rw [e, upd_ne (Nat.ne_of_lt hlt)]
      exact (hf it (by simp)).1
    rcases st with ⟨ok, ov, he⟩ | ⟨ok, ov, b, f, he⟩
    · exact wpAny_pyNext_items_item_raw he hr hi fun h' he' ht' _ hk => fin h' (.inr ⟨_, _, _, false, he'⟩) ht' hk
    · exact next_pair he hr hi fun h' a' f' ok' ov' he' ht' hk => fin h' (.inr ⟨_, _, _, _, he'⟩) ht' hk
  done := by
    intro X hP hw hK hc i pins s σ H E I hf st hg
    subst hP hw hK
    obtain ⟨hd, hi⟩ := hg
    obtain ⟨f0, f1, f2, f3, f4, f5⟩ := hf it (by simp)
    have hr := do_raw I hd
    rcases st with ⟨ok, ov, he⟩ | ⟨ok, ov, b, f, he⟩
    · exact wpAny_pyNext_items_end_raw (I.ok.hd hc) he hr hi fun h' eb => ⟨rfl, I.turned (t' := s.toks) (fun b o hb e => eb b o hb e) f0 f1 f3 f4 f5⟩
    · exact wpAny_pyNext_items_end_out_raw (I.ok.hd hc) he hr hi fun h' eb => ⟨rfl, I.turned (t' := s.toks) (fun b o hb e => eb b o hb e) f0 f1 f3 f4 f5⟩
  self := fun A i s Q E st h => by
    rcases st with ⟨ok, ov, he⟩ | ⟨ok, ov, b, f, he⟩
    · exact wpAny_pyIter_itemiter he h
    · refine wpAny_pyIter_slot (T := "dict_itemiterator") ⟨_, he, rfl⟩ PySem.F.slot_dict_itemiterator_iter (wpAny_call_entry PySem.F.slot_dict_itemiterator_iter ⟨_, he, rfl⟩ entry_dict_itemiterator_iter ?_ (PySem.F.args_dict_itemiterator_iter_1 _))
      exact wpAny_pure ⟨_, rfl, "dict_itemiterator", _, ⟨_, he, rfl⟩, PySem.F.slot_dict_itemiterator_next.lookup, h⟩
section
variable {w : World} {K : PySem.W.Frag} {Hf H : Hp}
theorem ItR.pairs {a : Addr} {es : List DictEntry} {ep : Nat} {kvs : List (D × D)} (hz : es.length ≤ sizeLine) (q : Hf a = some (DO a es.toArray ep)) (r : RepE w K Hf kvs es) : ItR w K Hf (kvs.map fun kv => PyData.tuple [kv.1, kv.2]) (Itp a es.toArray ep) where
  size := by rw [List.length_map, ← r.length]; exact hz
  go := fun i Hf1 H1 s1 s2 hi => by
    rw [List.length_map] at hi
    obtain ⟨e, e1, _, ⟨x, rx, _⟩, y, ry, _⟩ := r.get (List.getElem?_eq_getElem hi)
    obtain ⟨hi', e2⟩ := List.getElem?_eq_some_iff.mp e1
    exact ⟨s2 _ _ (s1 _ _ q), by simpa using hi', x, y, by simp [e2, rx], by simp [e2, ry]⟩
  stop := fun i Hf1 H1 s1 s2 hi => ⟨s2 _ _ (s1 _ _ q), by rw [List.length_map, ← r.length] at hi; simpa using hi⟩
  yld := fun i Hf1 H1 x H2 d s1 s2 e y => by
    obtain ⟨p, hi, xk, xv, rk, rv, rfl, hn, rfl⟩ := y
    rw [List.getElem?_map] at e
    cases e0 : kvs[i]? with
    | none => rw [e0] at e; cases e
    | some kv =>
      rw [e0] at e
      cases e
      obtain ⟨en, e1, _, ⟨x', rx', rep⟩, y', ry', rep'⟩ := r.get e0
      obtain ⟨hi', e2⟩ := List.getElem?_eq_some_iff.mp e1
      have h1 : xk = x' := by
        have q1 : RelV xk en.key := by simpa [e2] using rk
        exact q1.inj rx'
      have h2 : xv = y' := by
        have q1 : RelV xv en.val := by simpa [e2] using rv
        exact q1.inj ry'
      subst h1 h2
      have nf : Hf1 p = none := s2.none hn
      refine ⟨upd Hf1 p (.tup [xk, xv]), Sub.both s2, Step.newF s2 hn, ?_⟩
      simp only [Rep, Reps]
      exact ⟨p, [xk, xv], rfl, SqT.of upd_same, xk, [xv], rfl, rep.mono (s1.trans (Sub.new nf)), xv, [], rfl, rep'.mono (s1.trans (Sub.new nf)), rfl⟩
end
section
variable {X : Cx} {W : XW} {tg : Expr} {fl : Flags} {c : CallF} {apos cpos : Pos}
theorem pi_pairs {e : Ex} {x : Expr} {m : Str} (hm : m = Str.ofString "items") (ht : nameT tg = true) (hb : okBase x = true) (hline : (apos.endLine == cpos.line) = true) (hx : PE X x (sE X W (ev fl c e))) : PI X tg (.Call (.Attribute x m apos) [] [] cpos) (sI X W (evi fl c (.items e))) := by
  subst hm
  refine ⟨fun pins s σ H R I ⟨Hf, ρ, S, g⟩ => ?_⟩
  unfold evi at g
  refine wpAny_Call_method (T := "dict") (id := "dict.items") (base_ne hb) rfl hline PySem.F.plainAttrs_dict PySem.F.slot_dict_items PySem.F.type_dict_items (thn ((sD_of hx).run pins s σ H (fun v H1 => ∃ Hf1 kvs, Sub Hf1 H1 ∧ Rep X.w X.K Hf1 (.dict kvs) v ∧ ∀ J, ItR X.w X.K Hf1 (kvs.map fun kv => PyData.tuple [kv.1, kv.2]) J → R J H1) I
    (Goes.read S g fun r ρ1 v Hf1 H1 _ P R1 q => ?_)) fun v s1 ⟨x, H1, I1, r1, Hf1, kvs, sb, rep, q1⟩ => ?_)
  · simp only at q
    split at q
    · rename_i kvs e1
      rw [e1] at R1
      exact ⟨Hf1, kvs, P.slots.sub, R1, fun J hJ => q J Hf1 H1 P hJ⟩
    · exact q.elim
  · simp only [Rep] at rep
    obtain ⟨a, es, ep, rfl, hn, hz, hq, hr⟩ := rep
    cases (show v = Value.ref a from r1)
    have hd := do_raw I1 (sb _ _ hq)
    obtain ⟨o, ho, hx, hdat⟩ := id hd
    refine ⟨hd.typeIs, fun b eb => by cases eb; exact ⟨o, ho, hx.2.1⟩, ?_⟩
    have I2 : Inv X pins σ H1 { s1 with heap := s1.heap.push { cls := .type "dict_items", data := .fields #[.ref a] } } := I1.kept (t' := s1.toks) fun b ob q => Heap.get?_push_of_some _ q
    have hd2 : (s1.heap.push { cls := .type "dict_items", data := .fields #[.ref a] }).DictRaw a es.toArray ep := hd.at fun o e => Heap.get?_push_of_some _ e
    have fin : wpAny (model X.prog X.w) X.A (pyIter (.ref s1.heap.objs.size)) (PIE X pins σ tg R) X.xe { s1 with heap := s1.heap.push { cls := .type "dict_items", data := .fields #[.ref a] } } :=
      wpAny_pyIter_items_raw (d := a) ⟨_, Heap.get?_push_size _ rfl, rfl, rfl⟩ hd2 (pi_one (tk := s1.toks) I2 _ (turn_pairs ht a _ es.toArray ep) (.inl ⟨.none, .none, Heap.get?_push_size _ rfl⟩) (q1 _ (ItR.pairs hz hq hr)))
    show wpAny _ _ (callWith cpos (.builtin "dict.items") [.ref a] [] []) _ X.xe s1
    exact method_meetsIn PySem.F.slot_dict_items PySem.F.entry_dict_items rfl (PySem.evalArgs_none ⟨rfl, hd.typeIs, PySem.F.args_dict_items_1 _, _, meets_dict_items_raw a hn.1, ⟨⟨_, _, hd⟩, fin⟩⟩)
end
end Ev
end
section
set_option maxRecDepth 100000
set_option maxHeartbeats 2000000
/-! An own exception class whose __init__ says super().__init__(..) and then stores its fields: the walk of that __init__. -/
namespace Ev
open PySem PySem.Spec PyProof.Rows L2
/-- the bound ValueError.__init__, called -/
theorem mw_call {X : Cx} {pins : List (Addr × Obj)} {σ : L2.St} {H : Hp} {s : Shared} {a C u : Addr} {us : List Value} {Q : Value → Shared → Prop} (T : OexC X.K C) (I : Inv X pins σ H s) (e : H a = some (exo a C none)) (hu : s.heap.get? u = some (PySem.W.kxs_mw "ValueError.__init__" a)) (hl : us.length ≤ sizeLine)
    (h : ∀ s', Inv X pins σ H s' → Q .none s') : wpAny (model X.prog X.w) X.A (PySem.call (.ref u) us) Q X.xe s := by
  obtain ⟨nm, q, N, bs, bm, sn, sub, ab, col, dd, k0, k1, k2, k3, k5, hC, hbm⟩ := T.cls
  obtain ⟨t1, ho⟩ := exo_at I.hok e
  have back : ∀ h', (∀ b o, b ≠ a → s.heap.get? b = some o → h'.get? b = some o) → (∃ t2 : Addr, h'.get? a = some ({ cls := .ref C, dict := none, data := .fields #[.ref t2, .none, .none, .none, .bool false, .none] } : Obj)) → Q .none { s with heap := h' } := fun h' k ⟨t2, hx⟩ => by
    have J := I.write (t' := s.toks) (x := a) (e := a) (o := exo a C none) (by rw [e]; exact True.intro) (.inl rfl) k ⟨_, hx⟩ (exo_ok hx)
    have eu : upd H a (exo a C none) = H := funext fun b => by
      by_cases hb : b = a
      · subst hb; rw [upd_same, e]
      · exact upd_ne hb
    rw [eu] at J
    exact h _ J
  obtain ⟨hp, g, d, t, os⟩ := s
  refine wpAny_call (codeAny_of_tree ?_)
  show wpAny _ X.A.in1 (callAny (.ref u) ⟨us, []⟩) _ _ _
  simp only [callAny]
  refine wpAny_bind (wpAny_load hu ?_)
  simp only [PySem.W.kxs_mw]
  refine PySem.W.KFB.if_so (by decide) ?_
  have hh : hp.get? C = _ := I.kIn _ _ hC
  refine wpAny_bind (PySem.W.check_bound_init (g := g) (d := d) (t := t) (os := os) (rest := us) F.excBase_ValueError.toExcCallFacts hh ho rfl ?_)
  refine wpAny_bind (wpAny_pure (wpAny_pure ⟨plainId_quiet F.excBase_ValueError.init.plain _, codeAny_builtin F.excBase_ValueError.initEntry ?_⟩))
  exact PySem.W.exc_init_tree (cls := .ref C) (t0 := t1) (dv := none) (c2 := .none) (c3 := .none) (b4 := .bool false) ho hl fun h' k e' _ => back h' k ⟨_, e'⟩
end Ev
end
section
set_option maxRecDepth 100000
set_option maxHeartbeats 2000000
/-! super().__init__(..) within such an __init__. -/
namespace Ev
open PySem PySem.Spec PyProof.Rows L2
/-- what is known of the class at C, its __init__'s cell and code object -/
structure SupC (P : Program) (K : PySem.W.Frag) (C cc cda : Addr) : Prop where
  oex : OexC K C
  up : PySem.W.ks_superIn K C C "__init__" = some (some (.builtin "ValueError.__init__"))
  opq : PySem.W.nsIn K cStatics "thirdparty.any" = some none
  subV : PySem.W.subIn K (.ref C) (.type "ValueError") = some true
  subC : PySem.W.mroIn K C (.ref C) = some true
  cell : ∃ cl cld csl, K.lookup cc = some ⟨cl, cld, .cell (some (.ref C)), csl⟩
  code : ∃ ccl cdd vs ccs file tf, K.lookup cda = some ⟨ccl, cdd, .fields vs, ccs⟩ ∧ vs[2]? = some (.str file tf) ∧ ((P.main.file : Str) == file) = true
  top : (P.main.scope.names.lookup ("super" : Str)).isSome = false
theorem drop_self (C : Addr) (l : List Value) : ((Value.ref C :: l).dropWhile (· != .ref C)).drop 1 = l := by simp [List.dropWhile_cons]
section
variable {X : Cx} {σ : L2.St} {H : Hp} {s : Shared} {C cc cda f a : Addr} {fd : FuncData} {ar : Arg} {body : List Stmt} {p0 p1 ap cp : Pos} {y : Expr} {ys : List Expr} {t : TA} {Q : Value → Shared → Prop}
theorem sup_eval {o : Expr} {name : Str} {env : PySem.Env} (hs : (y :: ys).all noStar = true) (hl : (y :: ys).length < 30) (hline : (ap.endLine == cp.line) = true) :
    eval (.Call (.Attribute o name ap) (y :: ys) [] cp) env = (do
      let ov ← attributeBase o name env (eval o env)
      standAt ap.atName
      let (f, first) ← holding [ov] (getMethod ov name (do return (← importBound o env).getD true))
      callWith cp f first (backTo cp (starEach (y :: ys) env)) []) := by
  have h1 : methodCallForm ((y :: ys).length + ([] : List Keyword).length) (backTo cp (starEach (y :: ys) env)) (backToKw cp (keywordEach [] env)) = true := by
    unfold methodCallForm
    rw [noStars_all hs]
    simp [keywordEach, backToKw]
    simpa using hl
  have h2 : methodCallPos true o env ap cp = pure cp := by
    unfold methodCallPos
    simp [hline]
  rw [arm_eval_Call]
  unfold methodCall
  rw [h1, h2]
  simp only [pure_bind]
  rfl
theorem sup_call (T : SupC X.prog X.K C cc cda) (hms : X.mg "super" = none) (I : Inv X [] σ H s) (hks : X.env.kindOf "super" = some .globalImplicit) (hkc : X.env.kindOf "__class__" = some .free) (hfu : X.env.func = some f) (hco : X.env.code = .ref cda) (hcl : X.env.cells.lookup ("__class__" : Str) = some cc)
    (lk : ∃ oc od osl, X.K.lookup f = some ⟨oc, od, .func fd, osl⟩) (hp : (fd.params.posonlyargs ++ fd.params.args).head? = some ar) (hN : X.N[0]? = some ar.arg) (hl : X.env.kindOf ar.arg = some .local) (e0 : σ[0]? = some (some (V.ref a))) (ea : H a = some (exo a C none))
    (hs : (y :: ys).all noStar = true) (hlen : (y :: ys).length < 30) (hline : (ap.endLine == cp.line) = true) (ha : PA X (y :: ys) t) (ht : ∀ R : List V → Hp → Prop, (∀ vs, vs.length ≤ 1000 → R vs H) → t σ H R) (h : ∀ s', Inv X [] σ H s' → Q .none s') :
    PySem.wpAt (model X.prog X.w) X.A (.func body X.env) (eval (.Call (.Attribute (.Call (.Name "super" p0) [] [] p1) "__init__" ap) (y :: ys) [] cp) X.env) Q X.xe s := by
  obtain ⟨oc, od, osl, lk⟩ := lk
  obtain ⟨cl, cld, csl, lc⟩ := T.cell
  obtain ⟨ccl, cdd, vs, ccs, file, tf, lcode, hvs, hfile⟩ := T.code
  obtain ⟨nm, q, N, bs, bm, sn, sub, ab, col, dd, k0, k1, k2, k3, k5, hC, hbm⟩ := T.oex.cls
  have KX := I.kIn
  refine PySem.ks_wpAt_MethodCall (o := .Call (.Name "super" p0) [] [] p1) ?_ (sup_eval hs hlen hline)
  refine PySem.ks_wpAt_super_base hks hkc (by decide) hfu (KX _ _ lk) rfl hp hco (KX _ _ lcode) rfl hvs hfile T.top ?_
  obtain ⟨mb, b1, b2⟩ := I.mod.blt
  refine PySem.W.ks_loadName_global I.ok.kind hks (Calls.loadGlobal_builtin (by rw [I.ok.glob]; exact I.mod.glob.keeps I.bk) hms (by rw [I.ok.blt]; exact b1.keeps I.bk) ((b2 _ (by decide)).trans (by decide +kernel)) ⟨rfl, ?_⟩)
  refine wpAny_loadName_free I.ok.kind hkc hcl ⟨_, KX _ _ lc, rfl⟩ ?_
  obtain ⟨m, hns, hlk⟩ := id I.loc
  obtain ⟨u, ru, hu⟩ := hlk 0 _ _ hN e0 (.inl hl)
  have hm : m ar.arg = some u := by
    rcases hu with ⟨_, z⟩ | ⟨z | z, _⟩
    · exact z
    · rw [hl] at z; cases z
    · rw [hl] at z; cases z
  refine wpAny_loadName_local I.ok.kind hl hns hm ?_
  cases (show u = Value.ref a from ru)
  obtain ⟨t1, ho⟩ := exo_at I.hok ea
  have hCo : s.heap.get? C = _ := KX _ _ hC
  have hcls : PySem.W.clsIn X.K C = some { name := nm, bases := bs, mro := .ref C :: bm, ns := N, qualname := q, hasDict := true, slotNames := sn, subclasses := sub, abstract := ab, collection := col, hasDel := false } := by unfold PySem.W.clsIn; rw [hC] <;> rfl
  have hIA : PySem.W.InstAt s.heap a _ C none := ⟨ho, rfl, rfl, trivial⟩
  obtain ⟨hh, g, d, tk, os⟩ := s
  refine PySem.ks_wpAny_isType_cls hCo rfl ⟨rfl, ?_⟩
  refine PySem.ks_wpAny_call_super hCo rfl ho rfl (fun c z => by cases z) (PySem.W.looks_mroIn KX T.subC) fun h' eh k => ?_
  have I1 : Inv X [] σ H ⟨h', g, d, tk, os⟩ := I.kept (t' := tk) k
  have KX1 : X.K.In h' := KX.keeps k
  have hIA1 : PySem.W.InstAt h' a _ C none := ⟨k _ _ ho, rfl, rfl, trivial⟩
  have hal : PySem.W.alongIn X.K "__init__" bm = some (some (.builtin "ValueError.__init__")) := by
    have z := T.up
    unfold PySem.W.ks_superIn at z
    rw [hcls] at z
    rw [← drop_self C bm]
    exact z
  refine PySem.W.kxs_getMethod PySem.W.kxs_ValueError eh (PySem.W.looks_opaque KX1 T.opq) (l₀ := .ref C :: bm) (fun A Q E s k q => wpAny_bind ((PySem.W.looks_clsIn KX1 hcls) A _ E s k (wpAny_pure q))) (drop_self C bm) KX1 hal
    (hIA1.type.andThen (PySem.W.looks_subIn KX1 T.subV)) (PySem.W.ks_ne KX1 hIA1 hcls) (by decide) ?_
  have km : ∀ b o, h'.get? b = some o → (h'.push (PySem.W.kxs_mw "ValueError.__init__" a)).get? b = some o := fun b o z => Heap.get?_push_of_some _ z
  have I2 : Inv X [] σ H ⟨h'.push (PySem.W.kxs_mw "ValueError.__init__" a), g, d, tk + 1, os⟩ := I1.kept (t' := tk + 1) km
  have hu2 : (h'.push (PySem.W.kxs_mw "ValueError.__init__" a)).get? h'.objs.size = some (PySem.W.kxs_mw "ValueError.__init__" a) := Heap.get?_push_at rfl rfl
  obtain ⟨f1, f2, f3, _, _, _⟩ := I1.fpOk (H' := H) (Nat.le_refl _) (I1.hok.fresh (Nat.le_refl _))
  have I3 : Inv X [(h'.objs.size, PySem.W.kxs_mw "ValueError.__init__" a)] σ H ⟨h'.push (PySem.W.kxs_mw "ValueError.__init__" a), g, d, tk + 1, os⟩ := I2.pins_of fun p hp => by
    have e : p = (h'.objs.size, PySem.W.kxs_mw "ValueError.__init__" a) := by simpa using hp
    subst e
    exact ⟨hu2, f1, f2, f3, fun v z => by cases z⟩
  have hs' := hs
  rw [List.all_cons, Bool.and_eq_true] at hs'
  have hA := ha.run cp _ _ σ H (fun vs H' => vs.length ≤ 1000 ∧ H' = H) I3 (ht _ fun vs z => ⟨z, rfl⟩)
  have hst := star_ne (env := X.env) (es := ys) hs'.1
  show wpAny _ _ (callWith cp (Value.ref h'.objs.size) [] (backTo cp (starEach (y :: ys) X.env)) []) _ _ _
  rw [hst] at hA ⊢
  refine PySem.W.kxs_callWith (i := "ValueError.__init__") (x := a) (by show (false || (backTo cp (starEach ys X.env)).any (·.1)) = false; rw [noStars_any hs'.2] <;> rfl) (Calls.evalArgs_plain ?_)
  refine thn hA fun us s2 ⟨ws, H2, J, r2, hz, eH⟩ => ?_
  subst eH
  have J0 : Inv X [] σ H2 s2 := ⟨J.ok, J.os, J.bare, J.base, J.loc, J.cell, J.free, J.freeC, fun p hp => J.pin p (List.mem_append_left _ (by simpa using hp)), J.hok, J.len⟩
  have hu3 : s2.heap.get? h'.objs.size = some (PySem.W.kxs_mw "ValueError.__init__" a) := (J.pin (h'.objs.size, PySem.W.kxs_mw "ValueError.__init__" a) (by simp)).1
  exact ⟨hu3, mw_call T.oex J0 ea hu3 (by have z := Paired.length r2; show us.length ≤ _; rw [← z, sizeLine_eq]; omega) h⟩
end
end Ev
end
section
set_option maxRecDepth 100000
set_option maxHeartbeats 2000000
/-! The whole __init__: what it promises. -/
namespace Ev
open PySem PySem.Spec PyProof.Rows L2
/-- self.f = f, one after the other -/
def tSto (K : PySem.W.Frag) : List (Str × Nat) → TS
  | [] => fun D σ H => D.nx σ H
  | (f, i) :: r => fun D σ H => tOst K f (tVar 0) (tVar i) { D with nx := tSto K r D } σ H
theorem upd_twice {H : Hp} {a : Addr} {o u : HO} : upd (upd H a o) a u = upd H a u := funext fun b => by
  by_cases h : b = a
  · subst h; rw [upd_same, upd_same]
  · rw [upd_ne h, upd_ne h, upd_ne h]
theorem upd_comm {H : Hp} {a b : Addr} {o u : HO} (h : a ≠ b) : upd (upd H a o) b u = upd (upd H b u) a o := funext fun c => by
  by_cases h1 : c = b
  · subst h1; rw [upd_same, upd_ne (Ne.symm h), upd_same]
  · by_cases h2 : c = a
    · subst h2; rw [upd_ne h1, upd_same, upd_same]
    · rw [upd_ne h1, upd_ne h2, upd_ne h2, upd_ne h1]
theorem sto_more {K : PySem.W.Frag} {C a dx : Addr} {D : Ends} {σ : L2.St} (T : OexC K C) (e0 : σ[0]? = some (some (V.ref a))) (hd : dx ≠ a) : ∀ (r : List (Str × Nat)) (ys : List V) (fs : List (Str × V)) (H : Hp), (∀ p ∈ r, PySem.W.findIn K (.ref C) p.1 = some none) → r.map (fun p => σ[p.2]?) = ys.map (fun y => some (some y)) →
    H a = some (exo a C (some dx)) → H dx = some (exd dx fs) → fs.length + r.length ≤ 900 → D.nx σ (upd H dx (exd dx (((r.map (·.1)).zip ys).reverse ++ fs))) → tSto K r D σ H
  | [], ys, fs, H, _, _, _, h2, _, q => by
    have e : upd H dx (exd dx fs) = H := funext fun b => by
      by_cases h : b = dx
      · subst h; rw [upd_same, h2]
      · exact upd_ne h
    have q' : D.nx σ (upd H dx (exd dx fs)) := q
    rw [e] at q'
    exact q'
  | (f, i) :: r, [], fs, H, _, he, _, _, _, _ => by cases he
  | (f, i) :: r, y :: ys, fs, H, hn, he, h1, h2, hl, q => by
    have he' : σ[i]? = some (some y) ∧ r.map (fun p => σ[p.2]?) = ys.map (fun y => some (some y)) := by simpa using he
    refine ⟨y, he'.1, .ref a, e0, a, C, rfl, T, hn _ List.mem_cons_self, .inr ⟨dx, fs, h1, h2, ?_, ?_⟩⟩
    · have : fs.length + (r.length + 1) ≤ 900 := hl
      omega
    · refine sto_more T e0 hd r ys ((f, y) :: fs) _ (fun p hp => hn p (List.mem_cons_of_mem _ hp)) he'.2 (by rw [upd_ne (Ne.symm hd)]; exact h1) upd_same (by have : fs.length + (r.length + 1) ≤ 900 := hl; simp; omega) ?_
      rw [upd_twice]
      have : ((((f, i) :: r).map (·.1)).zip (y :: ys)).reverse ++ fs = ((r.map (·.1)).zip ys).reverse ++ (f, y) :: fs := by simp
      rw [← this]
      exact q
theorem sto_all {K : PySem.W.Frag} {C a : Addr} {D : Ends} {σ : L2.St} {f : Str} {i : Nat} {r : List (Str × Nat)} {y : V} {ys : List V} {H : Hp} (T : OexC K C) (e0 : σ[0]? = some (some (V.ref a))) (hn : ∀ p ∈ (f, i) :: r, PySem.W.findIn K (.ref C) p.1 = some none) (he : ((f, i) :: r).map (fun p => σ[p.2]?) = (y :: ys).map (fun y => some (some y))) (h1 : H a = some (exo a C none)) (hl : r.length ≤ 800)
    (q : ∀ dx, H dx = none → dx ≠ a → D.nx σ (upd (upd H a (exo a C (some dx))) dx (exd dx ((((f, i) :: r).map (·.1)).zip (y :: ys)).reverse))) : tSto K ((f, i) :: r) D σ H := by
  have he' : σ[i]? = some (some y) ∧ r.map (fun p => σ[p.2]?) = ys.map (fun y => some (some y)) := by simpa using he
  refine ⟨y, he'.1, .ref a, e0, a, C, rfl, T, hn _ List.mem_cons_self, .inl ⟨h1, fun dx n ne => ?_⟩⟩
  refine sto_more T e0 ne r ys [(f, y)] _ (fun p hp => hn p (List.mem_cons_of_mem _ hp)) he'.2 upd_same (by rw [upd_ne ne, upd_same]) (by simp; omega) ?_
  rw [upd_comm ne, upd_twice]
  have : ((((f, i) :: r).map (·.1)).zip (y :: ys)).reverse = ((r.map (·.1)).zip ys).reverse ++ [(f, y)] := by simp
  rw [← this]
  exact q dx n ne
/-- the stores of the text -/
def stoB (self : Str) : List (Str × Nat) → List Stmt → Bool
  | [], [] => true
  | (f, _) :: r, .Assign [.Attribute (.Name o _) g _] (.Name y _) _ :: ss => decide (o = self) && decide (g = f) && decide (y = f) && stoB self r ss
  | _, _ => false
theorem sto_walk {X : Cx} {self : Str} (h0 : X.N[0]? = some self) (v0 : Vis X.env.scope self) (d0 : (self == ("__debug__" : Str)) = false ∧ (self == ("__classdict__" : Str)) = false) : ∀ (r : List (Str × Nat)) (ss : List Stmt), stoB self r ss = true → (∀ p ∈ r, X.N[p.2]? = some p.1 ∧ Vis X.env.scope p.1 ∧ (p.1 == ("__debug__" : Str)) = false ∧ (p.1 == ("__classdict__" : Str)) = false) → PSs X ss (tSto X.K r)
  | [], ss, h, hv => by
    cases ss with
    | nil => exact pss_nil
    | cons _ _ => cases h
  | (f, i) :: r, ss, h, hv => by
    unfold stoB at h
    split at h
    · rename_i e; cases e
    · rename_i e1 
      cases e1
      simp only [Bool.and_eq_true, decide_eq_true_eq] at h
      obtain ⟨⟨⟨rfl, rfl⟩, rfl⟩, h4⟩ := h
      obtain ⟨k1, k2, k3, k4⟩ := hv _ List.mem_cons_self
      exact PSsimp (pss_cons (ps_ost (pe_var h0 v0 d0.1 d0.2) (pe_var k1 k2 k3 k4)) (sto_walk h0 v0 d0 r _ h4 fun p hp => hv p (List.mem_cons_of_mem _ hp))) fun D σ H q => q
    · cases h
end Ev
end
section
set_option maxRecDepth 100000
set_option maxHeartbeats 2000000
/-! The promise of such an __init__. -/
namespace Ev
open PySem PySem.Spec PyProof.Rows L2 NdefX
def ixs : Nat → List Str → List (Str × Nat)
  | _, [] => []
  | n, f :: r => (f, n) :: ixs (n + 1) r
theorem ixs_names : ∀ (fs : List Str) (n : Nat), (ixs n fs).map (·.1) = fs
  | [], _ => rfl
  | f :: r, n => by simp [ixs, ixs_names r]
theorem ixs_len : ∀ (fs : List Str) (n : Nat), (ixs n fs).length = fs.length
  | [], _ => rfl
  | f :: r, n => by simp [ixs, ixs_len r]
theorem ixs_at : ∀ (fs : List Str) (ws : List V) (n : Nat) (σ : L2.St), ws.length = fs.length → (∀ i : Nat, i < ws.length → σ[n + i]? = some ws[i]?) → (ixs n fs).map (fun p => σ[p.2]?) = ws.map (fun y => some (some y))
  | [], [], _, _, _, _ => rfl
  | [], _ :: _, _, _, h, _ => by cases h
  | _ :: _, [], _, _, h, _ => by cases h
  | f :: r, y :: ys, n, σ, h, k => by
    have k0 : σ[n]? = some (some y) := by simpa using k 0 (Nat.succ_pos _)
    have ih := ixs_at r ys (n + 1) σ (by simpa using h) fun i hi => by
      have := k (i + 1) (by simpa using hi)
      rw [show n + 1 + i = n + (i + 1) by omega, this]
      simp
    simp [ixs, k0, ih]
theorem ixs_get : ∀ (fs : List Str) (n : Nat) (N : List Str), (∀ i : Nat, i < fs.length → N[n + i]? = fs[i]?) → ∀ p ∈ ixs n fs, N[p.2]? = some p.1 ∧ p.1 ∈ fs
  | [], _, _, _, p, hp => by cases hp
  | f :: r, n, N, k, p, hp => by
    rcases List.mem_cons.mp hp with rfl | hp
    · exact ⟨by simpa using k 0 (Nat.succ_pos _), List.mem_cons_self⟩
    · obtain ⟨h1, h2⟩ := ixs_get r (n + 1) N (fun i hi => by
        have := k (i + 1) (by simpa using hi)
        rw [show n + 1 + i = n + (i + 1) by omega, this]
        simp) p hp
      exact ⟨h1, List.mem_cons_of_mem _ h2⟩
/-- names as arguments -/
def nmB : List Str → List Expr → Bool
  | [], [] => true
  | f :: r, .Name x _ :: xs => decide (x = f) && nmB r xs
  | _, _ => false
def tNm : List (Str × Nat) → TA
  | [] => tNil
  | (_, i) :: r => tCons (tVar i) (tNm r)
theorem nm_all : ∀ (fs : List Str) (xs : List Expr), nmB fs xs = true → xs.all noStar = true ∧ xs.length = fs.length
  | [], [], _ => ⟨rfl, rfl⟩
  | [], _ :: _, h => by cases h
  | _ :: _, [], h => by cases h
  | f :: r, x :: xs, h => by
    unfold nmB at h
    split at h
    · rename_i e1 e2; cases e1
    · rename_i e1 e2
      cases e1; cases e2
      rw [Bool.and_eq_true] at h
      obtain ⟨h1, h2⟩ := nm_all _ _ h.2
      exact ⟨by rw [List.all_cons, h1]; rfl, by simp [h2]⟩
    · cases h
theorem nm_walk {X : Cx} : ∀ (r : List (Str × Nat)) (xs : List Expr), nmB (r.map (·.1)) xs = true → (∀ p ∈ r, X.N[p.2]? = some p.1 ∧ Vis X.env.scope p.1 ∧ (p.1 == ("__debug__" : Str)) = false ∧ (p.1 == ("__classdict__" : Str)) = false) → PA X xs (tNm r)
  | [], xs, h, hv => by
    cases xs with
    | nil => exact pa_nil
    | cons _ _ => cases h
  | (f, i) :: r, xs, h, hv => by
    cases xs with
    | nil => cases h
    | cons x xs =>
      simp only [List.map_cons] at h
      unfold nmB at h
      split at h
      · rename_i e1 e2; cases e1
      · rename_i e1 e2
        cases e1; cases e2
        simp only [Bool.and_eq_true, decide_eq_true_eq] at h
        obtain ⟨rfl, h⟩ := h
        obtain ⟨k1, k2, k3, k4⟩ := hv _ List.mem_cons_self
        exact pa_cons (pe_var k1 k2 k3 k4) (nm_walk r _ h fun p hp => hv p (List.mem_cons_of_mem _ hp))
      · cases h
theorem nm_sat {σ : L2.St} {H : Hp} : ∀ (r : List (Str × Nat)) (ys : List V) (R : List V → Hp → Prop), r.map (fun p => σ[p.2]?) = ys.map (fun y => some (some y)) → R ys H → tNm r σ H R
  | [], [], R, _, q => q
  | [], _ :: _, _, h, _ => by cases h
  | _ :: _, [], _, h, _ => by cases h
  | (f, i) :: r, y :: ys, R, h, q => by
    have h' : σ[i]? = some (some y) ∧ r.map (fun p => σ[p.2]?) = ys.map (fun y => some (some y)) := by simpa using h
    exact ⟨y, h'.1, nm_sat r ys _ h'.2 q⟩
/-- the text of such an __init__ -/
def iniB (self : Str) (fs : List Str) : List Stmt → Bool
  | .Expr (.Call (.Attribute (.Call (.Name s _) [] [] _) m ap) xs [] cp) _ :: ss => decide (s = "super") && decide (m = "__init__") && (ap.endLine == cp.line) && nmB fs xs && stoB self (ixs 1 fs) ss
  | _ => false
/-- what it promises: the fields stand in the new dict -/
def spI (K : PySem.W.Frag) (C : Addr) (fs : List Str) : Sp := fun vs H Q _ => ∃ (a : Addr) (ws : List V), vs = .ref a :: ws ∧ ws.length = fs.length ∧ H a = some (exo a C none) ∧ ∀ dx, H dx = none → dx ≠ a → Q .non (upd (upd H a (exo a C (some dx))) dx (exd dx (fs.zip ws).reverse))
section
variable {P : Program} {w : World} {K : PySem.W.Frag} {mg : Str → Option Value} {base : Heap} {CX : CXT} {C cc cda fI : Addr} {self name qual : Str} {fs : List Str} {params : Arguments} {body : List Stmt} {scope : Scope} {dV kV doc pm ct oc : Value} {an od : Option Addr} {osl : Array (Option Value)} {ar : Arg}
abbrev iniF (name qual : Str) (params : Arguments) (body : List Stmt) (scope : Scope) (cc cda : Addr) : NF := ⟨name, qual, params, body, scope, [("__class__", cc)], cda⟩
theorem ini_ok (T : SupC P K C cc cda) (hms : mg "super" = none) (lk : K.lookup fI = some ⟨oc, od, .func (PySem.W.ksFn name qual params body scope dV kV doc pm an (.ref cda) ct cc), osl⟩) (hcd : PySem.W.codeIn K (.ref cda) qual = true) (S : NScope (self :: fs ++ [("__class__" : Str)]) (self :: fs) ["__class__"] scope)
    (hsu : scope.names.lookup ("super" : Str) = some .globalImplicit) (hp : (params.posonlyargs ++ params.args).head? = some ar) (har : ar.arg = self) (hb : iniB self fs body = true) (h0 : 0 < fs.length) (hl : fs.length < 29) (hno : ∀ f ∈ fs, PySem.W.findIn K (.ref C) f = some none)
    (hdb : ∀ f ∈ self :: fs, (f == ("__debug__" : Str)) = false ∧ (f == ("__classdict__" : Str)) = false) : FnOk P w K mg base CX 1 fI (PySem.W.ksFn name qual params body scope dV kV doc pm an (.ref cda) ct cc) (self :: fs) (spI K C fs) := by
  refine ⟨fun vs H Q E ⟨a, ws, e, hl, _⟩ => by rw [e]; simp [hl], fun A outer s H args us vs Q E hr e0 hbind r sp => ?_⟩
  obtain ⟨a, ws, rfl, hw, ea, q⟩ := sp
  subst har
  have KX : K.In s.heap := e0.mod.kin.keeps fun b o e => (e0.bs b o e).1
  have lim : s.heap.NoLimit := e0.mod.nolimit.keeps fun b o e => (e0.bs b o e).1
  refine codeAny_call_function hr.depth (KX _ _ lk) rfl S.co S.gen rfl (PySem.W.codeRec_of KX hcd) (hbind _ _ _ _ ?_)
  refine wpAny_newFunctionEnv S.nocell (fun ⟨n, _⟩ hy => S.par n (List.of_mem_zip hy).1) (fun h₁ hns hsb => ⟨lim.fresh _ hsb, ?_⟩) S.kind
  show codeAny _ _ (.func body (envF (iniF name qual params body scope cc cda) fI s.heap.objs.size)) _ _
  refine ks_codeAny_funcAt ?_
  have kp : ∀ b o, s.heap.get? b = some o → h₁.get? b = some o := fun b o e => hsb.extBut b o (Nat.ne_of_lt (Heap.lt_size e)) (Heap.get?_push_of_some _ e)
  obtain ⟨cl, cld, csl, lc⟩ := T.cell
  have CA : CellsAt (iniF name qual params body scope cc cda).cl ["__class__"] [none] s.heap H := ⟨rfl, fun y c e => by
      have e' : c = cc := by
        by_cases hy : y = ("__class__" : Str)
        · subst hy; simpa [List.lookup] using e.symm
        · have : (y == ("__class__" : Str)) = false := by simpa using hy
          simp [List.lookup, this] at e
      subst e'
      have hbase : base.get? c = _ := e0.mod.kin _ _ lc
      exact ⟨(e0.bs _ _ hbase).2, _, _, KX _ _ lc, rfl⟩, fun x y c e1 e2 => by
      have one : ∀ {z : Str} {c : Addr}, (iniF name qual params body scope cc cda).cl.lookup z = some c → z = ("__class__" : Str) := fun {z c} e => by
        by_cases hy : z = ("__class__" : Str)
        · exact hy
        · have : (z == ("__class__" : Str)) = false := by simpa using hy
          simp [List.lookup, this] at e
      rw [one e1, one e2], fun i y hi => by
      have hy : y = ("__class__" : Str) := by
        cases i with
        | zero => simpa using hi.symm
        | succ i => simp at hi
      subst hy
      refine ⟨cc, by simp [List.lookup], fun v hv => ?_⟩
      cases i with
      | zero => simp at hv
      | succ i => simp at hv⟩
  have I : Inv (ncx CX P w K mg base (ar.arg :: fs ++ [("__class__" : Str)]) (iniF name qual params body scope cc cda) fI A outer s H E) [] (startF (ar.arg :: fs ++ [("__class__" : Str)]) (V.ref a :: ws) [none]) H { s with heap := h₁, toks := s.toks + ((ar.arg :: fs).zip us).length } :=
    inv_startN S hr.hd e0 (by simp [hw]) r CA hns kp
  -- the slots
  have g0 : (startF (ar.arg :: fs ++ [("__class__" : Str)]) (V.ref a :: ws) [none])[0]? = some (some (V.ref a)) := rfl
  have gi : (ixs 1 fs).map (fun p => (startF (ar.arg :: fs ++ [("__class__" : Str)]) (V.ref a :: ws) [none])[p.2]?) = ws.map (fun y => some (some y)) := ixs_at fs ws 1 _ hw fun i hi => by
    unfold startF
    rw [List.getElem?_append_left (by simp; omega), List.getElem?_map, show 1 + i = i + 1 by omega, List.getElem?_cons_succ, List.getElem?_eq_getElem hi]
    rfl
  have vis : ∀ f ∈ ar.arg :: fs, Vis scope f := fun f hf => .inl (S.par f hf)
  have hv : ∀ p ∈ ixs 1 fs, (ar.arg :: fs ++ [("__class__" : Str)])[p.2]? = some p.1 ∧ Vis scope p.1 ∧ (p.1 == ("__debug__" : Str)) = false ∧ (p.1 == ("__classdict__" : Str)) = false := fun p hp => by
    obtain ⟨h1, h2⟩ := ixs_get fs 1 (ar.arg :: fs ++ [("__class__" : Str)]) (fun i hi => by
      rw [show 1 + i = i + 1 by omega, List.cons_append, List.getElem?_cons_succ, List.getElem?_append_left hi]) p hp
    exact ⟨h1, vis _ (List.mem_cons_of_mem _ h2), hdb _ (List.mem_cons_of_mem _ h2)⟩
  unfold iniB at hb
  split at hb
  · rename_i sn sp0 sp1 m ap xs cp ep ss
    simp only [Bool.and_eq_true, decide_eq_true_eq] at hb
    obtain ⟨⟨⟨⟨rfl, rfl⟩, hline⟩, hnm⟩, hst⟩ := hb
    obtain ⟨hstar, hxl⟩ := nm_all _ _ hnm
    cases xs with
    | nil => rw [← hxl] at h0; exact absurd h0 (Nat.lt_irrefl _)
    | cons y ys =>
      refine ks_wpAt_execs_cons (ks_wpAt_Expr_any ?_ (by simp [interactive, S.kind]) rfl)
      refine sup_call (X := ncx CX P w K mg base (ar.arg :: fs ++ [("__class__" : Str)]) (iniF name qual params _ scope cc cda) fI A outer s H E) T hms I hsu (S.frk _ (by simp)) rfl rfl (show List.lookup ("__class__" : Str) [(("__class__" : Str), cc)] = some cc by simp [List.lookup]) ⟨_, _, _, lk⟩ hp rfl (S.par _ List.mem_cons_self) g0 ea hstar (by rw [hxl]; omega) hline
        (nm_walk (ixs 1 fs) _ (by rw [ixs_names]; exact hnm) hv) (fun R hR => nm_sat (ixs 1 fs) ws R gi (hR ws (by omega))) fun s' J => ?_
      refine wpAt_of_wpAny ?_
      have tail : ∀ b : List Stmt, PSs (ncx CX P w K mg base (ar.arg :: fs ++ [("__class__" : Str)]) (iniF name qual params b scope cc cda) fI A outer s H E) ss (tSto K (ixs 1 fs)) := fun b => sto_walk (self := ar.arg) rfl (vis _ List.mem_cons_self) (hdb _ List.mem_cons_self) (ixs 1 fs) ss hst hv
      cases fs with
      | nil => exact absurd h0 (Nat.lt_irrefl _)
      | cons f r0 =>
        cases ws with
        | nil => cases hw
        | cons w0 ws =>
          refine wpAny_mono ((tail _).run [] s' _ H { nx := fun _ H' => Q .non H', rt := Q, bk := fun _ _ => False, ct := fun _ _ => False } J (sto_all (r := ixs 2 r0) (y := w0) (ys := ws) T.oex g0 (fun p hp => ?_) gi ea (by rw [ixs_len]; have : r0.length + 1 < 29 := hl; omega) fun dx n ne => ?_)) (fun fl s'' hs => ?_) fun e s'' he => he
          · obtain ⟨_, h2⟩ := ixs_get (f :: r0) 1 (ar.arg :: f :: r0 ++ [("__class__" : Str)]) (fun i hi => by
              rw [show 1 + i = i + 1 by omega, List.cons_append, List.getElem?_cons_succ, List.getElem?_append_left hi]) p hp
            exact hno _ h2
          · have := q dx n ne
            have en : ((f, 1) :: ixs 2 r0).map (·.1) = f :: r0 := ixs_names (f :: r0) 1
            rw [en]
            exact this
          · have fin : ∀ {b : List Stmt} {σ' : L2.St} {H' : Hp} {v : V} {u : Value}, Inv (ncx CX P w K mg base (ar.arg :: (f :: r0) ++ [("__class__" : Str)]) (iniF name qual params b scope cc cda) fI A outer s H E) [] σ' H' s'' → RelV v u → Q v H' → CE outer P w H s Q u s'' := fun {b σ' H' v u} J rv q => ⟨v, H', J.os, J.bare, J.base, J.hok, rv, q⟩
            cases fl with
            | ret u =>
              obtain ⟨v, σ', H', J, rv, q⟩ := hs
              exact fin J rv q
            | next =>
              obtain ⟨σ', H', J, q⟩ := hs
              exact fin (v := V.non) (u := Value.none) J rfl q
            | brk =>
              obtain ⟨_, _, _, q⟩ := hs
              exact False.elim q
            | cont =>
              obtain ⟨_, _, _, q⟩ := hs
              exact False.elim q
  · cases hb
end
end Ev
end
section
set_option maxRecDepth 100000
set_option maxHeartbeats 2000000
/-! What is known of the classes of exceptions; raise. -/
namespace Ev
open PySem PySem.Spec PyProof.Rows L2
/-- how such a class makes its instances -/
def MkOk (P : Program) (K : PySem.W.Frag) (mg : Str → Option Value) (C : Addr) (fs : List Str) : Prop :=
  (fs = [] ∧ PySem.W.excIn K C He.veBase "ValueError.__new__" = true) ∨
  (fs ≠ [] ∧ OexC K C ∧ ∃ (fI : Addr) (fd : FuncData) (ps : List Str), PySem.W.findIn K (.ref C) "__init__" = some (some (.ref fI)) ∧ PySem.W.typeIn K (.ref fI) = some (.type "function") ∧ Binds K fd ps [] ∧
    ∀ (w : World) (base : Heap) (CX : CXT), FnOk P w K mg base CX 1 fI fd ps (spI K C fs))
/-- one class -/
structure XCls (P : Program) (K : PySem.W.Frag) (mg : Str → Option Value) (c : ClsD) (C : Addr) : Prop where
  mg_ : mg c.name = some (.ref C)
  keep : PySem.W.keepIn K (.ref C) = true
  sub : PySem.W.subIn K (.ref C) (.type "BaseException") = some true
  ty : PySem.W.typeIn K (.ref C) = some (.type "type")
  isC : ExcC K C
  xf : XfC K C
  make : MkOk P K mg C c.flds
  nof : ∀ f ∈ c.flds, PySem.W.findIn K (.ref C) f = some none
/-- the table -/
structure XTab (P : Program) (K : PySem.W.Frag) (mg : Str → Option Value) (cl : List ClsD) : Prop where
  at_ : ∀ (k : Nat) (c : ClsD), cl[k]? = some c → ∃ C, XCls P K mg c C
  two : ∀ (k j : Nat) (c d : ClsD) (C D : Addr), cl[k]? = some c → cl[j]? = some d → mg c.name = some (.ref C) → mg d.name = some (.ref D) → PySem.W.exmOne K (.ref C) (.ref D) = some (d.subs.contains k) ∧ PySem.W.kitOne K (.ref C) (.ref D) = some (d.subs.contains k)
section
variable {X : Cx} {W : XW} {fl : Flags} {c : CallF} {pos p : Pos}
/-- an exception without fields, one with them: how it comes to be -/
theorem excRep0 {w : World} {K : PySem.W.Frag} {mg : Str → Option Value} {cl : List ClsD} {k : Nat} {d : ClsD} {C : Addr} {Hf H : Hp} (h : cl[k]? = some d) (hm : mg d.name = some (.ref C)) (e : d.flds = []) : ExcRep w K mg cl ⟨k, []⟩ (.ref C) none Hf H := ⟨d, C, h, hm, rfl, by rw [e]; rfl, .inl ⟨rfl, rfl⟩⟩
theorem zip_fst : ∀ {fs : List Str} {ds : List D}, ds.length = fs.length → (fs.zip ds).map (·.1) = fs
  | [], [], _ => rfl
  | [], _ :: _, h => by cases h
  | _ :: _, [], h => by cases h
  | f :: fs, d :: ds, h => by simp [zip_fst (by simpa using h)]
theorem zip_look : ∀ {fs : List Str} {ds : List D} {vs : List V} {w : World} {K : PySem.W.Frag} {H : Hp}, ds.length = fs.length → Reps w K H ds vs → ∀ f d, (fs.zip ds).lookup f = some d → ∃ v, (fs.zip vs).lookup f = some v ∧ Rep w K H d v
  | [], _, _, _, _, _, _, _, f, d, e => by simp at e
  | g :: fs, [], _, _, _, _, h, _, _, _, _ => by cases h
  | g :: fs, d0 :: ds, vs, w, K, H, h, r, f, d, e => by
    simp only [Reps] at r
    obtain ⟨v, vr, rfl, q, r⟩ := r
    by_cases hf : f = g
    · subst hf
      have e' : d0 = d := by simpa [List.lookup] using e
      subst e'
      exact ⟨v, by simp [List.lookup], q⟩
    · have b : (f == g) = false := by simpa using hf
      have e' : (fs.zip ds).lookup f = some d := by simpa [List.lookup, b] using e
      obtain ⟨u, k1, k2⟩ := zip_look (by simpa using h) r f d e'
      exact ⟨u, by simpa [List.lookup, b] using k1, k2⟩
theorem look_rev : ∀ {l : List (Str × V)}, (l.map (·.1)).Nodup → ∀ f, l.reverse.lookup f = l.lookup f
  | [], _, f => rfl
  | (g, v) :: l, nd, f => by
    rw [List.map_cons, List.nodup_cons] at nd
    rw [List.reverse_cons, List.lookup_append, look_rev nd.2 f]
    by_cases hf : f = g
    · subst hf
      have : l.lookup f = none := by
        cases e : l.lookup f with
        | none => rfl
        | some u => exact absurd (List.mem_map.mpr ⟨_, PySem.mem_of_lookup e, rfl⟩) nd.1
      rw [this]
      simp [List.lookup]
    · have b : (f == g) = false := by simpa using hf
      cases e : l.lookup f <;> simp [List.lookup, b, e]
theorem sub_upd {Hf H : Hp} {a : Addr} {o : HO} (s : Sub Hf H) (n : H a = none) : Sub Hf (upd H a o) := fun b u e => by
  have hb : b ≠ a := fun z => by rw [z, s.none n] at e; cases e
  rw [upd_ne hb]; exact s b u e
/-- raise C(..) -/
theorem rs_rse {cl : List ClsD} {k : Nat} {d : ClsD} {fs : List Str} {es : Exs} {x : Str} {xs : List Expr} {CX : CXT} {qt : Bool} {rp : Pos} (hc : X.calm = true) (T : XTab X.prog X.K X.mg cl) (hd : cl[k]? = some d) (hx : d.name = x) (hf : d.flds = fs) (hnd : fs.Nodup) (tk : Takes X (fun cv dx σ H => EK X cl W σ cv dx H)) (hp : Passes CX X (fun _ _ _ => False)) (hr : Room 2 X.A)
    (hg : Gl X x) (hdb : (x == ("__debug__" : Str)) = false) (hl : xs.length = fs.length) (h30 : fs.length < 30) (hs : xs.all noStar = true) (h0 : xs = [] → es = .nil) (ha : PA X xs (sF X W (evf fl c es))) :
    PS X (.Raise (some (.Call (.Name x p) xs [] pos)) none rp) (sV qt X W (evS fl c (.rse k fs es))) := by
  obtain ⟨C, A⟩ := T.at_ k d hd
  subst hx hf
  have R : Raises X (.ref C) := raises_own A.sub A.ty
  rcases A.make with ⟨e0, q⟩ | ⟨ne, oex, fI, fd, ps, h1, h2, h3, h4⟩
  · -- no __init__ of its own: no argument
    have hxs : xs = [] := by
      cases xs with
      | nil => rfl
      | cons _ _ => rw [e0] at hl; cases hl
    subst hxs
    have pm : PMk X (.Call (.Name d.name p) [] [] pos) (fun _ H Q => Q (.ref C) none H) := by
      intro pins s σ H Q I h
      refine wpAny_Call_Name_kw (ld_glob I hg A.mg_ ?_ hdb)
      refine PySem.W.callWith_K0 I.kIn A.keep ?_
      show wpAny _ _ (PySem.call (.ref C) []) _ _ _
      obtain ⟨bm, N, nm, qn, bs, hdct, sn, sub, ab, col, dd, k0, k1, k2, k3, k5, mN, hC, hN, hni, T2⟩ := exc_obj I.kIn q
      exact wpAny_call_exc_subT F.excBase_ValueError T2 hC hN hni (fun h' e hm => mk_of I hm R h (I.hok.gone hm.new)) (Nat.zero_le _)
    have he := h0 rfl
    subst he
    refine PSimp (ps_raise hc tk pm) fun D σ H ⟨Hf, ρ, S, g⟩ => ?_
    have g' : GoesS qt W Hf H ρ σ (if ([] : List Ev.D).length = d.flds.length then some (.error ⟨k, d.flds.zip []⟩) else none) (Wants X.w X.K Hf H ρ σ D) := by
      unfold evS evf at g
      exact g
    rw [e0] at g'
    exact ⟨⟨k, []⟩, Hf, excRep0 hd A.mg_ e0, S.sub, g' σ (fun _ => rfl) Hf H S.sub Step.refl⟩
  · cases xs with
    | nil =>
      exfalso
      apply ne
      cases hq : d.flds with
      | nil => rfl
      | cons _ _ => rw [hq] at hl; cases hl
    | cons y ys =>
      have hs' := hs
      rw [List.all_cons, Bool.and_eq_true] at hs'
      have pm := pmk_oex (X := X) (x := d.name) (p := p) (pos := pos) oex h1 h2 (h4 X.w X.base CX) hr h3 .nil hp hg A.mg_ ha hdb (star_ne hs'.1) (noStars_any hs'.2)
      refine PSimp (ps_raise hc tk pm) fun D σ H ⟨Hf, ρ, S, g⟩ => ?_
      unfold evS at g
      refine ⟨Hf, ρ, S, (GoesS.bdE g).imp fun ds ρ1 _ q vs Hf1 H1 P1 R1 => ?_⟩
      simp only at q
      split at q
      · rename_i hz
        have hvl : vs.length = d.flds.length := by rw [← hz]; exact R1.length.symm ▸ rfl
        refine ⟨by rw [hvl]; omega, fun a n => ⟨a, vs, by simp, hvl, upd_same, fun dx nd ne' => ⟨rfl, dx, (d.flds.zip vs).reverse, ?_, upd_same, ?_, ?_⟩⟩⟩
        · rw [upd_ne (Ne.symm ne'), upd_same]
        · rw [upd_ne ne'] at nd; exact nd
        · rw [upd_ne ne'] at nd
          have eH : upd (del (upd (upd (upd H1 a (exo a C none)) a (exo a C (some dx))) dx (exd dx (d.flds.zip vs).reverse)) a) dx (.xd (d.flds.zip vs).reverse) = upd H1 dx (.xd (d.flds.zip vs).reverse) := funext fun b => by
            by_cases hb : b = dx
            · subst hb; rw [upd_same, upd_same]
            · rw [upd_ne hb, upd_ne hb]
              by_cases ha' : b = a
              · subst ha'; rw [del_same, n]
              · rw [del_ne ha', upd_ne hb, upd_ne ha', upd_ne ha']
          rw [eH]
          have sb : Sub Hf1 (upd H1 dx (.xd (d.flds.zip vs).reverse)) := sub_upd P1.slots.sub nd
          have ndz : ((d.flds.zip vs).map (·.1)).Nodup := by
            rw [List.map_fst_zip (by omega)]
            exact hnd
          refine ⟨⟨k, d.flds.zip ds⟩, Hf1, ⟨d, C, hd, A.mg_, rfl, zip_fst hz, .inr ⟨dx, _, rfl, upd_same, fun f x e => ?_⟩⟩, sb, q σ (fun _ => rfl) Hf1 _ sb (P1.step.trans (N := fun _ => False) (Step.new nd) fun _ z => z.elim)⟩
          rw [look_rev ndz]
          exact zip_look hz R1 f x e
      · exact q.elim
end
end Ev
end
section
set_option maxHeartbeats 200000
set_option maxRecDepth 100000
/-! A small form that stands for a text's own: its walk is the text's. -/
namespace Ev
open PySem PySem.Spec PyProof.Rows L2

section
variable (w : World) (K : PySem.W.Frag)
/-- o[k] = v, by values -/
def rSetD : V → V → V → Hp → (Hp → Prop) → Prop := fun o i v H Q => ∃ Hf a d dk dv d', o = .ref a ∧ Sub Hf H ∧ Hf a = none ∧ OwnAt w K Hf H a d ∧ Rep w K Hf dk i ∧ Rep w K Hf dv v ∧ setD d dk dv = some d' ∧
  ∀ H', Sub Hf H' → Step (fun b => b = a) Hf H Hf H' → OwnAt w K Hf H' a d' → Q H'
end
/-- the pairs of a display -/
structure PPsD (X : Cx) (pos : Pos) (keys : List (Option Expr)) (values : List Expr) (t : L2.St → Hp → (List (V × V) → Hp → Prop) → Prop) : Prop where
  run : ∀ (pins : List (Addr × Obj)) (s : Shared) (σ : L2.St) (H : Hp) (Q : List (V × V) → Hp → Prop), Inv X pins σ H s → t σ H Q →
    wpAny (model X.prog X.w) X.A (evalPairs (pairTrees keys values X.env pos)) (fun vs s' => ∃ ps H', Inv X pins σ H' s' ∧ VV ps vs ∧ Q ps H') X.xe s
def RepPs (w : World) (K : PySem.W.Frag) (Hf : Hp) : List (D × D) → List (V × V) → Prop
  | [], ps => ps = []
  | (k, v) :: r, ps => ∃ x y pr, ps = (x, y) :: pr ∧ Rep w K Hf k x ∧ Rep w K Hf v y ∧ RepPs w K Hf r pr
def sPs (X : Cx) (W : XW) (f : Env → M (List (D × D) × Env)) : L2.St → Hp → (List (V × V) → Hp → Prop) → Prop := fun σ H Q =>
  ∃ Hf ρ, Slots X.w X.K Hf H ρ σ ∧ Goes W Hf H ρ σ (f ρ) fun r ρ' => ∀ ps Hf' H', Post X.w X.K Hf H ρ Hf' H' ρ' σ → RepPs X.w X.K Hf' r ps → Q ps H'
theorem ppd_nil {X : Cx} {W : XW} {pos : Pos} {fl : Flags} {c : CallF} : PPsD X pos [] [] (sPs X W (evd fl c .nil)) := ⟨fun pins s σ H Q I ⟨Hf, ρ, S, g⟩ => pairTrees_nil_walk ⟨[], H, I, .nil, g [] Hf H (Post.refl S) rfl⟩⟩
theorem RepPs.mono {w : World} {K : PySem.W.Frag} {Hf Hf' : Hp} (s : Sub Hf Hf') : ∀ {kvs : List (D × D)} {ps : List (V × V)}, RepPs w K Hf kvs ps → RepPs w K Hf' kvs ps
  | [], _, h => h
  | (k, v) :: r, _, ⟨x, y, pr, e, h1, h2, h3⟩ => ⟨x, y, pr, e, h1.mono s, h2.mono s, h3.mono s⟩
theorem ppd_cons {X : Cx} {W : XW} {pos : Pos} {fl : Flags} {c : CallF} {ek ev' : Ex} {ds : Ds} {k v : Expr} {ks : List (Option Expr)} {vs : List Expr} (hk : PE X k (sE X W (ev fl c ek))) (hv : PE X v (sE X W (ev fl c ev'))) (hr : PPsD X pos ks vs (sPs X W (evd fl c ds))) :
    PPsD X pos (some k :: ks) (v :: vs) (sPs X W (evd fl c (.cons ek ev' ds))) := ⟨fun pins s σ H Q I ⟨Hf, ρ, S, g⟩ => by
  unfold evd at g
  refine pairTrees_cons_walk (thn ((sD_of hk).run pins s σ H (fun x H1 => sD X W (ev fl c ev') σ H1 fun y H2 => sPs X W (evd fl c ds) σ H2 fun ps H3 => Q ((x, y) :: ps) H3) I ?_) fun u s1 ⟨x, H1, I1, rx, q1⟩ => thn ((sD_of hv).run pins s1 σ H1 _ I1 q1) fun w2 s2 ⟨y, H2, I2, ry, q2⟩ =>
    thn (hr.run pins s2 σ H2 _ I2 q2) fun ws s3 ⟨ps, H3, I3, rel, q3⟩ => ⟨(x, y) :: ps, H3, I3, .cons ⟨rx, ry⟩ rel, q3⟩)
  exact Goes.read S g fun r ρ1 x Hf1 H1 _ P1 R1 q1 => Goes.read P1.slots q1 fun r2 ρ2 y Hf2 H2 _ P2 R2 q2 => ⟨Hf2, ρ2, P2.slots, (Goes.bd q2).imp fun kvs ρ3 _ q3 ps Hf3 H3 P3 R3 => q3 ((x, y) :: ps) Hf3 H3 (Post.trans S P1 (Post.trans P1.slots P2 P3)) ⟨x, y, ps, rfl, Rep.mono P3.step.sub (Rep.mono P2.step.sub R1), Rep.mono P3.step.sub R2, R3⟩⟩⟩
def bltIsTy : Blt → Bool
  | .int => true | .str => true | .tuple => true | .list => true | .dict => true
  | _ => false
def bltVal (b : Blt) : Value := if bltIsTy b then .type (bltName b) else .builtin (bltName b)
def mthId : Mth → String
  | .get => "dict.get" | .join => "str.join" | .split => "str.split" | .index => "list.index" | .count => "list.count"
def mutId : Mut → String
  | .append => "list.append" | .pop => "list.pop" | .reverse => "list.reverse" | .extend => "list.extend" | .update => "dict.update"
/-- min(l, default=i), max(l, default=i): by values -/
def rMxd (w : World) (K : PySem.W.Frag) (least : Bool) (i : Int) : V → Hp → VK → Prop := fun x H Q => ∃ Hf d r, Sub Hf H ∧ Opr w K Hf H d x ∧ mxdD least i d = some r ∧ Ends1 w K Hf H r Q
def MxdR (X : Cx) (least : Bool) : Prop := ∀ (i : Int) (pins : List (Addr × Obj)) (s : Shared) (σ : L2.St) (H : Hp) (x : V) (v : Value) (kt : Tok) (Q : VK), Inv X pins σ H s → RelV x v → rMxd X.w X.K least i x H Q →
  wpAny (model X.prog X.w) X.A (PySem.call (.builtin (if least then "min" else "max")) [v] [(Str.ofString "default", .int i kt)]) (EP X pins σ Q) X.xe s
/-- the rules of the values -/
structure Rules (X : Cx) : Prop where
  bin : ∀ o, OpR X (binaryOp (bopOf o)) (rD2 X.w X.K (binD o))
  cmp : ∀ o, OpR X (compareOp (copOf o)) (rD2 X.w X.K (fun x y => (cmpD o x y).map fun b => .val (.bool b)))
  idx : IxR X (rD2 X.w X.K (fun x y => (idxD x y).map .val))
  sl : SlR X (rSlD X.w X.K)
  blt : ∀ b, CallR X (bltVal b) (rDs X.w X.K (bltD b))
  mth : ∀ m, MtR X (mthId m) (rDm X.w X.K (mthD m))
  mt : ∀ m, MtR X (mutId m) (rDu X.w X.K (mutD m))
  set : PSet X (rSetD X.w X.K)
  mxd : ∀ least, MxdR X least
  dct : ∀ (W : XW) (fl : Flags) (c : CallF) (ds : Ds) (ks : List (Option Expr)) (vs : List Expr) (pos : Pos), ks.all (·.isSome) = true → ks.length = vs.length → (ks = [] ↔ ds = .nil) → PPsD X pos ks vs (sPs X W (evd fl c ds)) → PE X (.Dict ks vs pos) (sE X W (ev fl c (.dct ds)))
/-- a constant as a value -/
def conV : D → Option V
  | .none => some .non
  | .bool b => some (.bl b)
  | .int i => some (.int i)
  | .str x => some (.str x)
  | _ => none
theorem conV_rep {w : World} {K : PySem.W.Frag} {H : Hp} {d : D} {v : V} (h : conV d = some v) : Rep w K H d v := by
  cases d <;> cases h <;> simp [Rep]
/-- a constant that stands at the top of the text -/
def GlV (K : PySem.W.Frag) (mg : Str → Option Value) (x : Str) (d : D) : Prop := ∃ v u, mg x = some u ∧ RelV v u ∧ ∀ w H, Rep w K H d v
/-- the rule of comparisons, in an except suite too -/
def CmpR : Prop := ∀ Y : Cx, Y.A.units + 70 < cLine → ∀ o, OpR Y (compareOp (copOf o)) (rD2 Y.w Y.K (fun x y => (cmpD o x y).map fun b => .val (.bool b)))
/-- where a walk stands -/
structure Ctx (CX : CXT) (X : Cx) (N : List Str) (FN : Nms) (sc : Scope) (fl : Flags) (c : CallF) (lvl : Nat) (W : XW) : Prop where
  calm : X.calm = true
  names : X.N = N
  nodup : N.Nodup
  scope : X.env.scope = sc
  room : Room lvl X.A
  blt : ∀ b ∈ bltNames, X.mg b = none
  fns : ∀ f x, FN.fn[f]? = some x → FnAt CX X FN.cl lvl fl c f x
  gls : ∀ x d, FN.gl.lookup x = some d → GlV X.K X.mg x d
  pass : ∀ σ, PassesAt CX X σ (EK X FN.cl W σ)
  takes : Takes X (fun cv dx σ H => EK X FN.cl W σ cv dx H)
  nox : ∀ o H s (E : XK) e s', (∀ cv dx H', ¬ E cv dx H') → ¬ CX o H s E e s'
  lv2 : 2 ≤ lvl
  cls : XTab X.prog X.K X.mg FN.cl
  cmps : CmpR
  cxEq : CX = L2.CX X.prog X.w
  rules : ∀ Y : Cx, Y.calm = true → Room lvl Y.A → Rules Y
section
variable {CX : CXT} {X : Cx} {N : List Str} {FN : Nms} {sc : Scope} {fl : Flags} {c : CallF} {lvl : Nat} {W : XW}
theorem gl_of {x : Str} (C : Ctx CX X N FN sc fl c lvl W) (h : gloB sc x = true) : Gl X x := by
  unfold gloB at h
  rw [← C.scope] at h
  split at h
  · rename_i e; exact e
  · cases h
theorem okBlt_spec {n : String} {x : Str} (C : Ctx CX X N FN sc fl c lvl W) (h : okBlt sc n x = true) : x = Str.ofString n ∧ Gl X x := by
  unfold okBlt at h
  rw [Bool.and_eq_true] at h
  exact ⟨of_decide_eq_true h.1, gl_of C h.2⟩
/-- within a comprehension -/
theorem Ctx.blk (C : Ctx CX X N FN sc fl c lvl W) (s : Shared) (H : Hp) (scope : Scope) (C0 : Addr) (cl : List (Str × Addr)) (fp : List Addr) : Ctx CX (X.blk s H scope (compEnvC scope cl C0 X.env) fp) N FN (relS scope sc) fl c lvl WF where
  calm := C.calm
  names := C.names
  nodup := C.nodup
  scope := by rw [← C.scope]; rfl
  room := C.room
  blt := C.blt
  fns := fun f x h => C.fns f x h
  gls := C.gls
  pass := fun σ pins H' s' e s'' I h => (C.nox _ _ _ _ _ _ (fun cv dx H' ⟨_, _, _, _, z⟩ => z) h).elim
  takes := fun u s' ⟨_, _, _, _, _, _, _, _, _, _, _, _, _, _, _, _, ⟨_, _, _, _, z⟩⟩ => z.elim
  nox := C.nox
  lv2 := C.lv2
  cls := C.cls
  cmps := C.cmps
  cxEq := C.cxEq
  rules := C.rules
theorem blk_loc {scope : Scope} {s : Shared} {H : Hp} {C0 : Addr} {cl : List (Str × Addr)} {fp : List Addr} (x : Str) (h : loccB scope x = true) :
    Loc (X.blk s H scope (compEnvC scope cl C0 X.env) fp).env.scope x ∧ ((X.blk s H scope (compEnvC scope cl C0 X.env) fp).fn x = true ∨ (X.blk s H scope (compEnvC scope cl C0 X.env) fp).env.scope.names.lookup x = some .local) := by
  have keep : ∀ k, k ≠ NameKind.free → scope.names.lookup x = some k → (relS scope X.env.scope).names.lookup x = some k := fun k hk e => lookup_relS_keep hk e
  unfold loccB at h
  split at h
  · rename_i e
    have q := keep .local (by decide) e
    exact ⟨.inl q, .inr q⟩
  · rename_i e
    have q := keep .cell (by decide) e
    exact ⟨.inr q, .inl (by show (scope.names.lookup x == some .cell) = true; rw [e]; rfl)⟩
  · cases h
theorem isTrue_plainT {x : Expr} {env : PySem.Env} (h : plainT x = true) (wh : Sem Value) : isTrue x env wh = (do let v ← wh; standAt x.pos; holding [v] (truthy v)) := by
  cases x with
  | UnaryOp op a p => cases op <;> first | rfl | cases h
  | BoolOp _ _ _ => cases h
  | IfExp _ _ _ _ => cases h
  | Compare _ _ _ _ => cases h
  | _ => rfl
theorem plainIx_ne {b : Expr} (h : (match b with | .Slice _ _ _ _ => false | _ => true) = true) : PlainIx b := by
  cases b <;> first | (intro o i; rfl) | cases h
/-- a comparison tells a bool -/
theorem isCmp_bool {a : Ex} {ρ ρ' : Env} {r : Sl} (h : isCmp a = true) (e : ev fl c a ρ = some (.ok (r, ρ'))) : ∃ b, r = .val (.bool b) := by
  have lf : ∀ {o : Option Bool} {ρ1 : Env}, lift (o.map fun b => Sl.val (.bool b)) ρ1 = some (.ok (r, ρ')) → ∃ b, r = .val (.bool b) := fun {o ρ1} e => by
    cases o with
    | none => cases e
    | some b => cases e; exact ⟨b, rfl⟩
  cases a with
  | cmp o a b =>
    unfold ev at e
    obtain ⟨p, _, e⟩ := bd_ok e
    obtain ⟨q, _, e⟩ := bd_ok e
    split at e
    · exact lf e
    · cases e
  | chn o o' a b d =>
    unfold ev at e
    obtain ⟨p, _, e⟩ := bd_ok e
    obtain ⟨q, _, e⟩ := bd_ok e
    split at e
    · cases e; exact ⟨false, rfl⟩
    · obtain ⟨t, _, e⟩ := bd_ok e
      exact lf e
    · cases e
  | isn ng a =>
    unfold ev at e
    obtain ⟨p, _, e⟩ := bd_ok e
    split at e
    · cases e; exact ⟨_, rfl⟩
    · cases e; exact ⟨_, rfl⟩
    · cases e
  | isb ng b a =>
    unfold ev at e
    obtain ⟨p, _, e⟩ := bd_ok e
    split at e
    · cases e; exact ⟨_, rfl⟩
    · cases e
  | _ => cases h
theorem isCmp_notVar {a : Ex} (h : isCmp a = true) : notVar a = true := by cases a <;> first | rfl | cases h
theorem pt_cmpTest {a : Ex} {x : Expr} (hc : isCmp a = true) (h : PT X x (tTest (sE X W (ev fl c a)))) : PT X x (sT X W (evt fl c (.tr a))) := PTimp h fun σ H Q ⟨Hf, ρ, S, g⟩ => by
  unfold evt at g
  rw [evoOf_ne (isCmp_notVar hc)] at g
  show sE X W (ev fl c a) σ H fun x H' => ∃ k, x = .bl k ∧ Q k H'
  have g' := Goes.bd g
  refine ⟨Hf, ρ, S, (Goes.bd g').imp fun r ρ1 e q v Hf1 H1 P R => ?_⟩
  obtain ⟨b, rfl⟩ := isCmp_bool hc e
  have e2 : v = .bl b := by simpa [ResR, Rep] using R
  subst e2
  exact ⟨b, rfl, q Hf1 H1 P⟩
theorem tru_opr {Hf H : Hp} {w : World} {K : PySem.W.Frag} {d : D} {v : V} {b : Bool} (s : Sub Hf H) (h : Opr w K Hf H d v) (e : truD d = some b) : TruV K v H b := by
  cases d with
  | none =>
    have e1 : v = .non := by simpa [Opr, Rep] using h
    subst e1; cases e; rfl
  | bool k =>
    have e1 : v = .bl k := by simpa [Opr, Rep] using h
    subst e1; cases e; rfl
  | int k =>
    have e1 : v = .int k := by simpa [Opr, Rep] using h
    subst e1; cases e; rfl
  | str k =>
    have e1 : v = .str k := by simpa [Opr, Rep] using h
    subst e1
    simp only [truD] at e
    split at e
    · rename_i hz
      cases e
      refine ⟨hz, ?_⟩
      cases q : k.length with
      | zero => rfl
      | succ n => simp <;> omega
    · cases e
  | tuple ds =>
    obtain ⟨a, xs, e1, q, r⟩ : ∃ a xs, v = .ref a ∧ SqT K Hf a xs ∧ Reps w K Hf ds xs := by simpa [Opr, Rep] using h
    subst e1
    cases e
    refine .inr (.inl ⟨xs, sub_t s q, ?_⟩)
    have hl := r.length
    cases ds <;> cases xs <;> first | rfl | cases hl
  | list ds =>
    obtain ⟨a, xs, e1, q, r⟩ := h
    subst e1
    cases e
    refine .inl ⟨xs, q, ?_⟩
    have hl := r.length
    cases ds <;> cases xs <;> first | rfl | cases hl
  | dict kvs => cases e
theorem pt_plain {a : Ex} {x : Expr} (hp : plainT x = true) (h : PE X x (sO X W (evoOf a (ev fl c a)))) : PT X x (sT X W (evt fl c (.tr a))) := PTimp (pt_truth h (isTrue_plainT hp)) fun σ H Q ⟨Hf, ρ, S, g⟩ => by
  unfold evt at g
  refine Goes.read S g fun o ρ1 v Hf1 H1 _ P R q => ?_
  simp only at q
  split at q
  · rename_i d e1
    obtain ⟨b, e2, q2⟩ := Goes.lift q
    exact ⟨b, tru_opr P.slots.sub (R.opr P.slots e1) e2, q2 Hf1 H1 P⟩
  · exact q.elim
theorem chkEs_all : ∀ {es : Exs} {xs : List Expr}, chkEs N FN sc es xs = true → xs.all noStar = true
  | .nil, xs, h => by
    unfold chkEs at h
    split at h
    · rfl
    · cases h
  | .cons e es, xs, h => by
    unfold chkEs at h
    split at h
    · rename_i x r
      simp only [Bool.and_eq_true] at h
      rw [List.all_cons, Bool.and_eq_true]
      exact ⟨h.1.1, chkEs_all h.2⟩
    · cases h
theorem chkEs_nil {es : Exs} (h : chkEs N FN sc es [] = true) : es = .nil := by
  cases es with
  | nil => rfl
  | cons e es => unfold chkEs at h; cases h
theorem sameCon1_eq {a b : D} (h : sameCon1 a b = true) : a = b := by
  cases a <;> cases b <;> first | rfl | (simp [sameCon1] at h; done) | (simp [sameCon1] at h; rw [h])
theorem sameCons_eq : ∀ {a b : List D}, sameCons a b = true → a = b
  | [], [], _ => rfl
  | [], _ :: _, h => by cases h
  | _ :: _, [], h => by cases h
  | x :: xs, y :: ys, h => by
    unfold sameCons at h
    rw [Bool.and_eq_true] at h
    rw [sameCon1_eq h.1, sameCons_eq h.2]
theorem sameCon_eq {a b : D} (h : sameCon a b = true) : a = b := by
  unfold sameCon at h
  split at h
  · rw [sameCons_eq h]
  · exact sameCon1_eq h
theorem re_glo {x y : Str} {d : D} {p : Pos} (C : Ctx CX X N FN sc fl c lvl W) (h1 : y = x) (h2 : gloB sc y = true) (h3 : (y == ("__debug__" : Str)) = false) (h4 : gloOk FN.gl x d = true) : PE X (.Name y p) (sE X W (ev fl c (.glo x d))) := by
  subst h1
  unfold gloOk at h4
  split at h4
  · rename_i e he
    have := sameCon_eq h4
    subst this
    obtain ⟨v, u, k2, k3, k1⟩ := C.gls _ _ he
    refine ⟨fun pins s σ H Q I ⟨Hf, ρ, S, g⟩ => ld_glob I (gl_of C h2) k2 ?_ h3⟩
    unfold ev at g
    exact ⟨v, H, I, k3, g v Hf H (Post.refl S) (k1 _ _)⟩
  · cases h4
theorem re_mxd {least : Bool} {e : Ex} {i : Int} {f k : Str} {y : Expr} {j : Nat} {p p2 kp pos : Pos} (hr : MxdR X least) (hg : Gl X f) (hm : X.mg f = none) (hf : f = Str.ofString (if least then "min" else "max")) (hk : k = "default") (hs : noStar y = true) (hy : PE X y (sO X W (evoOf e (ev fl c e)))) :
    PE X (.Call (.Name f p) [y] [⟨some k, .Constant (.int i) j p2, kp⟩] pos) (sE X W (ev fl c (.mxd least e i))) := by
  subst hk
  have hv : bootBuiltins f = some (.builtin (if least then "min" else "max")) := by subst hf; cases least <;> decide +kernel
  have hn : f ≠ "__name__" := by subst hf; cases least <;> decide +kernel
  have hd : (f == ("__debug__" : Str)) = false := by subst hf; cases least <;> decide +kernel
  refine ⟨fun pins s σ H Q I ⟨Hf, ρ, S, g⟩ => ?_⟩
  refine wpAny_Call_Name_kw (ld_blt I hg hm hv ?_ hn hd)
  have ha : PA X [y] (tCons (sO X W (evoOf e (ev fl c e))) tNil) := pa_cons hy pa_nil (star_ne hs)
  have he : backTo pos (starEach [y] X.env) = (false, eval y X.env) :: backTo pos (starEach [] X.env) := by rw [star_ne hs]; rfl
  unfold ev at g
  refine PyProof.Rows.callWith_kw (thn (ha.run pos pins s σ H (fun vs H1 => ∃ v, vs = [v] ∧ rMxd X.w X.K least i v H1 Q) I (Goes.read S g fun o1 ρ1 v1 Hf1 H1 _ P1 R1 q1 => ?_)) fun us s1 ⟨vs, H1, I1, r1, v, ev1, q1⟩ => ?_) he (by rw [he]; rfl)
  · simp only at q1
    split at q1
    · rename_i x e1
      obtain ⟨r, e2, q2⟩ := Goes.lift q1
      exact ⟨v1, rfl, Hf1, x, r, P1.slots.sub, R1.opr P1.slots e1, e2, end1 P1 q2⟩
    · exact q1.elim
  · subst ev1
    have hk : PK X [⟨some "default", .Constant (.int i) j p2, kp⟩] (tCons (tC (.int i)) tNil) := pk_cons pe_int pk_nil
    refine thn (hk.run pos pins s1 σ H1 (fun ws H2 => ws = [V.int i] ∧ H2 = H1) I1 ⟨rfl, rfl⟩) fun ws s2 ⟨zs, H2, I2, r2, ez, eH⟩ => ?_
    subst ez eH
    cases r1 with
    | cons ru rn =>
      cases rn
      cases r2 with
      | cons rk rn2 =>
        cases rn2
        obtain ⟨kt, rfl⟩ := (show ∃ t, _ = Value.int i t from rk)
        exact hr i pins s2 σ _ v _ kt Q I2 ru q1
end
end Ev
end
section
set_option maxRecDepth 100000
set_option maxHeartbeats 2000000
/-! THE THEOREM: where chk says yes, the text's own run is the walk's. -/
namespace Ev
open PySem PySem.Spec PyProof.Rows L2
theorem blt_boot (b : Blt) : bootBuiltins (Str.ofString (bltName b)) = some (bltVal b) := by cases b <;> decide +kernel
theorem blt_mem (b : Blt) : Str.ofString (bltName b) ∈ bltNames := by cases b <;> decide +kernel
theorem blt_ne (b : Blt) : Str.ofString (bltName b) ≠ "__name__" ∧ (Str.ofString (bltName b) == ("__debug__" : Str)) = false := by cases b <;> decide +kernel
theorem ty_mem (t : Ty) : Str.ofString (tyName t) ∈ bltNames := by cases t <;> decide +kernel
theorem mth_facts (m : Mth) : ∃ t, mthTy m = some t ∧ (t = .list ∨ t = .dict ∨ t = .str) ∧ PlainAttrs (tyS t) ∧ Slot (tyS t) (Str.ofString (mthName m)) (mthId m) ∧ typeOf (.builtin (mthId m)) = pure (.type "method_descriptor") := by
  cases m with
  | get => exact ⟨.dict, rfl, .inr (.inl rfl), PySem.F.plainAttrs_dict, PySem.F.slot_dict_get, PySem.F.type_dict_get⟩
  | join => exact ⟨.str, rfl, .inr (.inr rfl), PySem.F.plainAttrs_str, PySem.F.slot_str_join, PySem.F.type_str_join⟩
  | split => exact ⟨.str, rfl, .inr (.inr rfl), PySem.F.plainAttrs_str, PySem.F.slot_str_split, PySem.F.type_str_split⟩
  | index => exact ⟨.list, rfl, .inl rfl, PySem.F.plainAttrs_list, PySem.F.slot_list_index, PySem.F.type_list_index⟩
  | count => exact ⟨.list, rfl, .inl rfl, PySem.F.plainAttrs_list, PySem.F.slot_list_count, PySem.F.type_list_count⟩
theorem mut_facts (m : Mut) : ∃ t, mutTy m = some t ∧ (t = .list ∨ t = .dict ∨ t = .str) ∧ PlainAttrs (tyS t) ∧ Slot (tyS t) (Str.ofString (mutName m)) (mutId m) ∧ typeOf (.builtin (mutId m)) = pure (.type "method_descriptor") := by
  cases m with
  | append => exact ⟨.list, rfl, .inl rfl, PySem.F.plainAttrs_list, PySem.F.slot_list_append, PySem.F.type_list_append⟩
  | pop => exact ⟨.list, rfl, .inl rfl, PySem.F.plainAttrs_list, PySem.F.slot_list_pop, PySem.F.type_list_pop⟩
  | reverse => exact ⟨.list, rfl, .inl rfl, PySem.F.plainAttrs_list, PySem.F.slot_list_reverse, PySem.F.type_list_reverse⟩
  | extend => exact ⟨.list, rfl, .inl rfl, PySem.F.plainAttrs_list, PySem.F.slot_list_extend, PySem.F.type_list_extend⟩
  | update => exact ⟨.dict, rfl, .inr (.inl rfl), PySem.F.plainAttrs_dict, PySem.F.slot_dict_update, PySem.F.type_dict_update⟩
section
variable {CX : CXT} {FN : Nms} {fl : Flags} {c : CallF} {lvl : Nat}
theorem ro_of {X : Cx} {N : List Str} {sc : Scope} {W : XW} (C : Ctx CX X N FN sc fl c lvl W) {e : Ex} {x : Expr} (hc : chkE N FN sc e x = true) (h : PE X x (sE X W (ev fl c e))) : PE X x (sO X W (evoOf e (ev fl c e))) := by
  cases e with
  | var i =>
    unfold chkE at hc
    split at hc
    · exact ro_var C.names C.scope hc
    · cases hc
  | _ => exact ro_ne rfl h
theorem rl_of {X : Cx} {N : List Str} {sc : Scope} {W : XW} (C : Ctx CX X N FN sc fl c lvl W) {e : Ex} {x : Expr} (hc : chkE N FN sc e x = true) (h : PE X x (sE X W (ev fl c e))) : PE X x (sO X W (evlOf e (ev fl c e))) := by
  cases e with
  | var i =>
    unfold chkE at hc
    split at hc
    · exact rl_var C.names C.scope hc
    · cases hc
  | _ => exact rl_ne rfl h
def isBo : Expr → Bool
  | .BoolOp _ _ _ => true
  | _ => false
abbrev GE (fl : Flags) (c : CallF) (X : Cx) (W : XW) (e : Ex) (x : Expr) : Prop := PE X x (sE X W (ev fl c e)) ∧ (isCmp e = true → PT X x (tTest (sE X W (ev fl c e))))
abbrev GT (fl : Flags) (c : CallF) (X : Cx) (W : XW) (t : Tx) (x : Expr) : Prop := PT X x (sT X W (evt fl c t)) ∧ (isBo x = true → PW X x (sT X W (evt fl c t)))
section
variable {X : Cx} {N : List Str} {sc : Scope} {W : XW}
theorem snd_cmp {o : Cop} {a b : Ex} (C : Ctx CX X N FN sc fl c lvl W) (x : Expr) (h : chkE N FN sc (.cmp o a b) x = true) (ha : ∀ y, chkE N FN sc a y = true → PE X y (sE X W (ev fl c a))) (hb : ∀ y, chkE N FN sc b y = true → PE X y (sE X W (ev fl c b))) : GE fl c X W (.cmp o a b) x := by
  unfold chkE at h
  split at h
  · rename_i x op y pos
    simp only [Bool.and_eq_true, decide_eq_true_eq] at h
    obtain ⟨⟨⟨hn, rfl⟩, h1⟩, h2⟩ := h
    have hm : behindInMarks (copOf o) y = false := noSet_marks hn
    have r := re_cmp (pos := pos) ((C.rules X C.calm C.room).cmp o) hm (ro_of C h1 (ha x h1)) (ro_of C h2 (hb y h2))
    exact ⟨r.1, fun _ => r.2⟩
  · cases h
theorem snd_chn {o p : Cop} {a b d : Ex} (C : Ctx CX X N FN sc fl c lvl W) (x : Expr) (h : chkE N FN sc (.chn o p a b d) x = true) (ha : ∀ y, chkE N FN sc a y = true → PE X y (sE X W (ev fl c a))) (hb : ∀ y, chkE N FN sc b y = true → PE X y (sE X W (ev fl c b))) (hd : ∀ y, chkE N FN sc d y = true → PE X y (sE X W (ev fl c d))) : GE fl c X W (.chn o p a b d) x := by
  unfold chkE at h
  split at h
  · rename_i x op op' y z pos
    simp only [Bool.and_eq_true, decide_eq_true_eq] at h
    obtain ⟨⟨⟨⟨⟨hn, rfl⟩, rfl⟩, h1⟩, h2⟩, h3⟩ := h
    have r := re_chn (pos := pos) (noSet_marks hn : lastMarks [copOf o, copOf p] [y, z] = false) ((C.rules X C.calm C.room).cmp o) ((C.rules X C.calm C.room).cmp p) (ha x h1) (hb y h2) (hd z h3)
    exact ⟨r.1, fun _ => r.2⟩
  · cases h
theorem snd_isn {ng : Bool} {a : Ex} (C : Ctx CX X N FN sc fl c lvl W) (x : Expr) (h : chkE N FN sc (.isn ng a) x = true) (ha : ∀ y, chkE N FN sc a y = true → PE X y (sE X W (ev fl c a))) : GE fl c X W (.isn ng a) x := by
  unfold chkE at h
  split at h
  · rename_i x op k p pos
    simp only [Bool.and_eq_true, decide_eq_true_eq] at h
    have r := re_isn (pos := pos) (j := k) (p2 := p) h.1 (ro_of C h.2 (ha x h.2))
    exact ⟨r.1, fun _ => r.2⟩
  · cases h
theorem snd_isb {ng k : Bool} {a : Ex} (C : Ctx CX X N FN sc fl c lvl W) (x : Expr) (h : chkE N FN sc (.isb ng k a) x = true) (ha : ∀ y, chkE N FN sc a y = true → PE X y (sE X W (ev fl c a))) : GE fl c X W (.isb ng k a) x := by
  unfold chkE at h
  split at h
  · rename_i x op k' j p pos
    simp only [Bool.and_eq_true, decide_eq_true_eq, beq_iff_eq] at h
    obtain ⟨⟨h1, rfl⟩, h2⟩ := h
    have r := re_isb (b := k') (pos := pos) (j := j) (p2 := p) h1 (ha x h2)
    exact ⟨r.1, fun _ => r.2⟩
  · cases h
/-- a comprehension's parts -/
theorem snd_comp {own : List Nat} {elt : Ex} {tg : Tg} {it : Ix} {ifs : Tx} (C : Ctx CX X N FN sc fl c lvl W) (x : Expr) (h : chkE N FN sc (.comp own elt tg it ifs) x = true)
    (hI : ∀ t y, itTg it t = true → chkI N FN sc it y = true → PI X t y (sI X W (evi fl c it)) ∧ notSet y = true) (hT : ∀ {Y : Cx} {sc' : Scope} (_ : Ctx CX Y N FN sc' fl c lvl WF) y, chkT N FN sc' ifs y = true → PT Y y (sT Y WF (evt fl c ifs)))
    (hE : ∀ {Y : Cx} {sc' : Scope} (_ : Ctx CX Y N FN sc' fl c lvl WF) y, chkE N FN sc' elt y = true → PE Y y (sE Y WF (ev fl c elt))) :
    ∃ ex tgx ix cs scope pos, x = .ListComp ex [⟨tgx, ix, cs, 0⟩] scope pos ∧ CompOk X W fl c own elt tg it ifs ex tgx ix cs scope := by
  unfold chkE at h
  split at h
  · rename_i ex t i cs scope pos
    simp only [Bool.and_eq_true, decide_eq_true_eq] at h
    obtain ⟨⟨⟨⟨⟨⟨⟨h1, h2⟩, h3⟩, h4⟩, h5⟩, h6⟩, h7⟩, h8⟩ := h
    have hi := hI t i h8 h3
    refine ⟨ex, t, i, cs, scope, pos, rfl, hi.1, ?_, by rw [C.names]; exact h2, ?_, fun s H C0 cl fp => ?_, fun s H C0 cl fp => ?_, fun s H C0 cl fp => ?_, hi.2⟩
    · rw [C.names, C.scope]; exact blkOk_by h1
    · cases tg with
      | name j =>
        intro k hk
        have e : k = j := by simpa [tgIx] using hk
        subst e
        simpa [tgIn] using h5
      | tup js =>
        intro k hk
        have := List.all_eq_true.mp h5 k hk
        simpa using this
    · exact pg_tg (X := X.blk s H scope (compEnvC scope cl C0 X.env) fp) C.calm (by show X.N.Nodup; rw [C.names]; exact C.nodup) (chkTg_spec C.names (fun y hy => blk_loc y hy) h4)
    · have C' := C.blk s H scope C0 cl fp
      split at h6
      · split at h6
        · refine ⟨fun pins s σ H Q I ⟨Hf, ρ, S, g⟩ => ?_⟩
          exact pts_nil.run pins s σ H Q I (g Hf H (Post.refl S))
        · cases h6
      · exact pts_one (hT C' _ h6)
      · cases h6
    · exact hE (C.blk s H scope C0 cl fp) _ h7
  · cases h
/-- a dict comprehension's parts -/
theorem snd_dcomp {own : List Nat} {ek ev' : Ex} {tg : Tg} {it : Ix} {ifs : Tx} (C : Ctx CX X N FN sc fl c lvl W) (x : Expr) (h : chkE N FN sc (.dcomp own ek ev' tg it ifs) x = true)
    (hI : ∀ t y, itTg it t = true → chkI N FN sc it y = true → PI X t y (sI X W (evi fl c it)) ∧ notSet y = true) (hT : ∀ {Y : Cx} {sc' : Scope} (_ : Ctx CX Y N FN sc' fl c lvl WF) y, chkT N FN sc' ifs y = true → PT Y y (sT Y WF (evt fl c ifs)))
    (hE : ∀ {Y : Cx} {sc' : Scope} (_ : Ctx CX Y N FN sc' fl c lvl WF) y, chkE N FN sc' ek y = true → PE Y y (sE Y WF (ev fl c ek)))
    (hV : ∀ {Y : Cx} {sc' : Scope} (_ : Ctx CX Y N FN sc' fl c lvl WF) y, chkE N FN sc' ev' y = true → PE Y y (sE Y WF (ev fl c ev'))) :
    ∃ kx vx tgx ix cs scope pos, x = .DictComp kx vx [⟨tgx, ix, cs, 0⟩] scope pos ∧ DCompOk X W fl c own ek ev' tg it ifs kx vx tgx ix cs scope := by
  unfold chkE at h
  split at h
  · rename_i kx vx t i cs scope pos
    simp only [Bool.and_eq_true, decide_eq_true_eq] at h
    obtain ⟨⟨⟨⟨⟨⟨⟨⟨h1, h2⟩, h3⟩, h4⟩, h5⟩, h6⟩, h7⟩, h9⟩, h8⟩ := h
    have hi := hI t i h8 h3
    refine ⟨kx, vx, t, i, cs, scope, pos, rfl, hi.1, ?_, by rw [C.names]; exact h2, ?_, fun s H C0 cl fp => ?_, fun s H C0 cl fp => ?_, fun s H C0 cl fp => ?_, fun s H C0 cl fp => ?_, hi.2⟩
    · rw [C.names, C.scope]; exact blkOk_by h1
    · cases tg with
      | name j =>
        intro k hk
        have e : k = j := by simpa [tgIx] using hk
        subst e
        simpa [tgIn] using h5
      | tup js =>
        intro k hk
        have := List.all_eq_true.mp h5 k hk
        simpa using this
    · exact pg_tg (X := X.blk s H scope (compEnvC scope cl C0 X.env) fp) C.calm (by show X.N.Nodup; rw [C.names]; exact C.nodup) (chkTg_spec C.names (fun y hy => blk_loc y hy) h4)
    · have C' := C.blk s H scope C0 cl fp
      split at h6
      · split at h6
        · refine ⟨fun pins s σ H Q I ⟨Hf, ρ, S, g⟩ => ?_⟩
          exact pts_nil.run pins s σ H Q I (g Hf H (Post.refl S))
        · cases h6
      · exact pts_one (hT C' _ h6)
      · cases h6
    · exact sD_of (hE (C.blk s H scope C0 cl fp) _ h7)
    · exact sD_of (hV (C.blk s H scope C0 cl fp) _ h9)
  · cases h
end
/-- the value of a blt call -/
theorem re_blt {X : Cx} {N : List Str} {sc : Scope} {W : XW} {b : Blt} {es : Exs} {x : Str} {p pos : Pos} {y : Expr} {xs : List Expr} (C : Ctx CX X N FN sc fl c lvl W) (hb : okBlt sc (bltName b) x = true) (hs : (y :: xs).all noStar = true) (ha : PA X (y :: xs) (sOs X W (evos fl c es))) :
    PE X (.Call (.Name x p) (y :: xs) [] pos) (sE X W (ev fl c (.blt b es))) := by
  obtain ⟨rfl, hg⟩ := okBlt_spec C hb
  have hm := C.blt _ (blt_mem b)
  have hv := blt_boot b
  have hr := (C.rules X C.calm C.room).blt b
  obtain ⟨h1, h2⟩ := blt_ne b
  unfold bltVal at hv hr
  split at hv
  · rename_i ht
    rw [if_pos ht] at hr
    exact re_bltT hr hg hm hv h1 h2 hs ha
  · rename_i ht
    rw [if_neg ht] at hr
    exact re_bltB hr hg hm hv h1 h2 hs ha
mutual
theorem sndE : ∀ (e : Ex) {X : Cx} {N : List Str} {sc : Scope} {W : XW} (_ : Ctx CX X N FN sc fl c lvl W) (x : Expr), chkE N FN sc e x = true → GE fl c X W e x
  | .stk, X, N, sc, W, C, x, h => ⟨re_stk, fun z => (by cases z)⟩
  | .var i, X, N, sc, W, C, x, h => by
    refine ⟨?_, fun z => (by cases z)⟩
    unfold chkE at h
    split at h
    · exact re_var C.names C.scope h
    · cases h
  | .con d, X, N, sc, W, C, x, h => by
    refine ⟨?_, fun z => (by cases z)⟩
    unfold chkE at h
    split at h
    · exact re_con h
    · cases h
  | .tup es, X, N, sc, W, C, x, h => by
    refine ⟨?_, fun z => (by cases z)⟩
    unfold chkE at h
    split at h
    · exact re_tup (sndEs es C _ h)
    · cases h
  | .lst es, X, N, sc, W, C, x, h => by
    refine ⟨?_, fun z => (by cases z)⟩
    unfold chkE at h
    split at h
    · exact re_lst (sndEs es C _ h)
    · cases h
  | .dct ds, X, N, sc, W, C, x, h => by
    refine ⟨?_, fun z => (by cases z)⟩
    unfold chkE at h
    split at h
    · rename_i ks vs pos
      obtain ⟨h1, h2, h3, h4⟩ := sndDs ds (W := W) C ks vs pos h
      exact (C.rules X C.calm C.room).dct W fl c ds ks vs pos h1 h2 h3 h4
    · cases h
  | .bin o a b, X, N, sc, W, C, x, h => by
    refine ⟨?_, fun z => (by cases z)⟩
    unfold chkE at h
    split at h
    · rename_i x op y pos
      simp only [Bool.and_eq_true, decide_eq_true_eq] at h
      obtain ⟨⟨rfl, h1⟩, h2⟩ := h
      exact re_bin ((C.rules X C.calm C.room).bin o) (ro_of C h1 (sndE a C x h1).1) (ro_of C h2 (sndE b C y h2).1)
    · cases h
  | .neg a, X, N, sc, W, C, x, h => by
    refine ⟨?_, fun z => (by cases z)⟩
    unfold chkE at h
    split at h
    · exact re_neg (sndE a C _ h).1
    · cases h
  | .cmp o a b, X, N, sc, W, C, x, h => snd_cmp C x h (fun y hy => (sndE a C y hy).1) (fun y hy => (sndE b C y hy).1)
  | .chn o p a b d, X, N, sc, W, C, x, h => snd_chn C x h (fun y hy => (sndE a C y hy).1) (fun y hy => (sndE b C y hy).1) (fun y hy => (sndE d C y hy).1)
  | .isn ng a, X, N, sc, W, C, x, h => snd_isn C x h (fun y hy => (sndE a C y hy).1)
  | .isb ng k a, X, N, sc, W, C, x, h => snd_isb C x h (fun y hy => (sndE a C y hy).1)
  | .and a b, X, N, sc, W, C, x, h => by
    refine ⟨?_, fun z => (by cases z)⟩
    unfold chkE at h
    split at h
    · rename_i x y pos
      simp only [Bool.and_eq_true] at h
      exact re_and1 (b := y) (sndE a C x h.1).1 (pe_one (sndE b C y h.2).1)
    · rename_i x y z r pos
      simp only [Bool.and_eq_true] at h
      exact re_and1 (b := y) (sndE a C x h.1).1 (sndE b C _ h.2).1
    · cases h
  | .or a b, X, N, sc, W, C, x, h => by
    refine ⟨?_, fun z => (by cases z)⟩
    unfold chkE at h
    split at h
    · rename_i x y pos
      simp only [Bool.and_eq_true] at h
      exact re_or1 (b := y) (sndE a C x h.1).1 (pe_one (sndE b C y h.2).1)
    · rename_i x y z r pos
      simp only [Bool.and_eq_true] at h
      exact re_or1 (b := y) (sndE a C x h.1).1 (sndE b C _ h.2).1
    · cases h
  | .not a, X, N, sc, W, C, x, h => by
    refine ⟨?_, fun z => (by cases z)⟩
    unfold chkE at h
    split at h
    · exact re_not (sndE a C _ h).1
    · cases h
  | .ite t a b, X, N, sc, W, C, x, h => by
    refine ⟨?_, fun z => (by cases z)⟩
    unfold chkE at h
    split at h
    · rename_i x y z pos
      simp only [Bool.and_eq_true] at h
      exact re_ite (sndT t C x h.1.1).1 (sndE a C y h.1.2).1 (sndE b C z h.2).1
    · cases h
  | .idx a b, X, N, sc, W, C, x, h => by
    refine ⟨?_, fun z => (by cases z)⟩
    unfold chkE at h
    split at h
    · rename_i x y pos
      simp only [Bool.and_eq_true] at h
      exact re_idx (C.rules X C.calm C.room).idx (ro_of C h.1.2 (sndE a C x h.1.2).1) (sndE b C y h.2).1 (plainIx_ne h.1.1)
    · cases h
  | .sl a lo hi, X, N, sc, W, C, x, h => by
    refine ⟨?_, fun z => (by cases z)⟩
    unfold chkE at h
    split at h
    · rename_i x l u p2 pos
      simp only [Bool.and_eq_true] at h
      exact re_sl (C.rules X C.calm C.room).sl (ro_of C h.1.1 (sndE a C x h.1.1).1) (sndO lo C l h.1.2) (sndO hi C u h.2)
    · cases h
  | .call f es, X, N, sc, W, C, x, h => by
    refine ⟨?_, fun z => (by cases z)⟩
    unfold chkE at h
    split at h
    · rename_i x p xs pos
      simp only [Bool.and_eq_true, decide_eq_true_eq, Bool.not_eq_true'] at h
      obtain ⟨⟨⟨h1, h2⟩, h3⟩, h4⟩ := h
      have F := C.fns f x h1
      cases xs with
      | nil =>
        rw [chkEs_nil h4]
        exact re_call0 F C.room (gl_of C h2) h3 C.pass
      | cons y ys => exact re_call F C.room (gl_of C h2) h3 C.pass (chkEs_all h4) (sndAs es C _ h4 (fl f))
    · cases h
  | .blt b es, X, N, sc, W, C, x, h => by
    refine ⟨?_, fun z => (by cases z)⟩
    unfold chkE at h
    split at h
    · rename_i x p xs pos
      simp only [Bool.and_eq_true] at h
      obtain ⟨⟨h1, h2⟩, h3⟩ := h
      cases xs with
      | nil => cases h2
      | cons y ys => exact re_blt C h1 (chkEs_all h3) (sndOs es C _ h3)
    · cases h
  | .isi a t, X, N, sc, W, C, x, h => by
    refine ⟨?_, fun z => (by cases z)⟩
    unfold chkE at h
    split at h
    · rename_i x p y z zp pos
      simp only [Bool.and_eq_true] at h
      obtain ⟨⟨h1, h2⟩, h3⟩ := h
      obtain ⟨e1, g1⟩ := okBlt_spec C h1
      obtain ⟨e2, g2⟩ := okBlt_spec C h2
      by_cases hs : noStar y = true
      · exact re_isi g1 e1 (C.blt _ (by rw [e1]; decide +kernel)) e2 g2 (C.blt _ (by rw [e2]; exact ty_mem t)) hs (ro_of C h3 (sndE a C y h3).1)
      · -- a starred argument is no small form
        cases y with
        | Starred v q =>
          cases a with
          | stk => exact ⟨fun pins s σ H Q I ⟨Hf, ρ, S, g⟩ => g.elim⟩
          | _ => unfold chkE at h3; cases h3
        | _ => exact absurd rfl hs
    · cases h
  | .mth m o es, X, N, sc, W, C, x, h => by
    refine ⟨?_, fun z => (by cases z)⟩
    unfold chkE at h
    split at h
    · rename_i x at_ ap xs cp
      simp only [Bool.and_eq_true, decide_eq_true_eq] at h
      obtain ⟨⟨⟨⟨⟨rfl, h2⟩, h3⟩, h4⟩, h5⟩, h6⟩ := h
      obtain ⟨t, f1, f2, f3, f4, f5⟩ := mth_facts m
      exact re_mth f1 f2 f3 f4 f5 ((C.rules X C.calm C.room).mth m) (ro_of C h5 (sndE o C x h5).1) (sndEs es C _ h6) (fun z => chkEs_nil (by rw [← z]; exact h6)) h2 (chkEs_all h6) h4 h3
    · cases h
  | .mut m i es, X, N, sc, W, C, x, h => by
    refine ⟨?_, fun z => (by cases z)⟩
    unfold chkE at h
    split at h
    · rename_i x np at_ ap xs cp
      simp only [Bool.and_eq_true, decide_eq_true_eq] at h
      obtain ⟨⟨⟨⟨rfl, h3⟩, h4⟩, h5⟩, h6⟩ := h
      obtain ⟨t, f1, f2, f3, f4, f5⟩ := mut_facts m
      exact re_mut C.names C.scope h5 f1 f2 f3 f4 f5 ((C.rules X C.calm C.room).mt m) (sndEs es C _ h6) (fun z => chkEs_nil (by rw [← z]; exact h6)) (chkEs_all h6) h4 h3
    · cases h
  | .comp own elt tg it ifs, X, N, sc, W, C, x, h => by
    obtain ⟨ex, tgx, ix, cs, scope, pos, rfl, K⟩ := snd_comp (W := W) C x h (fun t y ht hy => sndI it C t y ht hy) (fun C' y hy => (sndT ifs C' y hy).1) (fun C' y hy => (sndE elt C' y hy).1)
    exact ⟨re_comp C.calm (by rw [C.names]; exact C.nodup) K, fun z => (by cases z)⟩
  | .glo g d, X, N, sc, W, C, x, h => by
    refine ⟨?_, fun z => (by cases z)⟩
    unfold chkE at h
    split at h
    · simp only [Bool.and_eq_true, decide_eq_true_eq, Bool.not_eq_true'] at h
      exact re_glo C h.1.1.1 h.1.1.2 h.1.2 h.2
    · cases h
  | .mxd least a j, X, N, sc, W, C, x, h => by
    refine ⟨?_, fun z => (by cases z)⟩
    unfold chkE at h
    split at h
    · simp only [Bool.and_eq_true, decide_eq_true_eq] at h
      obtain ⟨⟨⟨⟨h1, h2⟩, h3⟩, h4⟩, h5⟩ := h
      subst h4
      obtain ⟨e1, g1⟩ := okBlt_spec C h1
      exact re_mxd ((C.rules X C.calm C.room).mxd least) g1 (C.blt _ (by rw [e1]; cases least <;> decide +kernel)) e1 h3 h2 (ro_of C h5 (sndE a C _ h5).1)
    · cases h
  | .dcomp own ek ev' tg it ifs, X, N, sc, W, C, x, h => by
    obtain ⟨kx, vx, tgx, ix, cs, scope, pos, rfl, K⟩ := snd_dcomp (W := W) C x h (fun t y ht hy => sndI it C t y ht hy) (fun C' y hy => (sndT ifs C' y hy).1) (fun C' y hy => (sndE ek C' y hy).1) (fun C' y hy => (sndE ev' C' y hy).1)
    exact ⟨re_dcomp C.calm (by rw [C.names]; exact C.nodup) K, fun z => (by cases z)⟩
theorem sndEs : ∀ (es : Exs) {X : Cx} {N : List Str} {sc : Scope} {W : XW} (_ : Ctx CX X N FN sc fl c lvl W) (xs : List Expr), chkEs N FN sc es xs = true → PA X xs (sF X W (evf fl c es))
  | .nil, X, N, sc, W, C, xs, h => by
    unfold chkEs at h
    split at h
    · exact rf_nil
    · cases h
  | .cons e es, X, N, sc, W, C, xs, h => by
    unfold chkEs at h
    split at h
    · rename_i x r
      simp only [Bool.and_eq_true] at h
      exact rf_cons h.1.1 (sndE e C x h.1.2).1 (sndEs es C r h.2)
    · cases h
theorem sndOs : ∀ (es : Exs) {X : Cx} {N : List Str} {sc : Scope} {W : XW} (_ : Ctx CX X N FN sc fl c lvl W) (xs : List Expr), chkEs N FN sc es xs = true → PA X xs (sOs X W (evos fl c es))
  | .nil, X, N, sc, W, C, xs, h => by
    unfold chkEs at h
    split at h
    · exact ros_nil
    · cases h
  | .cons e es, X, N, sc, W, C, xs, h => by
    unfold chkEs at h
    split at h
    · rename_i x r
      simp only [Bool.and_eq_true] at h
      exact ros_cons h.1.1 (ro_of C h.1.2 (sndE e C x h.1.2).1) (sndOs es C r h.2)
    · cases h
theorem sndAs : ∀ (es : Exs) {X : Cx} {N : List Str} {sc : Scope} {W : XW} (_ : Ctx CX X N FN sc fl c lvl W) (xs : List Expr), chkEs N FN sc es xs = true → ∀ bs, PA X xs (sOs X W (eva fl c bs es))
  | .nil, X, N, sc, W, C, xs, h, bs => by
    unfold chkEs at h
    split at h
    · exact ra_nil
    · cases h
  | .cons e es, X, N, sc, W, C, xs, h, bs => by
    unfold chkEs at h
    split at h
    · rename_i x r
      simp only [Bool.and_eq_true] at h
      exact ra_cons h.1.1 (sndE e C x h.1.2).1 (rl_of C h.1.2 (sndE e C x h.1.2).1) (sndAs es C r h.2)
    · cases h
theorem sndDs : ∀ (ds : Ds) {X : Cx} {N : List Str} {sc : Scope} {W : XW} (_ : Ctx CX X N FN sc fl c lvl W) (ks : List (Option Expr)) (vs : List Expr) (pos : Pos), chkDs N FN sc ds ks vs = true →
    ks.all (·.isSome) = true ∧ ks.length = vs.length ∧ (ks = [] ↔ ds = .nil) ∧ PPsD X pos ks vs (sPs X W (evd fl c ds))
  | .nil, X, N, sc, W, C, ks, vs, pos, h => by
    unfold chkDs at h
    split at h
    · exact ⟨rfl, rfl, ⟨fun _ => rfl, fun _ => rfl⟩, ppd_nil⟩
    · cases h
  | .cons k v ds, X, N, sc, W, C, ks, vs, pos, h => by
    unfold chkDs at h
    split at h
    · rename_i x kr y vr
      simp only [Bool.and_eq_true] at h
      obtain ⟨h1, h2, h3, h4⟩ := sndDs ds (W := W) C kr vr pos h.2
      exact ⟨by simpa using h1, by simp [h2], ⟨fun z => (by cases z), fun z => (by cases z)⟩, ppd_cons (sndE k C x h.1.1).1 (sndE v C y h.1.2).1 h4⟩
    · cases h
theorem sndO : ∀ (o : Ox) {X : Cx} {N : List Str} {sc : Scope} {W : XW} (_ : Ctx CX X N FN sc fl c lvl W) (x : Option Expr), chkO N FN sc o x = true → PO X x (tOG X.w X.K W (evx fl c o))
  | .non, X, N, sc, W, C, x, h => by
    unfold chkO at h
    split at h
    · exact ro_non
    · cases h
  | .som e, X, N, sc, W, C, x, h => by
    unfold chkO at h
    split at h
    · exact ro_som (sndE e C _ h).1
    · cases h
theorem sndT : ∀ (t : Tx) {X : Cx} {N : List Str} {sc : Scope} {W : XW} (_ : Ctx CX X N FN sc fl c lvl W) (x : Expr), chkT N FN sc t x = true → GT fl c X W t x
  | .yes, X, N, sc, W, C, x, h => by unfold chkT at h; cases h
  | .and a b, X, N, sc, W, C, x, h => by
    unfold chkT at h
    split at h
    · rename_i x y pos
      simp only [Bool.and_eq_true] at h
      have r := rt_and1 (pos := pos) (sndT a C x h.1).1 (pw_and1 (pos := pos) (sndT b C y h.2).1)
      exact ⟨r.pt, fun _ => r⟩
    · rename_i x y z r pos
      simp only [Bool.and_eq_true] at h
      have r := rt_and1 (pos := pos) (sndT a C x h.1).1 ((sndT b C _ h.2).2 rfl)
      exact ⟨r.pt, fun _ => r⟩
    · cases h
  | .or a b, X, N, sc, W, C, x, h => by
    unfold chkT at h
    split at h
    · rename_i x y pos
      simp only [Bool.and_eq_true] at h
      have r := rt_or1 (pos := pos) (sndT a C x h.1).1 (pw_or1 (pos := pos) (sndT b C y h.2).1)
      exact ⟨r.pt, fun _ => r⟩
    · rename_i x y z r pos
      simp only [Bool.and_eq_true] at h
      have r := rt_or1 (pos := pos) (sndT a C x h.1).1 ((sndT b C _ h.2).2 rfl)
      exact ⟨r.pt, fun _ => r⟩
    · cases h
  | .not a, X, N, sc, W, C, x, h => by
    unfold chkT at h
    split at h
    · exact ⟨rt_not (sndT a C _ h).1, fun z => (by cases z)⟩
    · cases h
  | .ite t a b, X, N, sc, W, C, x, h => by
    unfold chkT at h
    split at h
    · rename_i x y z pos
      simp only [Bool.and_eq_true] at h
      exact ⟨rt_ite (sndT t C x h.1.1).1 (sndT a C y h.1.2).1 (sndT b C z h.2).1, fun z => (by cases z)⟩
    · cases h
  | .tr a, X, N, sc, W, C, x, h => by
    unfold chkT at h
    split at h
    · simp only [Bool.and_eq_true] at h
      exact ⟨pt_cmpTest h.1 ((sndE a C _ h.2).2 h.1), fun z => (by cases z)⟩
    · simp only [Bool.and_eq_true] at h
      refine ⟨pt_plain h.1 (ro_of C h.2 (sndE a C _ h.2).1), fun z => ?_⟩
      cases x with
      | BoolOp o vs p => exact (by have := h.1; cases this)
      | _ => cases z
theorem sndI : ∀ (i : Ix) {X : Cx} {N : List Str} {sc : Scope} {W : XW} (_ : Ctx CX X N FN sc fl c lvl W) (tg x : Expr), itTg i tg = true → chkI N FN sc i x = true → PI X tg x (sI X W (evi fl c i)) ∧ notSet x = true
  | .seq e, X, N, sc, W, C, tg, x, _, h => by
    unfold chkI at h
    simp only [Bool.and_eq_true] at h
    refine ⟨pi_seq (sndE e C x h.2).1, ?_⟩
    have h1 := h.1
    cases x <;> first | rfl | cases h1
  | .rng1 e, X, N, sc, W, C, tg, x, _, h => by
    unfold chkI at h
    split at h
    · rename_i f p y pos
      simp only [Bool.and_eq_true] at h
      obtain ⟨e1, g1⟩ := okBlt_spec C h.1.1
      exact ⟨pi_rng1 g1 e1 (C.blt _ (by rw [e1]; decide +kernel)) h.1.2 (sndE e C y h.2).1, rfl⟩
    · cases h
  | .rng2 a b, X, N, sc, W, C, tg, x, _, h => by
    unfold chkI at h
    split at h
    · rename_i f p y z pos
      simp only [Bool.and_eq_true] at h
      obtain ⟨e1, g1⟩ := okBlt_spec C h.1.1.1.1
      exact ⟨pi_rng2 g1 e1 (C.blt _ (by rw [e1]; decide +kernel)) h.1.1.1.2 h.1.1.2 (sndE a C y h.1.2).1 (sndE b C z h.2).1, rfl⟩
    · cases h
  | .items e, X, N, sc, W, C, tg, x, ht, h => by
    have ht' : nameT tg = true := by
      cases tg <;> first | rfl | cases ht
    unfold chkI at h
    split at h
    · rename_i y m apos cpos
      simp only [Bool.and_eq_true, decide_eq_true_eq] at h
      exact ⟨pi_pairs h.1.1.1 ht' h.1.1.2 h.1.2 (sndE e C y h.2).1, rfl⟩
    · cases h
end
end
end Ev
end
section
set_option maxRecDepth 100000
set_option maxHeartbeats 2000000
/-! try: body / except C as n: suite, clause by clause. -/
namespace Ev
open PySem PySem.Spec PyProof.Rows L2
abbrev Suite := Addr → Value → Option Addr → TS
/-- the ends of a suite whose name goes -/
def endsI (D : Ends) : Option Nat → Ends
  | none => D
  | some j => { nx := fun σ H => D.nx (σ.set j none) H, rt := D.rt, bk := fun σ H => D.bk (σ.set j none) H, ct := fun σ H => D.ct (σ.set j none) H }
def slotI (σ : L2.St) (a : Addr) : Option Nat → L2.St
  | none => σ
  | some j => σ.set j (some (.ref a))
/-- what the clauses wish -/
def wCl (K : PySem.W.Frag) (Wo : WX) (D : Ends) : List (Value × Option Nat × Suite) → WX
  | [] => Wo
  | (c, i, ts) :: r => fun cls d σ H => ∃ b, PySem.W.exmOne K cls c = some b ∧ (b = true → ∀ a, H a = none → ts a cls d (endsI D i) (slotI σ a i) H) ∧ (b = false → wCl K Wo D r cls d σ H)
def nameOk (X : Cx) : Option Str → Option Nat → Prop
  | none, none => True
  | some n, some j => X.N[j]? = some n ∧ X.env.kindOf n = some .local
  | _, _ => False
inductive ClsS (X : Cx) : List ExceptHandler → List (Value × Option Nat × Suite) → Prop
  | nil : ClsS X [] []
  | cons {x : Str} {c : Value} {nm : Option Str} {i : Option Nat} {ts : Suite} {b0 : Stmt} {su : List Stmt} {np cp : Pos} {hds : List ExceptHandler} {l : List (Value × Option Nat × Suite)} (hc : Names X x c) (hn : nameOk X nm i)
      (hs : ∀ (a : Addr) (oe : Obj) (cls : Value) (d : Option Addr) (pn : List (Addr × Obj)), Zc cls d oe → (∃ vs, oe.data = .fields vs) → PSs (X.suite a ((a, oe) :: pn)) (b0 :: su) (ts a cls d)) (r : ClsS X hds l) :
      ClsS X (.ExceptHandler (some (.Name x np)) nm (b0 :: su) cp :: hds) ((c, i, ts) :: l)
section
variable {X : Cx} {body : List Stmt} {h0 : ExceptHandler} {hds : List ExceptHandler} {l : List (Value × Option Nat × Suite)} {pos : Pos} {tb : WX → TS} {Wo : WX}
theorem ps_try_cl (hst : X.stack = X.env :: X.outer) (hfr : X.env.frame = some X.env.locals) (hN : X.N.Nodup) (tk : Takes X Wo)
    (hb : ∀ (W' : WX) (pn' : List (Addr × Obj)) (xe' : Value → Shared → Prop), Takes (X.tr pn' xe') W' → PassesOwn (model X.prog X.w) X.A X.env xe' → PSs (X.tr pn' xe') body (tb W')) (hh : ClsS X (h0 :: hds) l) :
    PS X (.Try body (h0 :: hds) [] [] pos) (fun D σ H => tb (wCl X.K Wo D l) D σ H) := by
  refine ⟨fun pins s σ H D I h => ?_⟩
  have ok := I.ok
  have frames : X.A.frames = some (X.env :: X.outer) := by rw [ok.frames, hst]
  refine wpAny_Try_except (wpAny_mono ((hb (wCl X.K Wo D l) (X.pn ++ pins) (fun e z1 => wpAny (model X.prog X.w) X.A (noteFrame e X.env) (fun _ z2 => wpAny (model X.prog X.w) X.A (setFlight e none) (fun _ z3 =>
    wpAny (model X.prog X.w) X.A (handleBy e X.env (h0 :: hds)) (SP X pins D) X.xe z3) X.xe z2) X.xe z1) (fun u s' air => ?_) PassesOwn.looking).run [] s σ H D (I.toTry _) h) (fun f s1 hsp => ?_) fun _ _ z => z)
  · -- an exception came
    obtain ⟨a, B, sI, ps', σx, Hx, cls, d, rfl, Jt, grd, upx, sk, nax, osx, agx, wish⟩ := air
    have J0 : Inv X pins σx Hx sI := Jt.ofTry ok
    show wpAny (model X.prog X.w) X.A (noteFrame (.ref a) X.env) _ _ _
    refine Sky.land Zc.steady frames hfr (by rw [← hst]; exact sk) fun hA flA upA => ?_
    obtain ⟨oA, vA, getA, zA, datA⟩ := flA.there
    have JA : Inv X pins σx Hx { s' with heap := hA } := J0.landed grd flA.1 (upx.trans upA) osx agx
    have away : a ∉ frs (X.env :: X.outer) := fun hm => by
      obtain ⟨_, o', e', hnf⟩ := flA.2.2.1.mem hm
      rw [getA] at e'; cases e'
      exact hnf _ datA
    have neL : a ≠ X.env.locals := fun z => away (List.mem_filterMap.mpr ⟨X.env, List.mem_cons_self, by rw [hfr, z]⟩)
    have neF : a ∉ X.fs := fun hm => by
      obtain ⟨e, he, q⟩ := List.mem_filterMap.mp hm
      exact away (List.mem_filterMap.mpr ⟨e, List.mem_cons_of_mem _ he, q⟩)
    have SA := JA.suite getA datA nax neL neF
    have LT : PySem.W.Looks (model X.prog X.w) hA (typeOf (.ref a)) cls := fun A Q E s k q => wpAny_typeOf_ref (k _ _ getA) (by rw [zA.1]; exact q)
    have go : ∀ {hs' : List ExceptHandler} {l' : List (Value × Option Nat × Suite)}, ClsS X hs' l' → wCl X.K Wo D l' cls d σx Hx → wpAny (model X.prog X.w) X.A (handleBy (.ref a) X.env hs') (SP X pins D) X.xe { s' with heap := hA } := by
      intro hs' l' hk
      induction hk with
      | nil =>
        intro wo
        obtain ⟨_, _, _, oe, vs, T, oT, ts', he, hz, hd, h1, _⟩ := id flA
        refine wpAny_handleBy_nil ?_
        unfold PySem.passOn
        refine wpAny_bind (wpAny_field he hd h1 ?_)
        rw [if_neg (show ¬ ((Value.ref T == Value.none) = true) from by simp)]
        have out : wpAny (model X.prog X.w) X.A (setFlight (.ref a) X.env.frame) (fun _ z4 => wpAny (model X.prog X.w) X.A (throw (.ref a) : Sem Flow) (SP X pins D) X.xe z4) X.xe { s' with heap := hA } := by
          rw [hfr]
          exact HandSPX.setFlight_upZ flA fun h4 held upB => wpAny_throw (tk _ _ ⟨a, B, sI, pins, σx, Hx, cls, d, rfl, J0, grd, (upx.trans upA).trans upB, .inr (.inr (by rw [hst]; exact held)), nax, osx, agx, wo⟩)
        first
          | exact wpAny_bind (wpAny_pure (wpAny_bind out))
          | exact wpAny_bind out
      | @cons x c nm i ts b0 su np cp hds2 l2 hc hn hsu r ih =>
        intro wo
        obtain ⟨b, hb1, hyes, hno⟩ := wo
        refine wpAny_handleBy_cons (codeAny_handlers_test ?_) (by intro q; cases q)
        have LM := PySem.W.exm_one (M := model X.prog X.w) JA.kIn LT hb1
        have look : ∀ {Q : Value → Shared → Prop} {E : Value → Shared → Prop}, Q c { s' with heap := hA } → wpAny (model X.prog X.w) (X.A.mark (some (.ref a))) (eval (.Name x np) X.env) Q E { s' with heap := hA } := fun {Q E} q => by
          obtain ⟨g1, g2, g3 | ⟨g3, g4, g5⟩⟩ := hc
          · exact ld_glob (X := X.suite a ((a, oA) :: (X.pn ++ pins))) SA g1 g3 q g2
          · exact ld_blt (X := X.suite a ((a, oA) :: (X.pn ++ pins))) SA g1 g3 g4 q g5 g2
        refine look (LM.here ?_)
        cases b with
        | false =>
          show wpAny _ X.A (handleBy (.ref a) X.env hds2) _ _ _
          exact ih (hno rfl)
        | true =>
          cases nm with
          | none =>
            cases i with
            | some j => exact hn.elim
            | none =>
              refine codeAny_handlers_suite (HandSPX.lands_againZ flA fun hB flB upB => ?_)
              obtain ⟨oB, vB, getB, zB, datB⟩ := flB.there
              have SB := (J0.landed (s' := { s' with heap := hB }) grd flB.1 ((upx.trans upA).trans upB) osx agx).suite getB datB nax neL neF
              refine wpAny_mono ((hsu a oB cls d (X.pn ++ pins) zB ⟨_, datB⟩).run [] _ _ Hx _ SB (hyes rfl a nax)) (fun f z6 hsp => ?_) fun _ _ z => False.elim z
              cases f with
              | ret u =>
                obtain ⟨v6, σ6, H6, S6, r6, q6⟩ := hsp
                exact ⟨_, _, _, S6.unsuite ok, r6, q6⟩
              | next => obtain ⟨σ6, H6, S6, q6⟩ := hsp; exact ⟨_, _, S6.unsuite ok, q6⟩
              | brk => obtain ⟨σ6, H6, S6, q6⟩ := hsp; exact ⟨_, _, S6.unsuite ok, q6⟩
              | cont => obtain ⟨σ6, H6, S6, q6⟩ := hsp; exact ⟨_, _, S6.unsuite ok, q6⟩
          | some n =>
            cases i with
            | none => exact hn.elim
            | some j =>
              obtain ⟨hj, hln⟩ := hn
              refine codeAny_handlers_suite_as (HandSPX.lands_againZ flA fun hB flB upB => ?_)
              obtain ⟨oB, vB, getB, zB, datB⟩ := flB.there
              have SB := (J0.landed (s' := { s' with heap := hB }) grd flB.1 ((upx.trans upA).trans upB) osx agx).suite getB datB nax neL neF
              refine store_ok (X := X.suite a ((a, oB) :: (X.pn ++ pins))) (v := .ref a) SB hN hj (.inl hln) rfl (fun z5 SC => ?_) (.inr hln)
              refine wpAny_mono ((hsu a oB cls d (X.pn ++ pins) zB ⟨_, datB⟩).run [] z5 _ Hx _ SC (hyes rfl a nax)) (fun f z6 hsp => ?_) fun _ _ z => False.elim z
              have fin : ∀ {σ6 : L2.St} {H6 : Hp} {Q : Shared → Prop}, Inv (X.suite a ((a, oB) :: (X.pn ++ pins))) [] σ6 H6 z6 → (∀ z7, Inv X pins (σ6.set j none) H6 z7 → Q z7) → wpAny (model X.prog X.w) X.A (do bindName X.env n .none; unbindBehindTheSuite X.env n cp) (fun _ z7 => Q z7) X.xe z6 :=
                fun {σ6 H6 Q} S6 hq => gone_ok (S6.unsuite ok) hN hj hln hq
              cases f with
              | ret u =>
                obtain ⟨v6, σ6, H6, S6, r6, q6⟩ := hsp
                exact fin S6 fun z7 J7 => ⟨_, _, _, J7, r6, q6⟩
              | next => obtain ⟨σ6, H6, S6, q6⟩ := hsp; exact fin S6 fun z7 J7 => ⟨_, _, J7, q6⟩
              | brk => obtain ⟨σ6, H6, S6, q6⟩ := hsp; exact fin S6 fun z7 J7 => ⟨_, _, J7, q6⟩
              | cont => obtain ⟨σ6, H6, S6, q6⟩ := hsp; exact fin S6 fun z7 J7 => ⟨_, _, J7, q6⟩
    exact go hh wish
  · cases f with
    | next => obtain ⟨σ', H', J', q⟩ := hsp; exact wpAny_execs_nil ⟨σ', H', J'.ofTry ok, q⟩
    | brk => obtain ⟨σ', H', J', q⟩ := hsp; exact ⟨σ', H', J'.ofTry ok, q⟩
    | cont => obtain ⟨σ', H', J', q⟩ := hsp; exact ⟨σ', H', J'.ofTry ok, q⟩
    | ret u => obtain ⟨v, σ', H', J', r, q⟩ := hsp; exact ⟨v, σ', H', J'.ofTry ok, r, q⟩
end
end Ev
end
section
set_option maxRecDepth 100000
set_option maxHeartbeats 2000000
/-! What an except suite says. -/
namespace Ev
open PySem PySem.Spec PyProof.Rows L2
/-- isinstance of the caught exception, with a dict or without -/
def rIsX (K : PySem.W.Frag) (C a : Addr) (d : Option Addr) : List V → Hp → VK → Prop := fun xs H Q => ∃ (c : V) (cv : Value) (b : Bool), xs = [.ref a, c] ∧ (∀ u, RelV c u → u = cv) ∧ PySem.W.kitOne K (.ref C) cv = some b ∧ (d = none ∨ ∃ dd es, d = some dd ∧ H dd = some (.xd es)) ∧ Q (.bl b) H
theorem call_isX {X : Cx} {a C : Addr} {oe : Obj} {d : Option Addr} {pn : List (Addr × Obj)} (T : ExcC X.K C) (hz : Zc (.ref C) d oe) (hf : ∃ vs, oe.data = .fields vs) : CallR (X.suite a ((a, oe) :: pn)) (.builtin "isinstance") (rIsX X.K C a d) := by
  intro pins s σ H xs us Q I r h
  obtain ⟨c, cv, b, rfl, hcv, e, hd, q⟩ := h
  cases r with
  | cons rx rr =>
    cases rr with
    | cons rt rr =>
      cases rr
      cases rx
      have ec := hcv _ rt
      subst ec
      obtain ⟨hget, _⟩ := I.pin (a, oe) (List.mem_append_left _ List.mem_cons_self)
      obtain ⟨vs, hv⟩ := hf
      have nc : PySem.W.notCls oe = true := by unfold PySem.W.notCls; rw [hv] <;> rfl
      have J : ∃ od, PySem.W.InstAt s.heap a oe C od := by
        rcases hd with rfl | ⟨dd, es, rfl, hdd⟩
        · exact ⟨none, hget, hz.1, nc, by rw [hz.2]; trivial⟩
        · have hx : ObjOk X.prog X.w H s.heap dd (.xd es) := I.hok dd _ hdd
          obtain ⟨mA, ⟨o, _, _, ho, _⟩, _⟩ := hx
          exact ⟨some o, hget, hz.1, nc, by rw [hz.2]; exact ho⟩
      obtain ⟨od, J⟩ := J
      have hcl : (PySem.W.clsIn X.K C).isSome = true := by
        obtain ⟨cd, hc, _⟩ := PySem.W.any_some T.hd
        rw [hc]; rfl
      exact PySem.W.kia_one (PySem.W.kitx_exc hcl T.hg T.hk T.hs T.ha T.hn T.ht T.hm) I.kIn J e (fun z => nomatch z) fun tk => ⟨.bl b, H, I.tok tk, rfl, q⟩
theorem Step.ff {Hf H Hf1 H1 Hf2 H2 : Hp} (s1 : Step (fun _ => False) Hf H Hf1 H1) (s2 : Step (fun _ => False) Hf1 H1 Hf2 H2) : Step (fun _ => False) Hf H Hf2 H2 := Step.trans (N := fun _ => False) s1 s2 fun _ z => z.elim
/-- where a suite stands -/
structure HS (X : Cx) (cl : List ClsD) (x : Exn) (a : Addr) (i : Option Nat) (cls : Value) (d : Option Addr) (Hf H : Hp) (ρ : Env) (σ : L2.St) : Prop where
  slots : Slots X.w X.K Hf H ρ σ
  noOwn : ∀ (j : Nat) (l : Bool) (dd : D), ρ[j]? ≠ some (some (Sl.own l dd))
  err : ∀ j, i = some j → σ[j]? = some (some (V.ref a))
  exc : ExcRep X.w X.K X.mg cl x cls d Hf H
section
variable {X : Cx} {cl : List ClsD} {x : Exn} {a : Addr} {i : Option Nat} {cls : Value} {d : Option Addr} {Hf H Hf' H' : Hp} {ρ : Env} {σ : L2.St}
theorem HS.step (h : HS X cl x a i cls d Hf H ρ σ) (sb : Sub Hf' H') (st : Step (fun _ => False) Hf H Hf' H') : HS X cl x a i cls d Hf' H' ρ σ :=
  ⟨h.slots.step st sb fun _ _ z => z, h.noOwn, h.err, h.exc.step st⟩
theorem HS.none_own (h : HS X cl x a i cls d Hf H ρ σ) (b : Addr) : ¬ OwnSet ρ σ b := fun ⟨j, l, dd, e, _⟩ => h.noOwn j l dd e
/-- a step of a walk that owns nothing -/
theorem HS.bare (h : HS X cl x a i cls d Hf H ρ σ) (st : Step (OwnSet ρ σ) Hf H Hf' H') : Step (fun _ => False) Hf H Hf' H' := st.mono fun b _ _ z => (h.none_own b z)
end
section
variable (X : Cx) (cl : List ClsD) (x : Exn) (a : Addr) (i : Option Nat) (cls : Value) (d : Option Addr)
/-- the reading of a suite's part -/
def tHG {α β : Type} (RR : Hp → Hp → Hp → α → β → Prop) (f : Env → Option α) (σ : L2.St) (H : Hp) (Q : β → Hp → Prop) : Prop :=
  ∃ Hf ρ, HS X cl x a i cls d Hf H ρ σ ∧ ∃ r, f ρ = some r ∧ ∀ v Hf' H', Sub Hf' H' → Step (fun _ => False) Hf H Hf' H' → RR Hf' H' H r v → Q v H'
abbrev tHv (f : Env → Option D) : TE := tHG X cl x a i cls d (fun Hf _ _ dd v => Rep X.w X.K Hf dd v) f
abbrev tHs (f : Env → Option (List D)) : TA := tHG X cl x a i cls d (fun Hf _ _ ds vs => Reps X.w X.K Hf ds vs) f
abbrev tHt (f : Env → Option Bool) : TT := tHG X cl x a i cls d (fun _ _ _ b k => k = b) f
abbrev tHr (f : Env → Option Sl) : TE := tHG X cl x a i cls d (fun Hf H Hb s v => ResR X.w X.K Hf H Hb s v) f
end
section
variable {CX : CXT} {X : Cx} {N : List Str} {FN : Nms} {sc : Scope} {fl : Flags} {c : CallF} {lvl : Nat} {W : XW} {x : Exn} {a : Addr} {i : Option Nat} {cls : Value} {d : Option Addr} {oe : Obj} {pn : List (Addr × Obj)} {pos : Pos}
/-- a then b -/
theorem tHG.two {α β : Type} {RA : Hp → Hp → Hp → α → β → Prop} {f : Env → Option α} {Q1 : β → Hp → Prop} {Hf H : Hp} {ρ : Env} {σ : L2.St} {r : α} (S : HS X FN.cl x a i cls d Hf H ρ σ) (e : f ρ = some r)
    (k : ∀ v Hf1 H1, HS X FN.cl x a i cls d Hf1 H1 ρ σ → Step (fun _ => False) Hf H Hf1 H1 → RA Hf1 H1 H r v → Q1 v H1) : tHG X FN.cl x a i cls d RA f σ H Q1 :=
  ⟨Hf, ρ, S, r, e, fun v Hf1 H1 sb st q => k v Hf1 H1 (S.step sb st) st q⟩
theorem hx_con {dd : D} {k : Const} {j : Nat} (h : conB dd k = true) : PE (X.suite a ((a, oe) :: pn)) (.Constant k j pos) (tHv X FN.cl x a i cls d fun ρ => hxv x ρ (.con dd)) :=
  PEimp (re_con (X := X.suite a ((a, oe) :: pn)) (W := WF) (fl := fun _ => []) (c := fun _ _ => none) h) fun σ H Q ⟨Hf, ρ, S, r, e, q⟩ => ⟨Hf, ρ, S.slots, by
    unfold ev
    intro v Hf' H' P R
    cases e
    exact q v Hf' H' P.slots.sub (S.bare P.step) R⟩
theorem hx_var {j : Nat} {y : Str} (C : Ctx CX X N FN sc fl c lvl W) (h : okVar N sc j y = true) : PE (X.suite a ((a, oe) :: pn)) (.Name y pos) (tHv X FN.cl x a i cls d fun ρ => hxv x ρ (.var j)) :=
  PEimp (pe_name (X := X.suite a ((a, oe) :: pn)) C.names C.scope h) fun σ H Q ⟨Hf, ρ, S, r, e, q⟩ => by
    simp only [hxv] at e
    split at e
    · rename_i dd e1
      cases e
      obtain ⟨v, e2, z⟩ := S.slots.rep j _ e1
      exact ⟨v, e2, q v Hf H S.slots.sub Step.refl z⟩
    · cases e
theorem okErr_spec {y : Str} (h : okErr N sc i y = true) : ∃ j, i = some j ∧ okVar N sc j y = true := by
  cases i with
  | none => cases h
  | some j => exact ⟨j, rfl, (Bool.and_eq_true_iff.mp h).1⟩
/-- err.f -/
theorem hx_fld {f y g : Str} {yp : Pos} (C : Ctx CX X N FN sc fl c lvl W) (hg : g = f) (h : okErr N sc i y = true) (hz : Zc cls d oe) (hf : ∃ vs, oe.data = .fields vs) :
    PE (X.suite a ((a, oe) :: pn)) (.Attribute (.Name y yp) g pos) (tHv X FN.cl x a i cls d fun ρ => hxv x ρ (.fld f)) := by
  subst hg
  obtain ⟨j, rfl, hv⟩ := okErr_spec h
  refine ⟨fun pins s σ H Q I ⟨Hf, ρ, S, r, e, q⟩ => ?_⟩
  obtain ⟨cd, Ca, k1, k2, k3, k4, k5⟩ := S.exc
  obtain ⟨C2, A⟩ := C.cls.at_ _ _ k1
  have eC : C2 = Ca := by have := A.mg_; rw [k2] at this; cases this; rfl
  subst eC
  have e' : x.args.lookup g = some r := e
  have mem : g ∈ cd.flds := by rw [← k4]; exact List.mem_map.mpr ⟨_, PySem.mem_of_lookup e', rfl⟩
  refine (pe_xf (X := X) (e := .Name y yp) A.xf (A.nof g mem) hz hf (pe_name (X := X.suite a ((a, oe) :: pn)) C.names C.scope hv)).run pins s σ H Q I ⟨.ref a, S.err j rfl, rfl, k3, ?_⟩
  rcases k5 with ⟨z, _⟩ | ⟨dd, es, e1, e2, e3⟩
  · rw [z] at e'; cases e'
  · obtain ⟨v, m1, m2⟩ := e3 g r e'
    exact ⟨dd, es, v, e1, e2, m1, q v Hf H S.slots.sub Step.refl m2⟩
theorem okCl_spec {k : Nat} {s : List Nat} {z : Str} (C : Ctx CX X N FN sc fl c lvl W) (h : okCl FN sc k s z = true) : ∃ cd Ca, FN.cl[k]? = some cd ∧ cd.name = z ∧ cd.subs = s ∧ XCls X.prog X.K X.mg cd Ca ∧ Gl X z ∧ (z == ("__debug__" : Str)) = false := by
  unfold okCl at h
  simp only [Bool.and_eq_true, Bool.not_eq_true'] at h
  obtain ⟨⟨h1, h2⟩, h3⟩ := h
  split at h3
  · rename_i cd hk
    simp only [Bool.and_eq_true, decide_eq_true_eq] at h3
    obtain ⟨Ca, A⟩ := C.cls.at_ k cd hk
    exact ⟨cd, Ca, hk, h3.1, h3.2, A, gl_of C h1, h2⟩
  · cases h3
/-- isinstance(err, C) -/
theorem hx_ise {k : Nat} {s : List Nat} {n y z : Str} {np yp zp : Pos} (C : Ctx CX X N FN sc fl c lvl W) (h1 : okBlt sc "isinstance" n = true) (h2 : okErr N sc i y = true) (h3 : okCl FN sc k s z = true) (hz : Zc cls d oe) (hf : ∃ vs, oe.data = .fields vs) :
    PE (X.suite a ((a, oe) :: pn)) (.Call (.Name n np) [.Name y yp, .Name z zp] [] pos) (tHv X FN.cl x a i cls d fun ρ => hxv x ρ (.ise k s)) := by
  obtain ⟨j, rfl, hv⟩ := okErr_spec h2
  obtain ⟨cd, Ca, g1, g2, g3, A, g4, g5⟩ := okCl_spec C h3
  obtain ⟨rfl, gi⟩ := okBlt_spec C h1
  subst g2
  refine ⟨fun pins st σ H Q I ⟨Hf, ρ, S, r, e, q⟩ => ?_⟩
  obtain ⟨xd, Cx, k1, k2, k3, k4, k5⟩ := S.exc
  subst k3
  obtain ⟨C2, B⟩ := C.cls.at_ _ _ k1
  have eC : C2 = Cx := by have := B.mg_; rw [k2] at this; cases this; rfl
  subst eC
  have two := (C.cls.two _ _ _ _ _ _ k1 g1 B.mg_ A.mg_).2
  cases e
  refine (pe_callB (X := X.suite a ((a, oe) :: pn)) (call_isX B.isC hz hf) gi (C.blt _ (by decide +kernel)) (by decide +kernel) (pa_cons (pe_name (X := X.suite a ((a, oe) :: pn)) C.names C.scope hv) (pa_cons (pe_glob (X := X.suite a ((a, oe) :: pn)) (v := .ref Ca) g4 A.mg_ rfl g5) pa_nil))).run pins st σ H Q I ?_
  refine ⟨.ref a, S.err j rfl, .ref Ca, .ref Ca, _, rfl, fun u hu => hu, two, ?_, ?_⟩
  · rcases k5 with ⟨_, z⟩ | ⟨dd, es, e1, e2, _⟩
    · exact .inl z
    · exact .inr ⟨dd, es, e1, e2⟩
  · rw [g3]
    exact q _ Hf H S.slots.sub Step.refl (by simp [Rep])
end
end Ev
end
section
set_option maxRecDepth 100000
set_option maxHeartbeats 2000000
/-! What an except suite says: all of it. -/
namespace Ev
open PySem PySem.Spec PyProof.Rows L2
section
variable {CX : CXT} {X : Cx} {N : List Str} {FN : Nms} {sc : Scope} {fl : Flags} {c : CallF} {lvl : Nat} {W : XW} {x : Exn} {a : Addr} {i : Option Nat} {cls : Value} {d : Option Addr} {oe : Obj} {pn : List (Addr × Obj)} {pos : Pos}
abbrev GHx (X : Cx) (FN : Nms) (x : Exn) (a : Addr) (i : Option Nat) (cls : Value) (d : Option Addr) (oe : Obj) (pn : List (Addr × Obj)) (e : Hx) (y : Expr) : Prop := PE (X.suite a ((a, oe) :: pn)) y (tHv X FN.cl x a i cls d fun ρ => hxv x ρ e)
abbrev GHt (X : Cx) (FN : Nms) (x : Exn) (a : Addr) (i : Option Nat) (cls : Value) (d : Option Addr) (oe : Obj) (pn : List (Addr × Obj)) (e : Ht) (y : Expr) : Prop := PT (X.suite a ((a, oe) :: pn)) y (tHt X FN.cl x a i cls d fun ρ => htv x ρ e) ∧ (isBo y = true → PW (X.suite a ((a, oe) :: pn)) y (tHt X FN.cl x a i cls d fun ρ => htv x ρ e))
theorem two_v {β : Type} {RA : Hp → Hp → Hp → D → β → Prop} {e : Hx} {Q1 : β → Hp → Prop} {Hf H : Hp} {ρ : Env} {σ : L2.St} {r : D} (S : HS X FN.cl x a i cls d Hf H ρ σ) (e1 : hxv x ρ e = some r)
    (k : ∀ v Hf1 H1, HS X FN.cl x a i cls d Hf1 H1 ρ σ → Step (fun _ => False) Hf H Hf1 H1 → RA Hf1 H1 H r v → Q1 v H1) : tHG X FN.cl x a i cls d RA (fun ρ => hxv x ρ e) σ H Q1 := tHG.two S e1 k
theorem two_t {β : Type} {RA : Hp → Hp → Hp → Bool → β → Prop} {e : Ht} {Q1 : β → Hp → Prop} {Hf H : Hp} {ρ : Env} {σ : L2.St} {r : Bool} (S : HS X FN.cl x a i cls d Hf H ρ σ) (e1 : htv x ρ e = some r)
    (k : ∀ v Hf1 H1, HS X FN.cl x a i cls d Hf1 H1 ρ σ → Step (fun _ => False) Hf H Hf1 H1 → RA Hf1 H1 H r v → Q1 v H1) : tHG X FN.cl x a i cls d RA (fun ρ => htv x ρ e) σ H Q1 := tHG.two S e1 k
theorem two_s {β : Type} {RA : Hp → Hp → Hp → List D → β → Prop} {e : Hxs} {Q1 : β → Hp → Prop} {Hf H : Hp} {ρ : Env} {σ : L2.St} {r : List D} (S : HS X FN.cl x a i cls d Hf H ρ σ) (e1 : hxs x ρ e = some r)
    (k : ∀ v Hf1 H1, HS X FN.cl x a i cls d Hf1 H1 ρ σ → Step (fun _ => False) Hf H Hf1 H1 → RA Hf1 H1 H r v → Q1 v H1) : tHG X FN.cl x a i cls d RA (fun ρ => hxs x ρ e) σ H Q1 := tHG.two S e1 k
theorem hx_not {e : Hx} {y : Expr} (h : GHx X FN x a i cls d oe pn e y) : GHx X FN x a i cls d oe pn (.not e) (.UnaryOp .Not y pos) := PEimp (pe_not h) fun σ H Q ⟨Hf, ρ, S, r, e1, q⟩ => by
  unfold tNotV
  simp only [hxv] at e1
  split at e1
  · rename_i b e2
    cases e1
    refine two_v S e2 fun v Hf1 H1 S1 st R => ?_
    rw [repB R]
    exact ⟨b, rfl, q _ Hf1 H1 S1.slots.sub st mkB⟩
  · cases e1
theorem hx_and {e f : Hx} {y z : Expr} {r : List Expr} (h : GHx X FN x a i cls d oe pn e y) (h2 : GHx X FN x a i cls d oe pn f (.BoolOp .And (z :: r) pos)) : GHx X FN x a i cls d oe pn (.and e f) (.BoolOp .And (y :: z :: r) pos) := PEimp (pe_and h h2) fun σ H Q ⟨Hf, ρ, S, w, e1, q⟩ => by
  unfold tAndV
  simp only [hxv] at e1
  split at e1
  · rename_i e2
    refine two_v S e2 fun v Hf1 H1 S1 st R => ?_
    rw [repB R]
    exact ⟨true, rfl, Hf1, ρ, S1, w, e1, fun v Hf' H' sb st' R' => q v Hf' H' sb (st.ff st') R'⟩
  · rename_i e2
    cases e1
    refine two_v S e2 fun v Hf1 H1 S1 st R => ?_
    rw [repB R]
    exact ⟨false, rfl, q _ Hf1 H1 S1.slots.sub st mkB⟩
  · cases e1
theorem hx_or {e f : Hx} {y z : Expr} {r : List Expr} (h : GHx X FN x a i cls d oe pn e y) (h2 : GHx X FN x a i cls d oe pn f (.BoolOp .Or (z :: r) pos)) : GHx X FN x a i cls d oe pn (.or e f) (.BoolOp .Or (y :: z :: r) pos) := PEimp (pe_or h h2) fun σ H Q ⟨Hf, ρ, S, w, e1, q⟩ => by
  unfold tOrV
  simp only [hxv] at e1
  split at e1
  · rename_i e2
    refine two_v S e2 fun v Hf1 H1 S1 st R => ?_
    rw [repB R]
    exact ⟨false, rfl, Hf1, ρ, S1, w, e1, fun v Hf' H' sb st' R' => q v Hf' H' sb (st.ff st') R'⟩
  · rename_i e2
    cases e1
    refine two_v S e2 fun v Hf1 H1 S1 st R => ?_
    rw [repB R]
    exact ⟨true, rfl, q _ Hf1 H1 S1.slots.sub st mkB⟩
  · cases e1
theorem hx_ite {t : Ht} {e f : Hx} {y z u : Expr} (ht : GHt X FN x a i cls d oe pn t y) (h : GHx X FN x a i cls d oe pn e z) (h2 : GHx X FN x a i cls d oe pn f u) : GHx X FN x a i cls d oe pn (.ite t e f) (.IfExp y z u pos) := PEimp (pe_ifExp ht.1 h h2) fun σ H Q ⟨Hf, ρ, S, w, e1, q⟩ => by
  unfold tIf
  simp only [hxv] at e1
  split at e1
  · rename_i e2
    refine two_t S e2 fun v Hf1 H1 S1 st R => ?_
    subst R
    exact ⟨Hf1, ρ, S1, w, e1, fun v Hf' H' sb st' R' => q v Hf' H' sb (st.ff st') R'⟩
  · rename_i e2
    refine two_t S e2 fun v Hf1 H1 S1 st R => ?_
    subst R
    exact ⟨Hf1, ρ, S1, w, e1, fun v Hf' H' sb st' R' => q v Hf' H' sb (st.ff st') R'⟩
  · cases e1
theorem hx_cmp {o : Cop} {e f : Hx} {y z : Expr} (C : Ctx CX X N FN sc fl c lvl W) (hm : behindInMarks (copOf o) z = false) (h : GHx X FN x a i cls d oe pn e y) (h2 : GHx X FN x a i cls d oe pn f z) : GHx X FN x a i cls d oe pn (.cmp o e f) (.Compare y [copOf o] [z] pos) := by
  have hu : X.A.units + 70 < cLine := by have := C.room.un; omega
  refine PEimp (pe_cmpR (X := X.suite a ((a, oe) :: pn)) (C.cmps (X.suite a ((a, oe) :: pn)) hu o) h h2 hm) fun σ H Q ⟨Hf, ρ, S, w, e1, q⟩ => ?_
  unfold tOp
  simp only [hxv] at e1
  split at e1
  · rename_i u v e2 e3
    obtain ⟨b, e4, e5⟩ := Option.map_eq_some_iff.mp e1
    refine two_v S e2 fun x1 Hf1 H1 S1 st R => two_v S1 e3 fun x2 Hf2 H2 S2 st2 R2 => ?_
    refine ⟨Hf2, u, v, .val (.bool b), S2.slots.sub, Opr.of S2.slots.sub (Rep.mono st2.sub R), Opr.of S2.slots.sub R2, by show Option.map _ (cmpD o u v) = _; rw [e4]; rfl, fun v' Hf' H' sb st3 R3 => ?_⟩
    refine q v' Hf' H' sb ((st.ff st2).ff st3) ?_
    rw [← e5]
    exact R3
  · cases e1
theorem hxs_nil : PA (X.suite a ((a, oe) :: pn)) [] (tHs X FN.cl x a i cls d fun ρ => hxs x ρ .nil) := PAimp pa_nil fun σ H Q ⟨Hf, ρ, S, r, e, q⟩ => by
  cases e
  exact q [] Hf H S.slots.sub Step.refl Reps.nil
theorem hxs_cons {e : Hx} {es : Hxs} {y : Expr} {ys : List Expr} (hs : noStar y = true) (h : GHx X FN x a i cls d oe pn e y) (h2 : PA (X.suite a ((a, oe) :: pn)) ys (tHs X FN.cl x a i cls d fun ρ => hxs x ρ es)) : PA (X.suite a ((a, oe) :: pn)) (y :: ys) (tHs X FN.cl x a i cls d fun ρ => hxs x ρ (.cons e es)) :=
  PAimp (pa_cons h h2 (star_ne hs)) fun σ H Q ⟨Hf, ρ, S, r, e1, q⟩ => by
    unfold tCons
    simp only [hxs] at e1
    split at e1
    · rename_i u us e2 e3
      cases e1
      refine two_v S e2 fun v Hf1 H1 S1 st R => two_s S1 e3 fun vs Hf2 H2 S2 st2 R2 => ?_
      exact q (v :: vs) Hf2 H2 S2.slots.sub (st.ff st2) (Reps.cons (Rep.mono st2.sub R) R2)
    · cases e1
theorem hx_tup {es : Hxs} {ys : List Expr} {k : Nat} (h : PA (X.suite a ((a, oe) :: pn)) ys (tHs X FN.cl x a i cls d fun ρ => hxs x ρ es)) : GHx X FN x a i cls d oe pn (.tup es) (.Tuple ys k pos) := PEimp (pe_tup h) fun σ H Q ⟨Hf, ρ, S, r, e1, q⟩ => by
  unfold tTup
  simp only [hxv] at e1
  split at e1
  · rename_i ds e2
    split at e1
    · rename_i hz
      cases e1
      refine two_s S e2 fun vs Hf1 H1 S1 st R => ⟨by rw [R.length]; exact hz, fun p hp => ?_⟩
      refine q (.ref p) (upd Hf1 p (.tup vs)) _ S1.slots.sub.both (st.ff (Step.newF S1.slots.sub hp)) ?_
      simp only [Rep]
      exact ⟨p, vs, rfl, SqT.of upd_same, R.mono (Sub.new (S1.slots.sub.none hp))⟩
    · cases e1
  · cases e1
/-- a list that is handed on -/
theorem hx_lst {es : Hxs} {ys : List Expr} (h : PA (X.suite a ((a, oe) :: pn)) ys (tHs X FN.cl x a i cls d fun ρ => hxs x ρ es)) : GHx X FN x a i cls d oe pn (.lst es) (.List ys pos) := PEimp (pe_lst h) fun σ H Q ⟨Hf, ρ, S, r, e1, q⟩ => by
  unfold tLst
  simp only [hxv] at e1
  split at e1
  · rename_i ds e2
    split at e1
    · rename_i hz
      cases e1
      refine two_s S e2 fun vs Hf1 H1 S1 st R => ⟨by rw [R.length]; exact hz, fun p hp => ?_⟩
      refine q (.ref p) (upd Hf1 p (.lst vs)) _ S1.slots.sub.both (st.ff (Step.newF S1.slots.sub hp)) ?_
      simp only [Rep]
      exact ⟨p, vs, rfl, SqL.of upd_same, R.mono (Sub.new (S1.slots.sub.none hp))⟩
    · cases e1
  · cases e1
/-- a list that is the answer -/
theorem hr_lst {es : Hxs} {ys : List Expr} (h : PA (X.suite a ((a, oe) :: pn)) ys (tHs X FN.cl x a i cls d fun ρ => hxs x ρ es)) : PE (X.suite a ((a, oe) :: pn)) (.List ys pos) (tHr X FN.cl x a i cls d fun ρ => hrv x ρ (.lst es)) := PEimp (pe_lst h) fun σ H Q ⟨Hf, ρ, S, r, e1, q⟩ => by
  unfold tLst
  simp only [hrv] at e1
  split at e1
  · rename_i ds e2
    split at e1
    · rename_i hz
      cases e1
      refine two_s S e2 fun vs Hf1 H1 S1 st R => ⟨by rw [R.length]; exact hz, fun p hp => ?_⟩
      have hpb : H p = none := fresh_back st hp
      exact q (.ref p) Hf1 _ (S1.slots.sub.trans (Sub.new hp)) (st.ff (Step.new hp)) ⟨p, rfl, S1.slots.sub.none hp, hpb, vs, upd_same, R⟩
    · cases e1
  · cases e1
/-! ### tests -/
theorem ht_not {t : Ht} {y : Expr} (h : GHt X FN x a i cls d oe pn t y) : PT (X.suite a ((a, oe) :: pn)) (.UnaryOp .Not y pos) (tHt X FN.cl x a i cls d fun ρ => htv x ρ (.not t)) := PTimp (pt_not h.1) fun σ H Q ⟨Hf, ρ, S, r, e1, q⟩ => by
  unfold tNot
  simp only [htv] at e1
  obtain ⟨b, e2, e3⟩ := Option.map_eq_some_iff.mp e1
  refine two_t S e2 fun v Hf1 H1 S1 st R => ?_
  subst R
  exact q _ Hf1 H1 S1.slots.sub st e3
theorem ht_and {t u : Ht} {y z : Expr} {r : List Expr} (h : GHt X FN x a i cls d oe pn t y) (h2 : PW (X.suite a ((a, oe) :: pn)) (.BoolOp .And (z :: r) pos) (tHt X FN.cl x a i cls d fun ρ => htv x ρ u)) : PW (X.suite a ((a, oe) :: pn)) (.BoolOp .And (y :: z :: r) pos) (tHt X FN.cl x a i cls d fun ρ => htv x ρ (.and t u)) :=
  PWimp (pw_and h.1 h2) fun σ H Q ⟨Hf, ρ, S, w, e1, q⟩ => by
    unfold tAnd
    simp only [htv] at e1
    split at e1
    · rename_i e2
      refine two_t S e2 fun v Hf1 H1 S1 st R => ?_
      subst R
      exact ⟨Hf1, ρ, S1, w, e1, fun v Hf' H' sb st' R' => q v Hf' H' sb (st.ff st') R'⟩
    · rename_i e2
      cases e1
      refine two_t S e2 fun v Hf1 H1 S1 st R => ?_
      subst R
      exact q _ Hf1 H1 S1.slots.sub st rfl
    · cases e1
theorem ht_or {t u : Ht} {y z : Expr} {r : List Expr} (h : GHt X FN x a i cls d oe pn t y) (h2 : PW (X.suite a ((a, oe) :: pn)) (.BoolOp .Or (z :: r) pos) (tHt X FN.cl x a i cls d fun ρ => htv x ρ u)) : PW (X.suite a ((a, oe) :: pn)) (.BoolOp .Or (y :: z :: r) pos) (tHt X FN.cl x a i cls d fun ρ => htv x ρ (.or t u)) :=
  PWimp (pw_or h.1 h2) fun σ H Q ⟨Hf, ρ, S, w, e1, q⟩ => by
    unfold tOr
    simp only [htv] at e1
    split at e1
    · rename_i e2
      refine two_t S e2 fun v Hf1 H1 S1 st R => ?_
      subst R
      exact ⟨Hf1, ρ, S1, w, e1, fun v Hf' H' sb st' R' => q v Hf' H' sb (st.ff st') R'⟩
    · rename_i e2
      cases e1
      refine two_t S e2 fun v Hf1 H1 S1 st R => ?_
      subst R
      exact q _ Hf1 H1 S1.slots.sub st rfl
    · cases e1
theorem ht_tr {e : Hx} {y : Expr} (hp : plainT y = true) (h : GHx X FN x a i cls d oe pn e y) : PT (X.suite a ((a, oe) :: pn)) y (tHt X FN.cl x a i cls d fun ρ => htv x ρ (.tr e)) := PTimp (pt_truth h (isTrue_plainT hp)) fun σ H Q ⟨Hf, ρ, S, r, e1, q⟩ => by
  simp only [htv] at e1
  split at e1
  · rename_i b e2
    cases e1
    refine two_v S e2 fun v Hf1 H1 S1 st R => ?_
    rw [repB R]
    exact ⟨r, rfl, q _ Hf1 H1 S1.slots.sub st rfl⟩
  · cases e1
end
end Ev
end
section
set_option maxRecDepth 100000
set_option maxHeartbeats 2000000
/-! Except suites by the check; the whole try. -/
namespace Ev
open PySem PySem.Spec PyProof.Rows L2
section
variable {CX : CXT} {X : Cx} {N : List Str} {FN : Nms} {sc : Scope} {fl : Flags} {c : CallF} {lvl : Nat} {W : XW} {x : Exn} {a : Addr} {i : Option Nat} {cls : Value} {d : Option Addr} {oe : Obj} {pn : List (Addr × Obj)} {pos : Pos}
mutual
theorem sndHx (C : Ctx CX X N FN sc fl c lvl W) (hz : Zc cls d oe) (hf : ∃ vs, oe.data = .fields vs) : ∀ (e : Hx) (y : Expr), chkHx N FN sc i e y = true → GHx X FN x a i cls d oe pn e y
  | .con dd, y, h => by
    unfold chkHx at h
    split at h
    · exact hx_con h
    · cases h
  | .var j, y, h => by
    unfold chkHx at h
    split at h
    · exact hx_var C h
    · cases h
  | .fld f, y, h => by
    unfold chkHx at h
    split at h
    · simp only [Bool.and_eq_true, decide_eq_true_eq] at h
      exact hx_fld C h.1 h.2 hz hf
    · cases h
  | .ise k s, y, h => by
    unfold chkHx at h
    split at h
    · simp only [Bool.and_eq_true] at h
      exact hx_ise C h.1.1 h.1.2 h.2 hz hf
    · cases h
  | .not e, y, h => by
    unfold chkHx at h
    split at h
    · exact hx_not (sndHx C hz hf e _ h)
    · cases h
  | .and e f, y, h => by
    unfold chkHx at h
    split at h
    · simp only [Bool.and_eq_true] at h
      exact hx_and (sndHx C hz hf e _ h.1) (pe_one (sndHx C hz hf f _ h.2))
    · simp only [Bool.and_eq_true] at h
      exact hx_and (sndHx C hz hf e _ h.1) (sndHx C hz hf f _ h.2)
    · cases h
  | .or e f, y, h => by
    unfold chkHx at h
    split at h
    · simp only [Bool.and_eq_true] at h
      exact hx_or (sndHx C hz hf e _ h.1) (pe_one (sndHx C hz hf f _ h.2))
    · simp only [Bool.and_eq_true] at h
      exact hx_or (sndHx C hz hf e _ h.1) (sndHx C hz hf f _ h.2)
    · cases h
  | .ite t e f, y, h => by
    unfold chkHx at h
    split at h
    · simp only [Bool.and_eq_true] at h
      exact hx_ite (sndHt C hz hf t _ h.1.1) (sndHx C hz hf e _ h.1.2) (sndHx C hz hf f _ h.2)
    · cases h
  | .cmp o e f, y, h => by
    unfold chkHx at h
    split at h
    · simp only [Bool.and_eq_true, decide_eq_true_eq] at h
      obtain ⟨⟨⟨h1, rfl⟩, h2⟩, h3⟩ := h
      exact hx_cmp C (noSet_marks h1) (sndHx C hz hf e _ h2) (sndHx C hz hf f _ h3)
    · cases h
  | .tup es, y, h => by
    unfold chkHx at h
    split at h
    · exact hx_tup (sndHxs C hz hf es _ h)
    · cases h
  | .lst es, y, h => by
    unfold chkHx at h
    split at h
    · exact hx_lst (sndHxs C hz hf es _ h)
    · cases h
theorem sndHxs (C : Ctx CX X N FN sc fl c lvl W) (hz : Zc cls d oe) (hf : ∃ vs, oe.data = .fields vs) : ∀ (es : Hxs) (ys : List Expr), chkHxs N FN sc i es ys = true → PA (X.suite a ((a, oe) :: pn)) ys (tHs X FN.cl x a i cls d fun ρ => hxs x ρ es)
  | .nil, ys, h => by
    unfold chkHxs at h
    split at h
    · exact hxs_nil
    · cases h
  | .cons e es, ys, h => by
    unfold chkHxs at h
    split at h
    · simp only [Bool.and_eq_true] at h
      exact hxs_cons h.1.1 (sndHx C hz hf e _ h.1.2) (sndHxs C hz hf es _ h.2)
    · cases h
theorem sndHt (C : Ctx CX X N FN sc fl c lvl W) (hz : Zc cls d oe) (hf : ∃ vs, oe.data = .fields vs) : ∀ (t : Ht) (y : Expr), chkHt N FN sc i t y = true → GHt X FN x a i cls d oe pn t y
  | .and t u, y, h => by
    unfold chkHt at h
    split at h
    · simp only [Bool.and_eq_true] at h
      have r := ht_and (pos := by assumption) (sndHt C hz hf t _ h.1) (pw_and1 (pos := by assumption) (sndHt C hz hf u _ h.2).1)
      exact ⟨r.pt, fun _ => r⟩
    · simp only [Bool.and_eq_true] at h
      have r := ht_and (sndHt C hz hf t _ h.1) ((sndHt C hz hf u _ h.2).2 rfl)
      exact ⟨r.pt, fun _ => r⟩
    · cases h
  | .or t u, y, h => by
    unfold chkHt at h
    split at h
    · simp only [Bool.and_eq_true] at h
      have r := ht_or (pos := by assumption) (sndHt C hz hf t _ h.1) (pw_or1 (pos := by assumption) (sndHt C hz hf u _ h.2).1)
      exact ⟨r.pt, fun _ => r⟩
    · simp only [Bool.and_eq_true] at h
      have r := ht_or (sndHt C hz hf t _ h.1) ((sndHt C hz hf u _ h.2).2 rfl)
      exact ⟨r.pt, fun _ => r⟩
    · cases h
  | .not t, y, h => by
    unfold chkHt at h
    split at h
    · exact ⟨ht_not (sndHt C hz hf t _ h), fun z => (by cases z)⟩
    · cases h
  | .tr e, y, h => by
    unfold chkHt at h
    simp only [Bool.and_eq_true] at h
    refine ⟨ht_tr h.1 (sndHx C hz hf e _ h.2), fun z => ?_⟩
    cases y with
    | BoolOp o vs p => exact (by have := h.1; cases this)
    | _ => cases z
end
/-- an answer -/
theorem sndHr (C : Ctx CX X N FN sc fl c lvl W) (hz : Zc cls d oe) (hf : ∃ vs, oe.data = .fields vs) (e : Hx) (y : Expr) (h : chkHx N FN sc i e y = true) : PE (X.suite a ((a, oe) :: pn)) y (tHr X FN.cl x a i cls d fun ρ => hrv x ρ e) := by
  have gen : ∀ (_ : ∀ ρ, hrv x ρ e = (hxv x ρ e).map .val), PE (X.suite a ((a, oe) :: pn)) y (tHr X FN.cl x a i cls d fun ρ => hrv x ρ e) := fun k => PEimp (sndHx (x := x) C hz hf e y h) fun σ H Q ⟨Hf, ρ, S, r, e1, q⟩ => by
    have e1' : hrv x ρ e = some r := e1
    rw [k] at e1'
    obtain ⟨u, e2, rfl⟩ := Option.map_eq_some_iff.mp e1'
    exact ⟨Hf, ρ, S, u, e2, fun v Hf' H' sb st R => q v Hf' H' sb st R⟩
  cases e with
  | lst es =>
    unfold chkHx at h
    split at h
    · exact hr_lst (sndHxs C hz hf es _ h)
    · cases h
  | _ => exact gen fun _ => rfl
/-- the reading of a whole suite -/
def tHd (X : Cx) (cl : List ClsD) (x : Exn) (a : Addr) (i : Option Nat) (cls : Value) (d : Option Addr) (f : Env → Option Sl) : TS := fun D σ H => ∃ Hf ρ, HS X cl x a i cls d Hf H ρ σ ∧ ∃ r, f ρ = some r ∧ ∀ v Hf' H', Sub Hf' H' → Step (fun _ => False) Hf H Hf' H' → ResR X.w X.K Hf' H' H r v → D.rt v H'
theorem sndHd (C : Ctx CX X N FN sc fl c lvl W) (hz : Zc cls d oe) (hf : ∃ vs, oe.data = .fields vs) : ∀ (e : Hd) (ys : List Stmt), chkHd N FN sc i e ys = true → PSs (X.suite a ((a, oe) :: pn)) ys (tHd X FN.cl x a i cls d fun ρ => hdv x ρ e)
  | .ret e, ys, h => by
    unfold chkHd at h
    split at h
    · refine PSsimp (pss_one (ps_ret (sndHr (x := x) C hz hf e _ h))) fun D σ H ⟨Hf, ρ, S, r, e1, q⟩ => ?_
      exact ⟨Hf, ρ, S, r, e1, q⟩
    · cases h
  | .ifr t e r, ys, h => by
    unfold chkHd at h
    split at h
    · simp only [Bool.and_eq_true] at h
      refine PSsimp (pss_cons (ps_if (sndHt (x := x) C hz hf t _ h.1.1).1 (pss_one (ps_ret (sndHr (x := x) C hz hf e _ h.1.2))) pss_nil) (sndHd C hz hf r _ h.2)) fun D σ H ⟨Hf, ρ, S, w, e1, q⟩ => ?_
      have e1' : hdv x ρ (.ifr t e r) = some w := e1
      simp only [hdv] at e1'
      show tHt X FN.cl x a i cls d (fun ρ => htv x ρ t) σ H fun b H1 => _
      split at e1'
      · rename_i e2
        refine two_t S e2 fun b Hf1 H1 S1 st R => ?_
        subst R
        exact ⟨Hf1, ρ, S1, w, e1', fun v Hf' H' sb st' R' => q v Hf' H' sb (st.ff st') (R'.of (M := fun _ => False) st)⟩
      · rename_i e2
        refine two_t S e2 fun b Hf1 H1 S1 st R => ?_
        subst R
        exact ⟨Hf1, ρ, S1, w, e1', fun v Hf' H' sb st' R' => q v Hf' H' sb (st.ff st') (R'.of (M := fun _ => False) st)⟩
      · cases e1'
    · cases h
end
end Ev
end
section
set_option maxRecDepth 100000
set_option maxHeartbeats 2000000
/-! The clauses of a try by the check. -/
namespace Ev
open PySem PySem.Spec PyProof.Rows L2
section
variable {CX : CXT} {X : Cx} {N : List Str} {FN : Nms} {sc : Scope} {fl : Flags} {c : CallF} {lvl : Nat} {W : XW} {pos : Pos}
theorem poison_get {ρ : Env} {j : Nat} {s : Sl} (h : (poison ρ)[j]? = some (some s)) : ∃ dd, s = .val dd ∧ ρ[j]? = some (some (.val dd)) := by
  unfold poison at h
  rw [List.getElem?_map] at h
  cases e : ρ[j]? with
  | none => rw [e] at h; cases h
  | some o =>
    rw [e] at h
    cases o with
    | none => cases h
    | some s' =>
      cases s' with
      | val dd => cases h; exact ⟨dd, rfl, rfl⟩
      | own l dd => cases h
theorem poison_len {ρ : Env} : (poison ρ).length = ρ.length := by unfold poison; rw [List.length_map]
theorem wipe1_get {ρ : Env} {i : Option Nat} {j : Nat} {s : Sl} (h : (wipe1 ρ i)[j]? = some (some s)) : i ≠ some j ∧ ρ[j]? = some (some s) := by
  cases i with
  | none => exact ⟨(fun z => by cases z), h⟩
  | some k =>
    have h' : (ρ.set k none)[j]? = some (some s) := h
    by_cases e : k = j
    · subst e
      by_cases hk : k < ρ.length
      · rw [List.getElem?_set_self hk] at h'; cases h'
      · rw [List.getElem?_eq_none (by simpa using hk)] at h'; cases h'
    · rw [List.getElem?_set_ne e] at h'
      exact ⟨fun z => e (by cases z; rfl), h'⟩
theorem wipe1_len {ρ : Env} {i : Option Nat} : (wipe1 ρ i).length = ρ.length := by cases i <;> simp [wipe1]
theorem slotI_len {σ : L2.St} {a : Addr} {i : Option Nat} : (slotI σ a i).length = σ.length := by cases i <;> simp [slotI]
theorem slotI_ne {σ : L2.St} {a : Addr} {i : Option Nat} {j : Nat} (h : i ≠ some j) : (slotI σ a i)[j]? = σ[j]? := by
  cases i with
  | none => rfl
  | some k =>
    show (σ.set k (some (.ref a)))[j]? = _
    exact List.getElem?_set_ne fun e => h (by rw [e])
/-- where a suite begins -/
theorem hs_start {Hf H Hf' H' : Hp} {ρ : Env} {σ : L2.St} {x : Exn} {a : Addr} {i : Option Nat} {cv : Value} {dx : Option Addr} (S : Slots X.w X.K Hf H ρ σ) (sb : Sub Hf' H') (st : Step (OwnSet ρ σ) Hf H Hf' H') (er : ExcRep X.w X.K X.mg FN.cl x cv dx Hf' H') (hi : ∀ j, i = some j → j < σ.length) :
    HS X FN.cl x a i cv dx Hf' H' (wipe1 (poison ρ) i) (slotI σ a i) := by
  refine ⟨⟨sb, by rw [wipe1_len, poison_len, slotI_len]; exact S.len, fun j s e => ?_, fun j k l m d1 d2 b e1 _ _ _ => ?_⟩, fun j l dd e => ?_, fun j e => ?_, er⟩
  · obtain ⟨h1, h2⟩ := wipe1_get e
    obtain ⟨dd, rfl, h3⟩ := poison_get h2
    obtain ⟨v, k1, k2⟩ := S.rep j _ h3
    exact ⟨v, by rw [slotI_ne h1]; exact k1, Rep.mono st.sub k2⟩
  · obtain ⟨dd, z, _⟩ := poison_get (wipe1_get e1).2
    cases z
  · obtain ⟨dd, z, _⟩ := poison_get (wipe1_get e).2
    cases z
  · subst e
    show (σ.set j (some (.ref a)))[j]? = _
    exact List.getElem?_set_self (hi j rfl)
abbrev wOut (X : Cx) (cl : List ClsD) (W : XW) : WX := fun cv dx σ H => EK X cl W σ cv dx H
theorem chkHd_ne {i : Option Nat} {h : Hd} {ss : List Stmt} (e : chkHd N FN sc i h ss = true) : ∃ b0 su, ss = b0 :: su := by
  cases h with
  | ret a =>
    unfold chkHd at e
    split at e
    · exact ⟨_, _, rfl⟩
    · cases e
  | ifr t a r =>
    unfold chkHd at e
    split at e
    · exact ⟨_, _, rfl⟩
    · cases e
theorem sndHds (C : Ctx CX X N FN sc fl c lvl W) : ∀ (hs : Hds) (hds : List ExceptHandler), chkHds N FN sc hs hds = true → ∃ l, ClsS X hds l ∧
    ∀ (qt : Bool) (D : Ends) (Hf H Hf' H' : Hp) (ρ : Env) (σ : L2.St) (x : Exn) (cv : Value) (dx : Option Addr), σ.length = N.length → Slots X.w X.K Hf H ρ σ → GoesS qt W Hf H ρ σ (hdsv x (poison ρ) hs) (Wants X.w X.K Hf H ρ σ D) → Sub Hf' H' → Step (OwnSet ρ σ) Hf H Hf' H' → ExcRep X.w X.K X.mg FN.cl x cv dx Hf' H' →
      wCl X.K (wOut X FN.cl W) D l cv dx σ H'
  | .nil, hds, h => by
    unfold chkHds at h
    split at h
    · exact ⟨[], .nil, fun qt D Hf H Hf' H' ρ σ x cv dx _ S g sb st er => ⟨x, Hf', er, sb, g σ (fun _ => rfl) Hf' H' sb st⟩⟩
    · cases h
  | .cons k s i h0 r, hds, h => by
    unfold chkHds at h
    split at h
    · rename_i y yp nm suite cp rest
      simp only [Bool.and_eq_true] at h
      obtain ⟨⟨⟨h1, h2⟩, h3⟩, h4⟩ := h
      obtain ⟨l, hl, hw⟩ := sndHds C r rest h4
      obtain ⟨cd, Ca, g1, g2, g3, A, g4, g5⟩ := okCl_spec C h1
      obtain ⟨b0, su, rfl⟩ := chkHd_ne h3
      have hn : nameOk X nm i ∧ ∀ j, i = some j → j < N.length := by
        cases nm with
        | none => cases i with
          | none => exact ⟨trivial, (fun j z => by cases z)⟩
          | some j => cases h2
        | some n => cases i with
          | none => cases h2
          | some j =>
            obtain ⟨k1, k2⟩ := Bool.and_eq_true_iff.mp h2
            have hj : N[j]? = some n := of_decide_eq_true k1
            refine ⟨⟨by rw [C.names]; exact hj, ?_⟩, fun j' z => by cases z; exact (List.getElem?_eq_some_iff.mp hj).1⟩
            show X.env.scope.names.lookup n = some .local
            rw [C.scope]
            unfold locB at k2
            split at k2
            · assumption
            · cases k2
      refine ⟨(.ref Ca, i, fun a cls d D σ H => ∃ x, tHd X FN.cl x a i cls d (fun ρ => hdv x ρ h0) D σ H) :: l, .cons ⟨g4, g5, .inl (by rw [← g2]; exact A.mg_)⟩ hn.1 (fun a oe cls d pn hz hf => ⟨fun pins st σ H D I ⟨x, q⟩ => (sndHd (x := x) C hz hf h0 (b0 :: su) h3).run pins st σ H D I q⟩) hl, ?_⟩
      intro qt D Hf H Hf' H' ρ σ x cv dx hlen S g sb st er
      obtain ⟨xd, Cx, k1, k2, k3, k4, k5⟩ := id er
      subst k3
      obtain ⟨C2, B⟩ := C.cls.at_ _ _ k1
      have eC : C2 = Cx := by have := B.mg_; rw [k2] at this; cases this; rfl
      subst eC
      have two := (C.cls.two _ _ _ _ _ _ k1 g1 B.mg_ A.mg_).1
      rw [g3] at two
      refine ⟨_, two, fun hb a na => ⟨x, ?_⟩, fun hb => ?_⟩
      · unfold hdsv at g
        rw [if_pos hb] at g
        split at g
        · rename_i r0 e0
          have HS0 := hs_start (a := a) (i := i) S sb st er fun j z => by rw [hlen]; exact hn.2 j z
          refine ⟨Hf', _, HS0, r0, e0, fun v Hf1 H1 sb1 st1 R1 => ?_⟩
          have HS1 := HS0.step sb1 st1
          have no : ∀ {j : Nat} {l : Bool} {dd : PyData}, (wipe1 (poison ρ) i)[j]? ≠ some (some (Sl.own l dd)) := fun {j l dd} => HS0.noOwn j l dd
          have P : PostS X.w X.K Hf H ρ σ Hf1 H1 (wipe1 (poison ρ) i) (slotI σ a i) := ⟨HS1.slots, st.trans (N := fun _ => False) st1 fun _ z => z.elim, fun j d' e => (no e).elim, fun b ⟨j, d', e, _⟩ => (no e).elim⟩
          have fin := g v (slotI σ a i) Hf1 H1 P (by
            cases r0 with
            | val dd => exact R1
            | own l0 dd => cases l0 with
              | true => exact R1
              | false =>
                obtain ⟨b, q1, q2, q3, q4⟩ := R1
                exact ⟨b, q1, q2, q4, .inr (fresh_back st q3)⟩)
          cases i <;> exact fin
        · exact g.elim
      · unfold hdsv at g
        rw [if_neg (by rw [hb]; exact Bool.false_ne_true)] at g
        exact hw qt D Hf H Hf' H' ρ σ x _ dx hlen S g sb st er
    · cases h
/-- a try's own context -/
theorem Ctx.tr (C : Ctx CX X N FN sc fl c lvl W) {Wx : WX} {pn' : List (Addr × Obj)} {xe' : Value → Shared → Prop} (tk : Takes (X.tr pn' xe') Wx) : Ctx CX (X.tr pn' xe') N FN sc fl c lvl (fun σ x Hf H => ∀ cv dx, ExcRep X.w X.K X.mg FN.cl x cv dx Hf H → Wx cv dx σ H) := by
  have tk' : Takes (X.tr pn' xe') (fun cv dx σ H => EK (X.tr pn' xe') FN.cl (fun σ x Hf H => ∀ cv dx, ExcRep X.w X.K X.mg FN.cl x cv dx Hf H → Wx cv dx σ H) σ cv dx H) := tk.imp fun cv dx σ H ⟨x, Hf', er, _, w⟩ => w cv dx er
  refine ⟨C.calm, C.names, C.nodup, C.scope, C.room, C.blt, C.fns, C.gls, fun σ => ?_, tk', C.nox, C.lv2, C.cls, C.cmps, C.cxEq, C.rules⟩
  have e := C.cxEq
  subst e
  exact passAt tk' σ
end
end Ev
end
section
set_option maxRecDepth 100000
set_option maxHeartbeats 2000000
/-! THE THEOREM for statements; a def's promise. -/
namespace Ev
open PySem PySem.Spec PyProof.Rows L2
section
variable {CX : CXT} {FN : Nms} {fl : Flags} {c : CallF} {lvl : Nat} {X : Cx} {N : List Str} {sc : Scope} {W : XW} {pos : Pos}
theorem sw_none {x : Expr} {l : Nat} {env : PySem.Env} (t : Option Expr) (h : noComp x = true) : swapsWith x t l env = pure false := by
  cases x <;> first | rfl | cases h
theorem sws_none {x t : Expr} {l : Nat} {env : PySem.Env} (h : noComp x = true) : swapsWithSole [t] x l env = pure false := sw_none (some t) h
theorem ss_none {x t : Expr} {env : PySem.Env} (h : noTup x = true) : swappedStores [t] x env = pure none := by
  cases t <;> cases x <;> first | rfl | cases h
theorem sw_lc {elt : Expr} {gs : List Comprehension} {scope : Scope} {p py : Pos} {y : Str} {l : Nat} {env : PySem.Env} : ∃ b : Bool, swapsWith (.ListComp elt gs scope p) (some (.Name y py)) l env = pure b ∧ (b = true → env.scope.names.lookup y = some .local) := by
  refine ⟨_, rfl, fun h => ?_⟩
  simp only [Bool.and_eq_true] at h
  have := h.1.1.2
  unfold PySem.Env.kindOf at this
  revert this
  cases env.scope.names.lookup y with
  | none => intro z; cases z
  | some k => cases k <;> intro z <;> first | rfl | cases z
theorem snd_asg {qt : Bool} {i : Nat} {e : Ex} (C : Ctx CX X N FN sc fl c lvl W) (hf : ∀ x, X.fn x = true) (s : Stmt) (h : chkS N FN sc (.asg i e) s = true) : PS X s (sV qt X W (evS fl c (.asg i e))) := by
  unfold chkS at h
  split at h
  · rename_i t x pos
    simp only [Bool.and_eq_true] at h
    obtain ⟨⟨h1, h2⟩, h3⟩ := h
    unfold okTg at h1
    split at h1
    · rename_i y py
      rw [Bool.and_eq_true] at h1
      have hi : X.N[i]? = some y := by rw [C.names]; exact of_decide_eq_true h1.1
      have hN : X.N.Nodup := by rw [C.names]; exact C.nodup
      have hl : Loc X.env.scope y := by
        rw [C.scope]
        have h4 := h1.2
        unfold loccB at h4
        split at h4
        · rename_i e; exact .inl e
        · rename_i e; exact .inr e
        · cases h4
      have he := (sndE e (W := W) C x h3).1
      refine rs_asg ?_
      by_cases hc : noComp x = true
      · exact ps_set hN hi hl he (sw_none _ hc) (.inl (hf y))
      · cases x with
        | ListComp ex gs scope p =>
          obtain ⟨b, e1, e2⟩ := sw_lc (elt := ex) (gs := gs) (scope := scope) (p := p) (py := py) (y := y) (l := pos.line) (env := X.env)
          cases b with
          | false => exact ps_set hN hi hl he e1 (.inl (hf y))
          | true =>
            cases e with
            | comp own elt tg it ifs =>
              obtain ⟨ex', tgx, ix, cs, scope', pos', e3, K⟩ := snd_comp (W := W) C _ h3 (fun t y ht hy => sndI it C t y ht hy) (fun C' y hy => (sndT ifs C' y hy).1) (fun C' y hy => (sndE elt C' y hy).1)
              cases e3
              exact rs_setComp C.calm hN hi (e2 rfl) e1 K
            | stk => exact ⟨fun pins s σ H D I ⟨Hf, ρ, S, g⟩ => g.elim⟩
            | _ => unfold chkE at h3; cases h3
        | SetComp _ _ _ _ => cases h2
        | DictComp _ _ _ _ _ => cases h2
        | _ => exact absurd rfl hc
    · cases h1
  · cases h

/-- a slot's own object was changed in place -/
theorem Post.setOwn {w : World} {K : PySem.W.Frag} {Hf H Hf1 H1 H' : Hp} {ρ ρ1 : Env} {σ : L2.St} {i : Nat} {l : Bool} {d d' : D} {a : Addr} (P : Post w K Hf H ρ Hf1 H1 ρ1 σ) (e3 : ρ1[i]? = some (some (Sl.own l d))) (e2 : σ[i]? = some (some (V.ref a))) (n' : Hf1 a = none)
    (sb : Sub Hf1 H') (st : Step (fun b => b = a) Hf1 H1 Hf1 H') (ho : OwnAt w K Hf1 H' a d') : Post w K Hf H ρ Hf1 H' (ρ1.set i (some (Sl.own l d'))) σ := by
  have hi : i < ρ1.length := (List.getElem?_eq_some_iff.mp e3).1
  have was : ∀ j (l' : Bool) (d1 : D), (ρ1.set i (some (Sl.own l d')))[j]? = some (some (Sl.own l' d1)) → ∃ (d2 : D), ρ1[j]? = some (some (Sl.own l' d2)) := fun j l' d1 e6 => by
    by_cases hj : i = j
    · subst hj
      rw [List.getElem?_set_self hi] at e6
      cases e6
      exact ⟨d, e3⟩
    · rw [List.getElem?_set_ne hj] at e6; exact ⟨d1, e6⟩
  refine ⟨⟨sb, by rw [List.length_set]; exact P.slots.len, fun j sl e6 => ?_, fun j k l1 l2 d1 d2 b k1 k2 k3 k4 => ?_⟩, P.step.trans st fun b e => .inl (by rw [e]; exact P.ownS a ⟨i, l, d, e3, e2⟩), fun j l1 d1 k1 => ?_⟩
  · by_cases hj : i = j
    · subst hj
      rw [List.getElem?_set_self hi] at e6
      cases e6
      exact ⟨_, e2, a, rfl, n', ho⟩
    · rw [List.getElem?_set_ne hj] at e6
      obtain ⟨u, k1, k2⟩ := P.slots.rep j sl e6
      refine ⟨u, k1, ?_⟩
      cases sl with
      | val d1 => exact k2
      | own l1 d1 =>
        obtain ⟨b, rfl, nb, zb⟩ := k2
        have hne : b ≠ a := fun y => hj (P.slots.one i j l l1 d d1 a e3 e6 e2 (by rw [k1, y]))
        exact ⟨b, rfl, nb, zb.step st hne⟩
  · obtain ⟨x1, w1⟩ := was j l1 d1 k1
    obtain ⟨x2, w2⟩ := was k l2 d2 k2
    exact P.slots.one j k l1 l2 x1 x2 b w1 w2 k3 k4
  · obtain ⟨x1, w1⟩ := was j l1 d1 k1
    exact P.own j l1 x1 w1
theorem snd_sto {i : Nat} {k v : Ex} (C : Ctx CX X N FN sc fl c lvl W) (s : Stmt) (h : chkS N FN sc (.sto i k v) s = true) : PS X s (sS X W (evS fl c (.sto i k v))) := by
  unfold chkS at h
  split at h
  · rename_i o p1 y p2 x pos
    simp only [Bool.and_eq_true] at h
    obtain ⟨⟨⟨⟨h1, h2⟩, h3⟩, h4⟩, h5⟩ := h
    have hv := (sndE v (W := W) C x h5).1
    have hk := (sndE k (W := W) C y h4).1
    have ps := ps_asg (pos := pos) (sD_of hv) (pg_sub (pos := p2) (pe_name (pos := p1) C.names C.scope h1) (sD_of hk) (C.rules X C.calm C.room).set (by intro u; cases y <;> first | rfl | cases h2)) (sws_none h3) (by cases x <;> rfl)
    refine PSimp ps fun D σ H ⟨Hf, ρ, S, g⟩ => ?_
    unfold evS at g
    show sD X W (ev fl c v) σ H fun xv H1 => (∃ ov, σ[i]? = some (some ov) ∧ sD X W (ev fl c k) σ H1 fun kv H2 => rSetD X.w X.K ov kv xv H2 fun H3 => D.nx σ H3)
    refine GoesS.read S g fun r1 ρ1 v1 Hf1 H1 P1 R1 q1 => ?_
    simp only at q1
    split at q1
    · rename_i ho
      obtain ⟨l0, d0, e0⟩ := ownAll_spec ho i (by simp)
      obtain ⟨ov, e2, a, rfl, n, z⟩ := P1.slots.rep i _ e0
      refine ⟨.ref a, e2, ?_⟩
      have q1' := q1.shift (fun _ => rfl) P1.toS (fun f h => h.back P1.toS)
      refine GoesS.read P1.slots q1' fun r2 ρ2 v2 Hf2 H2 P2 R2 q2 => ?_
      simp only at q2
      split at q2
      · rename_i l d e3
        split at q2
        · rename_i d' e4
          obtain ⟨v', e5, b, e7, n', z'⟩ := P2.slots.rep i _ e3
          rw [e2] at e5; cases e5; cases e7
          exact ⟨Hf2, a, d, r2.d, r1.d, d', rfl, P2.slots.sub, n', z', R2, Rep.mono P2.step.sub R1, e4, fun H' sb st ho' => q2 σ Hf2 H' ((P2.setOwn e3 e2 n' sb st ho').toS)⟩
        · exact q2.elim
      · exact q2.elim
    · exact q1.elim
  · cases h
theorem loc_at (C : Ctx CX X N FN sc fl c lvl W) (hf : ∀ x, X.fn x = true) (x : Str) (h : loccB sc x = true) : Loc X.env.scope x ∧ (X.fn x = true ∨ X.env.scope.names.lookup x = some .local) := by
  refine ⟨?_, .inl (hf x)⟩
  rw [C.scope]
  unfold loccB at h
  split at h
  · rename_i e; exact .inl e
  · rename_i e; exact .inr e
  · cases h
theorem snd_ret {qt : Bool} {e : Ex} (C : Ctx CX X N FN sc fl c lvl W) (s : Stmt) (h : chkS N FN sc (.ret e) s = true) : PS X s (sV qt X W (evS fl c (.ret e))) := by
  unfold chkS at h
  split at h
  · rename_i x pos
    refine rs_ret (sndE e C x h).1 fun i z => ?_
    subst z
    unfold chkE at h
    split at h
    · exact pe_name C.names C.scope h
    · cases h
  · cases h
theorem snd_drop {qt : Bool} {e : Ex} (C : Ctx CX X N FN sc fl c lvl W) (s : Stmt) (h : chkS N FN sc (.drop e) s = true) : PS X s (sV qt X W (evS fl c (.drop e))) := by
  unfold chkS at h
  split at h
  · rename_i x pos
    simp only [Bool.and_eq_true] at h
    exact rs_drop (sndE e C x h.2).1 (sw_none _ h.1)
  · cases h
theorem chk_one {s : St} {ss : Sts} {xs : List Stmt} (h : chkSs N FN sc (.cons s ss) xs = true) : ∃ x r, xs = x :: r ∧ chkS N FN sc s x = true ∧ chkSs N FN sc ss r = true := by
  unfold chkSs at h
  split at h
  · rename_i x r
    simp only [Bool.and_eq_true] at h
    exact ⟨x, r, rfl, h.1, h.2⟩
  · cases h
theorem chk_nil {xs : List Stmt} (h : chkSs N FN sc .nil xs = true) : xs = [] := by
  unfold chkSs at h
  split at h
  · rfl
  · cases h
theorem rss_qif {t : Tx} {e : Ex} {s2 : St} {ss : Sts} {x : Expr} {y xs : List Stmt} (hx : PT X x (sT X W (evt fl c t))) (ha : PSs X y (sV true X W (evSs fl c (.cons (.ret e) .nil)))) (hs : PSs X xs (sV true X W (evSs fl c (.cons s2 ss)))) :
    PSs X (.If x y [] pos :: xs) (sV true X W (evSs fl c (.cons (.iff t (.cons (.ret e) .nil) .nil) (.cons s2 ss)))) :=
  PSsimp (pss_cons (ps_if hx ha pss_nil) hs) fun D σ H ⟨Hf, ρ, S, g⟩ => by
    have g' : GoesS true W Hf H ρ σ (bd (evt fl c t ρ) fun p => bd (if p.1 = true then evSs fl c (.cons (.ret e) .nil) p.2 else evSs fl c .nil p.2) fun f => match f with
      | .nx ρ' => evSs fl c (.cons s2 ss) ρ'
      | f => Ev.rt f) (Wants X.w X.K Hf H ρ σ D) := by
      have : (bd (evt fl c t ρ) fun p => bd (if p.1 = true then evSs fl c (.cons (.ret e) .nil) p.2 else evSs fl c .nil p.2) fun f => match f with
        | .nx ρ' => evSs fl c (.cons s2 ss) ρ'
        | f => Ev.rt f) = evSs fl c (.cons (.iff t (.cons (.ret e) .nil) .nil) (.cons s2 ss)) ρ := by
        show _ = bd (bd (evt fl c t ρ) fun p => if p.1 = true then evSs fl c (.cons (.ret e) .nil) p.2 else evSs fl c .nil p.2) _
        cases evt fl c t ρ with
        | none => rfl
        | some o => cases o <;> rfl
      rw [this]; exact g
    show sT X W (evt fl c t) σ H fun b' H1 => if b' = true then sV true X W (evSs fl c (.cons (.ret e) .nil)) (Ends.mk (sV true X W (evSs fl c (.cons s2 ss)) D) D.rt D.bk D.ct) σ H1 else sV true X W (evSs fl c (.cons s2 ss)) D σ H1
    refine GoesS.readT S g' fun b' ρ1 Hf1 H1 P q => ?_
    cases b' with
    | true =>
      have q1 : GoesS true W Hf H ρ σ (bd (evSs fl c (.cons (.ret e) .nil) ρ1) fun f => match f with
        | .nx ρ' => evSs fl c (.cons s2 ss) ρ'
        | f => Ev.rt f) (Wants X.w X.K Hf H ρ σ D) := q
      have q2 : GoesS true W Hf1 H1 ρ1 σ (bd (evSs fl c (.cons (.ret e) .nil) ρ1) fun f => match f with
        | .nx ρ' => evSs fl c (.cons s2 ss) ρ'
        | f => Ev.rt f) (Wants X.w X.K Hf1 H1 ρ1 σ D) := q1.shift (fun _ => rfl) P.toS fun f h => h.back P.toS
      show sV true X W (evSs fl c (.cons (.ret e) .nil)) (Ends.mk (sV true X W (evSs fl c (.cons s2 ss)) D) D.rt D.bk D.ct) σ H1
      refine ⟨Hf1, ρ1, P.slots, (GoesS.bd q2).imp fun f e1 q3 => ?_⟩
      cases f with
      | nx ρ' =>
        exfalso
        have e2 : (bd (evrOf e (ev fl c e) ρ1) fun p => Ev.rt (Fl.rt p.1 p.2)) = some (.ok (.nx ρ')) := e1
        cases h : evrOf e (ev fl c e) ρ1 with
        | none => rw [h] at e2; cases e2
        | some o => rw [h] at e2; cases o <;> cases e2
      | rt r ρ' => exact q3
      | bk ρ' => exact q3
      | ct ρ' => exact q3
    | false =>
      have q1 : GoesS true W Hf H ρ σ (evSs fl c (.cons s2 ss) ρ1) (Wants X.w X.K Hf H ρ σ D) := q
      exact ⟨Hf1, ρ1, P.slots, q1.shift (fun _ => rfl) P.toS fun f h => h.back P.toS⟩
/-- a quiet body: its slots at a raise are those of the entry -/
theorem snd_quiet (C : Ctx CX X N FN sc fl c lvl W) (hf : ∀ x, X.fn x = true) (body : Sts) (xs : List Stmt) (hq : quiet body = true) (h : chkSs N FN sc body xs = true) : PSs X xs (sV true X W (evSs fl c body)) := by
  unfold quiet at hq
  split at hq
  · obtain ⟨x, r, rfl, h1, h2⟩ := chk_one h
    have := chk_nil h2; subst this
    exact rss_one (snd_ret C x h1)
  · obtain ⟨x, r, rfl, h1, h2⟩ := chk_one h
    have := chk_nil h2; subst this
    exact rss_one (snd_asg C hf x h1)
  · obtain ⟨x, r, rfl, h1, h2⟩ := chk_one h
    have := chk_nil h2; subst this
    exact rss_one (snd_drop C x h1)
  · rename_i e e'
    obtain ⟨x, r, rfl, h1, h2⟩ := chk_one h
    obtain ⟨x2, r2, rfl, h3, h4⟩ := chk_one h2
    have := chk_nil h4; subst this
    unfold chkS at h1
    split at h1
    · rename_i y pos
      simp only [Bool.and_eq_true] at h1
      refine PSsimp (pss_cons (ps_expr (sndE e (W := W) C y h1.2).1 (sw_none _ h1.1)) (rss_one (qt := true) (snd_ret (W := W) C x2 h3))) fun D σ H ⟨Hf, ρ, S, g⟩ => ?_
      have g' : GoesS true W Hf H ρ σ (bd (bd (ev fl c e ρ) fun p => Ev.rt (Fl.nx p.2)) fun f => match f with
        | .nx ρ' => evSs fl c (.cons (.ret e') .nil) ρ'
        | f => Ev.rt f) (Wants X.w X.K Hf H ρ σ D) := by
        unfold evSs evS at g
        exact g
      show sE X W (ev fl c e) σ H fun _ H1 => sV true X W (evSs fl c (.cons (.ret e') .nil)) D σ H1
      refine GoesS.read S (GoesS.bd g') fun r ρ1 v Hf1 H1 P R q => ⟨Hf1, ρ1, P.slots, ?_⟩
      have q' : GoesS true W Hf H ρ σ (evSs fl c (.cons (.ret e') .nil) ρ1) (Wants X.w X.K Hf H ρ σ D) := q
      exact q'.shift (fun _ => rfl) P.toS fun f h => h.back P.toS
    · cases h1
  · rename_i t e s2 ss
    obtain ⟨x, r, rfl, h1, h2⟩ := chk_one h
    unfold chkS at h1
    split at h1
    · rename_i y z u pos
      simp only [Bool.and_eq_true] at h1
      have hu := chk_nil h1.2; subst hu
      obtain ⟨x3, r3, rfl, h5, h6⟩ := chk_one h1.1.2
      have := chk_nil h6; subst this
      exact rss_qif (sndT t C y h1.1.1).1 (rss_one (snd_ret (W := W) C x3 h5)) (snd_quiet C hf (.cons s2 ss) r hq h2)
    · cases h1
  · cases hq
termination_by body
theorem snd_tri {body : Sts} {hs : Hds} (C : Ctx CX X N FN sc fl c lvl W) (hf : ∀ x, X.fn x = true) (hst : X.stack = X.env :: X.outer ∧ X.env.frame = some X.env.locals) (s : Stmt) (h : chkS N FN sc (.tri body hs) s = true) : PS X s (sS X W (evS fl c (.tri body hs))) := by
  unfold chkS at h
  split at h
  · rename_i b hds pos
    simp only [Bool.and_eq_true] at h
    obtain ⟨⟨⟨h1, h2⟩, h3⟩, h4⟩ := h
    obtain ⟨l, hl, hw⟩ := sndHds C hs hds h4
    cases hds with
    | nil =>
      cases hs with
      | nil => cases h2
      | cons _ _ _ _ _ => unfold chkHds at h4; cases h4
    | cons e0 er =>
      refine ⟨fun pins s σ H D I ⟨Hf, ρ, S, g⟩ => ?_⟩
      have hN : X.N.Nodup := by rw [C.names]; exact C.nodup
      have pt := ps_try_cl (pos := pos) (body := b) (tb := fun Wx => sV true X (fun σ x Hf H => ∀ cv dx, ExcRep X.w X.K X.mg FN.cl x cv dx Hf H → Wx cv dx σ H) (evSs fl c body)) hst.1 hst.2 hN C.takes (fun W' pn' xe' tk _ => snd_quiet (C.tr tk) hf body b h1 h3) hl
      refine pt.run pins s σ H D I ⟨Hf, ρ, S, ?_⟩
      have hlen : σ.length = N.length := by rw [← C.names]; exact I.len
      unfold evS at g
      cases e : evSs fl c body ρ with
      | none => rw [e] at g; exact g.elim
      | some out =>
        rw [e] at g
        cases out with
        | ok f => exact g
        | error x =>
          intro σ' hσ Hf' H' sb st cv dx er
          have := hσ rfl
          subst this
          exact hw false D Hf H Hf' H' ρ _ x cv dx hlen S g sb st er
  · cases h
/-- raise -/
theorem snd_rse {qt : Bool} {k : Nat} {fs : List Str} {es : Exs} (C : Ctx CX X N FN sc fl c lvl W) (s : Stmt) (h : chkS N FN sc (.rse k fs es) s = true) : PS X s (sV qt X W (evS fl c (.rse k fs es))) := by
  unfold chkS at h
  split at h
  · rename_i x p xs cp rp
    simp only [Bool.and_eq_true, decide_eq_true_eq, Bool.not_eq_true'] at h
    obtain ⟨⟨⟨⟨⟨⟨h1, h2⟩, h3⟩, h4⟩, h5⟩, h7⟩, h6⟩ := h
    split at h3
    · rename_i d hd
      simp only [Bool.and_eq_true, decide_eq_true_eq] at h3
      refine rs_rse (CX := CX) C.calm C.cls hd h3.1 h3.2 h7 C.takes (fun pins σ H s e s' I z => (C.nox _ _ _ _ _ _ (fun _ _ _ w => w) z).elim) (C.room.mono C.lv2) (gl_of C h1) h2 h4 h5 (chkEs_all h6) (fun z => chkEs_nil (by rw [← z]; exact h6)) (sndEs es C _ h6)
    · cases h3
  · cases h
mutual
theorem sndS (hst : X.stack = X.env :: X.outer ∧ X.env.frame = some X.env.locals) : ∀ (st : St) (_ : Ctx CX X N FN sc fl c lvl W) (_ : ∀ x, X.fn x = true) (_ : PassesOwn (model X.prog X.w) X.A X.env X.xe) (s : Stmt), chkS N FN sc st s = true → PS X s (sS X W (evS fl c st))
  | .stk, C, hf, hp, s, h => rs_stk
  | .asg i e, C, hf, hp, s, h => snd_asg C hf s h
  | .asgT is e, C, hf, hp, s, h => by
    unfold chkS at h
    split at h
    · rename_i ts k p x pos
      simp only [Bool.and_eq_true] at h
      obtain ⟨⟨⟨h1, h2⟩, h3⟩, h4⟩ := h
      exact rs_asgT (ps_asg (pos := pos) (sD_of (sndE e C x h4).1) (pg_tg (tg := .tup is) (e := .Tuple ts k p) C.calm (by rw [C.names]; exact C.nodup) (chkTg_spec C.names (loc_at C hf) h1)) (sws_none h3) (ss_none h2))
    · cases h
  | .sto i k v, C, hf, hp, s, h => snd_sto C s h
  | .drop e, C, hf, hp, s, h => snd_drop C s h
  | .ret e, C, hf, hp, s, h => snd_ret C s h
  | .rse k fs es, C, hf, hp, s, h => snd_rse C s h
  | .tri body hs, C, hf, hp, s, h => snd_tri C hf hst s h
  | .retN, C, hf, hp, s, h => by
    unfold chkS at h
    split at h
    · exact rs_retN
    · cases h
  | .iff t a b, C, hf, hp, s, h => by
    unfold chkS at h
    split at h
    · rename_i x y z pos
      simp only [Bool.and_eq_true] at h
      exact rs_if (sndT t C x h.1.1).1 (sndSs hst a C hf hp y h.1.2) (sndSs hst b C hf hp z h.2)
    · cases h
  | .fr tg it body, C, hf, hp, s, h => by
    unfold chkS at h
    split at h
    · rename_i t x y pos
      simp only [Bool.and_eq_true] at h
      have hi := sndI it (W := W) C t x h.2 h.1.1.2
      exact rs_for hp C.calm hi.1 (pg_tg C.calm (by rw [C.names]; exact C.nodup) (chkTg_spec C.names (loc_at C hf) h.1.1.1)) (sndSs hst body C hf hp y h.1.2) hi.2
    · cases h
  | .whl t body, C, hf, hp, s, h => by
    unfold chkS at h
    split at h
    · rename_i x y pos
      simp only [Bool.and_eq_true] at h
      exact rs_while hp (sndT t C x h.1).1 (sndSs hst body C hf hp y h.2)
    · cases h
  | .brk, C, hf, hp, s, h => by
    unfold chkS at h
    split at h
    · exact rs_brk
    · cases h
  | .cnt, C, hf, hp, s, h => by
    unfold chkS at h
    split at h
    · exact rs_cnt
    · cases h
  | .pas, C, hf, hp, s, h => by
    unfold chkS at h
    split at h
    · exact rs_pas
    · cases h
theorem sndSs (hst : X.stack = X.env :: X.outer ∧ X.env.frame = some X.env.locals) : ∀ (ss : Sts) (_ : Ctx CX X N FN sc fl c lvl W) (_ : ∀ x, X.fn x = true) (_ : PassesOwn (model X.prog X.w) X.A X.env X.xe) (xs : List Stmt), chkSs N FN sc ss xs = true → PSs X xs (sS X W (evSs fl c ss))
  | .nil, C, hf, hp, xs, h => by
    unfold chkSs at h
    split at h
    · exact rss_nil
    · cases h
  | .cons s .nil, C, hf, hp, xs, h => by
    unfold chkSs at h
    split at h
    · rename_i x r
      simp only [Bool.and_eq_true] at h
      obtain ⟨h1, h2⟩ := h
      unfold chkSs at h2
      split at h2
      · exact rss_one (sndS hst s C hf hp x h1)
      · cases h2
    · cases h
  | .cons s (.cons s2 ss), C, hf, hp, xs, h => by
    unfold chkSs at h
    split at h
    · rename_i x r
      simp only [Bool.and_eq_true] at h
      exact rss_cons (sndS hst s C hf hp x h.1) (sndSs hst (.cons s2 ss) C hf hp r h.2)
    · cases h
end
end
end Ev
end
section
set_option maxRecDepth 100000
set_option maxHeartbeats 2000000
/-! A def's promise, level by level. -/
namespace Ev
open PySem PySem.Spec PyProof.Rows L2
section
variable {w : World} {K : PySem.W.Frag} {Hf H Hf' H' : Hp}
def parE (bs : List Bool) (ds : List D) : Ev.Env := List.zipWith (fun b x => if b then some (Sl.own true x) else some (Sl.val x)) bs ds
theorem ArgsR.lenD : ∀ {bs : List Bool} {ds : List D} {vs : List V}, ArgsR w K Hf H bs ds vs → ds.length = bs.length
  | [], [], _, _ => rfl
  | [], _ :: _, _, h => h.elim
  | true :: _, [], _, h => h.elim
  | false :: _, [], _, h => h.elim
  | true :: bs, d :: ds, _, h => by
    obtain ⟨a, r, rfl, _, _, q⟩ := h
    simp [q.lenD]
  | false :: bs, d :: ds, _, h => by
    obtain ⟨v, r, rfl, _, q⟩ := h
    simp [q.lenD]
theorem ArgsR.get : ∀ {bs : List Bool} {ds : List D} {vs : List V}, ArgsR w K Hf H bs ds vs → ∀ (i : Nat) (s : Sl), (parE bs ds)[i]? = some (some s) → ∃ v, vs[i]? = some v ∧ SlRep w K Hf H s v ∧ ∀ (l : Bool) (d : D), s = .own l d → bs[i]? = some true
  | [], [], _, _, i, s, e => by simp [parE] at e
  | [], _ :: _, _, h, _, _, _ => h.elim
  | true :: _, [], _, h, _, _, _ => h.elim
  | false :: _, [], _, h, _, _, _ => h.elim
  | true :: bs, d :: ds, _, h, i, s, e => by
    obtain ⟨a, r, rfl, n, o, q⟩ := h
    cases i with
    | zero =>
      have e' : some (some (Sl.own true d)) = some (some s) := e
      cases e'
      exact ⟨.ref a, rfl, ⟨a, rfl, n, o⟩, fun _ _ _ => rfl⟩
    | succ i => exact q.get i s e
  | false :: bs, d :: ds, _, h, i, s, e => by
    obtain ⟨v, r, rfl, o, q⟩ := h
    cases i with
    | zero =>
      have e' : some (some (Sl.val d)) = some (some s) := e
      cases e'
      exact ⟨v, rfl, o, fun l d z => (by cases z)⟩
    | succ i => exact q.get i s e
theorem lent_mem : ∀ {bs : List Bool} {vs : List V} {i : Nat} {a : Addr}, bs[i]? = some true → vs[i]? = some (V.ref a) → a ∈ lentA bs vs
  | [], _, _, _, h, _ => by simp at h
  | b :: bs, [], _, _, _, h => by simp at h
  | b :: bs, v :: vs, 0, a, h1, h2 => by
    have e1 : b = true := by simpa using h1
    have e2 : v = V.ref a := by simpa using h2
    subst e1 e2
    exact List.mem_cons_self
  | b :: bs, v :: vs, i + 1, a, h1, h2 => by
    have ih : a ∈ lentA bs vs := lent_mem (i := i) (by simpa using h1) (by simpa using h2)
    cases b with
    | false => exact ih
    | true => cases v <;> first | exact ih | exact List.mem_cons_of_mem _ ih
theorem lent_inj : ∀ {bs : List Bool} {vs : List V} {i j : Nat} {a : Addr}, (lentA bs vs).Nodup → bs[i]? = some true → bs[j]? = some true → vs[i]? = some (V.ref a) → vs[j]? = some (V.ref a) → i = j
  | [], _, _, _, _, _, h, _, _, _ => by simp at h
  | b :: bs, [], _, _, _, _, _, _, h, _ => by simp at h
  | b :: bs, v :: vs, 0, 0, a, _, _, _, _, _ => rfl
  | b :: bs, v :: vs, 0, j + 1, a, nd, h1, h2, h3, h4 => by
    have e1 : b = true := by simpa using h1
    have e2 : v = V.ref a := by simpa using h3
    subst e1 e2
    have nd' : (a :: lentA bs vs).Nodup := nd
    exact absurd (lent_mem (i := j) (by simpa using h2) (by simpa using h4)) (List.nodup_cons.mp nd').1
  | b :: bs, v :: vs, i + 1, 0, a, nd, h1, h2, h3, h4 => by
    have e1 : b = true := by simpa using h2
    have e2 : v = V.ref a := by simpa using h4
    subst e1 e2
    have nd' : (a :: lentA bs vs).Nodup := nd
    exact absurd (lent_mem (i := i) (by simpa using h1) (by simpa using h3)) (List.nodup_cons.mp nd').1
  | b :: bs, v :: vs, i + 1, j + 1, a, nd, h1, h2, h3, h4 => by
    have nd' : (lentA bs vs).Nodup := by
      cases b with
      | false => exact nd
      | true => cases v <;> first | exact nd | exact (List.nodup_cons.mp nd).2
    rw [lent_inj (i := i) (j := j) nd' (by simpa using h1) (by simpa using h2) (by simpa using h3) (by simpa using h4)]
theorem ArgsR.lentThere : ∀ {bs : List Bool} {ds : List D} {vs : List V}, ArgsR w K Hf H bs ds vs → ∀ a ∈ lentA bs vs, ∃ o, H a = some o
  | [], [], vs, h, a, ha => by cases vs <;> simp [lentA] at ha
  | [], _ :: _, _, h, _, _ => h.elim
  | true :: _, [], _, h, _, _ => h.elim
  | false :: _, [], _, h, _, _ => h.elim
  | true :: bs, d :: ds, _, h, a, ha => by
    obtain ⟨b, r, rfl, n, o, q⟩ := h
    rcases List.mem_cons.mp (show a ∈ b :: lentA bs r from ha) with e | ha
    · rw [e]; exact o.there
    · exact q.lentThere a ha
  | false :: bs, d :: ds, _, h, a, ha => by
    obtain ⟨v, r, rfl, o, q⟩ := h
    exact q.lentThere a ha
theorem outs_ok : ∀ {bs : List Bool} {vs : List V} {ρ : Ev.Env} {os : List D}, vs.length = bs.length → (∀ (i : Nat) (d : D), ρ[i]? = some (some (Sl.own true d)) → i < bs.length → ∃ a, vs[i]? = some (V.ref a) ∧ Hf a = none ∧ OwnAt w K Hf H a d) → outsOf bs ρ = some os → OutsR w K Hf H bs vs os
  | [], [], _, _, _, _, e => by
    unfold outsOf at e
    cases e
    rfl
  | [], _ :: _, _, _, h, _, _ => by cases h
  | _ :: _, [], _, _, h, _, _ => by cases h
  | true :: bs, v :: vs, ρ, os, hl, ho, e => by
    unfold outsOf at e
    split at e
    · rename_i e1; cases e1
    · rename_i fl d ρ' e1
      cases e1
      cases e2 : outsOf bs ρ' with
      | none => rw [e2] at e; cases e
      | some os' =>
        rw [e2] at e
        cases e
        obtain ⟨a, k1, k2, k3⟩ := ho 0 d rfl (Nat.succ_pos _)
        cases k1
        exact ⟨a, d, os', rfl, rfl, k2, k3, outs_ok (by simpa using hl) (fun i d' h1 h2 => ho (i + 1) d' (by simpa using h1) (by simpa using h2)) e2⟩
    · cases e
    · rename_i e1; cases e1
    · rename_i e1; cases e1
  | false :: bs, v :: vs, ρ, os, hl, ho, e => by
    cases ρ with
    | nil => unfold outsOf at e; cases e
    | cons s ρ =>
      have e' : outsOf bs ρ = some os := by unfold outsOf at e; exact e
      exact outs_ok (bs := bs) (vs := vs) (by simpa using hl) (fun i d' h1 h2 => ho (i + 1) d' (by simpa using h1) (by simpa using h2)) e'
end
section
variable {P : Program} {w : World} {K : PySem.W.Frag} {mg : Str → Option Value} {base : Heap} {Hf H : Hp}
theorem startE_get {d : Def} {ds : List D} {i : Nat} {s : Sl} (hl : ds.length = d.flags.length) (e : (startE d ds)[i]? = some (some s)) : (parE d.flags ds)[i]? = some (some s) ∧ i < d.flags.length := by
  have hz : (parE d.flags ds).length = d.flags.length := by unfold parE; rw [List.length_zipWith]; omega
  unfold startE at e
  by_cases hi : i < d.flags.length
  · rw [List.getElem?_append_left (by show i < (parE d.flags ds).length; rw [hz]; exact hi)] at e
    exact ⟨e, hi⟩
  · rw [List.getElem?_append_right (by show (parE d.flags ds).length ≤ i; rw [hz]; omega), List.getElem?_replicate] at e
    split at e <;> cases e
theorem start_get {N : List Str} {vs : List V} {i : Nat} (hi : i < vs.length) : (start N vs)[i]? = (vs[i]?).map some := by
  unfold L2.start
  rw [List.getElem?_append_left (by simpa using hi), List.getElem?_map]
theorem slots_start {d : Def} {ds : List D} {vs : List V} {N : List Str} (sb : Sub Hf H) (A : ArgsR w K Hf H d.flags ds vs) (nd : (lentA d.flags vs).Nodup) (hn : d.ns = N.length) (hN : d.flags.length ≤ N.length) : Slots w K Hf H (startE d ds) (start N vs) := by
  have hD := A.lenD
  have hV := A.len
  have gt : ∀ (i : Nat) (s : Sl), (startE d ds)[i]? = some (some s) → ∃ v, (start N vs)[i]? = some (some v) ∧ vs[i]? = some v ∧ SlRep w K Hf H s v ∧ ∀ (l : Bool) (x : D), s = .own l x → d.flags[i]? = some true := fun i s e => by
    obtain ⟨e1, hi⟩ := startE_get hD e
    obtain ⟨v, k1, k2, k3⟩ := A.get i s e1
    exact ⟨v, by rw [start_get (by rw [hV]; exact hi), k1]; rfl, k1, k2, k3⟩
  refine ⟨sb, ?_, fun i s e => ?_, fun i j l m d1 d2 a e1 e2 e3 e4 => ?_⟩
  · unfold startE L2.start
    rw [List.length_append, List.length_append, List.length_map, List.length_replicate, List.length_replicate, List.length_zipWith]
    omega
  · obtain ⟨v, k1, _, k2, _⟩ := gt i s e
    exact ⟨v, k1, k2⟩
  · obtain ⟨v, k1, k2, _, k3⟩ := gt i _ e1
    obtain ⟨u, m1, m2, _, m3⟩ := gt j _ e2
    rw [e3] at k1; cases k1
    rw [e4] at m1; cases m1
    exact lent_inj nd (k3 _ _ rfl) (m3 _ _ rfl) k2 m2
/-- THE RULE of a def -/
theorem fn_ok {fl : Flags} {c : CallF} {k np : Nat} {d : Def} {N ps : List Str} {FN : Nms} {scope : Scope} {body : List Stmt} {x qual : Str} {params : Arguments} {fa : Addr} {fd : FuncData} (F : FunD K x qual params body scope [] [] fa fd) (S : FnScope N ps scope) (hps : ps.length = d.flags.length)
    (hc : chkDef N np FN d body scope = true) (hb : ∀ b ∈ bltNames, mg b = none)
    (hfns : ∀ f y, FN.fn[f]? = some y → ∃ (ga : Addr) (gd : FuncData) (qs : List Str), mg y = some (.ref ga) ∧ PySem.W.keepIn K (.ref ga) = true ∧ Binds K gd qs [] ∧ qs.length = (fl f).length ∧ FnOk P w K mg base (L2.CX P w) k ga gd qs (spF w K mg FN.cl (fl f) (c f)))
    (hgl : ∀ x d, FN.gl.lookup x = some d → GlV K mg x d)
    (hr : ∀ Y : Cx, Y.calm = true → Room k Y.A → Rules Y) (hk : 2 ≤ k) (hcl : XTab P K mg FN.cl) (hcm : CmpR) : FnOk P w K mg base (L2.CX P w) (k + 1) fa fd ps (spF w K mg FN.cl d.flags (runDef fl c d)) := by
  have hpl : ps.length ≤ N.length := by have := congrArg List.length S.pre; rw [List.length_take] at this; omega
  unfold chkDef at hc
  simp only [Bool.and_eq_true, decide_eq_true_eq] at hc
  obtain ⟨⟨h1, h2⟩, h3⟩ := hc
  refine FunD.ok F S (fun vs H Q E ⟨Hf, ds, _, A, _⟩ => by rw [A.len, hps]) fun cdv A outer s H vs Q E hroom sp => ?_
  obtain ⟨Hf, ds, sb, ar, nd, q⟩ := sp
  have tk : Takes (cxOf (L2.CX P w) P w K mg base N qual scope fa cdv A outer s H E) (fun cv dx σ H' => EK (cxOf (L2.CX P w) P w K mg base N qual scope fa cdv A outer s H E) FN.cl (fun _ x Hf' H' => ∀ cv dx, ExcRep w K mg FN.cl x cv dx Hf' H' → E cv dx H') σ cv dx H') :=
    (takes_of (E := E) rfl rfl rfl rfl).imp fun cv dx σ H' ⟨x, Hf', er, _, z⟩ => z cv dx er
  have C : Ctx (L2.CX P w) (cxOf (L2.CX P w) P w K mg base N qual scope fa cdv A outer s H E) N FN scope fl c k (fun _ x Hf' H' => ∀ cv dx, ExcRep w K mg FN.cl x cv dx Hf' H' → E cv dx H') :=
    ⟨rfl, rfl, S.nd, rfl, hroom, hb, hfns, hgl, fun σ => passAt tk σ, tk, fun o H s E e s' no ⟨_, _, _, _, _, _, _, _, _, _, _, _, z⟩ => no _ _ _ z, hk, hcl, hcm, rfl, hr⟩
  refine ⟨_, sndSs ⟨rfl, rfl⟩ d.body C (fun _ => rfl) (passes_of rfl) body h3, ?_⟩
  show tS w K false (fun _ x Hf' H' => ∀ cv dx, ExcRep w K mg FN.cl x cv dx Hf' H' → E cv dx H') (evSs fl c d.body) { nx := fun _ H' => Q .non H', rt := Q } (start N vs) H
  have Sl0 := slots_start sb ar nd h1 (by omega)
  have hD := ar.lenD
  have hV := ar.len
  refine ⟨Hf, startE d ds, Sl0, ?_⟩
  have own : ∀ a, OwnSet (startE d ds) (start N vs) a → a ∈ lentA d.flags vs := fun a ⟨i, l, x, e1, e2⟩ => by
    obtain ⟨e3, hi⟩ := startE_get hD e1
    obtain ⟨v, k1, k2, k3⟩ := ar.get i _ e3
    rw [start_get (by rw [hV]; exact hi), k1] at e2
    cases e2
    exact lent_mem (k3 _ _ rfl) k1
  have outs : ∀ {Hf' H' : Hp} {ρ' : Ev.Env} {σ' : L2.St} {os : List D}, PostS w K Hf H (startE d ds) (start N vs) Hf' H' ρ' σ' → outsOf d.flags ρ' = some os → OutsR w K Hf' H' d.flags vs os := fun {Hf' H' ρ' σ' os} Pp e => by
    refine outs_ok hV (fun i x e1 hi => ?_) e
    obtain ⟨_, e2⟩ := Pp.ownT i x e1
    obtain ⟨v, k1, a, rfl, n, o⟩ := Pp.slots.rep i _ e1
    rw [e2, start_get (by rw [hV]; exact hi)] at k1
    cases e3 : vs[i]? with
    | none => rw [e3] at k1; cases k1
    | some v => rw [e3] at k1; cases k1; exact ⟨a, rfl, n, o⟩
  unfold runDef at q
  rw [if_pos hD] at q
  cases e : evSs fl c d.body (startE d ds) with
  | none => rw [e] at q; exact q.elim
  | some out =>
    rw [e] at q
    cases out with
    | error x =>
      intro σ' _ Hf' H' sb' st cv dx er
      exact q cv dx Hf' H' sb' (st.mono fun a _ _ h => own a h) er
    | ok f =>
      cases f with
      | bk _ => exact q.elim
      | ct _ => exact q.elim
      | nx ρ' =>
        intro σ' Hf' H' Pp
        change (match (match outsOf d.flags ρ' with
          | some os => Ev.rt (Sl.val .none, os)
          | none => none) with
          | none => False
          | some (.error x) => ∀ (cv : Value) (dx : Option Addr) (Hf' H' : Hp), Sub Hf' H' → Step (· ∈ lentA d.flags vs) Hf H Hf' H' → ExcRep w K mg FN.cl x cv dx Hf' H' → E cv dx H'
          | some (.ok (r, outs)) => _) at q
        cases e2 : outsOf d.flags ρ' with
        | none => rw [e2] at q; exact q.elim
        | some os =>
          rw [e2] at q
          exact q .non Hf' H' Pp.slots.sub (Pp.step.mono fun a _ _ h => own a h) (by simp [ResR, Rep]) (outs Pp e2)
      | rt r ρ' =>
        intro v σ' Hf' H' Pp R
        change (match (match outsOf d.flags ρ' with
          | some os => Ev.rt (r, os)
          | none => none) with
          | none => False
          | some (.error x) => ∀ (cv : Value) (dx : Option Addr) (Hf' H' : Hp), Sub Hf' H' → Step (· ∈ lentA d.flags vs) Hf H Hf' H' → ExcRep w K mg FN.cl x cv dx Hf' H' → E cv dx H'
          | some (.ok (r, outs)) => _) at q
        cases e2 : outsOf d.flags ρ' with
        | none => rw [e2] at q; exact q.elim
        | some os =>
          rw [e2] at q
          refine q v Hf' H' Pp.slots.sub (Pp.step.mono fun a _ _ h => own a h) ?_ (outs Pp e2)
          cases r with
          | val x => exact R
          | own l x =>
            cases l with
            | true => exact R
            | false =>
              obtain ⟨a, rfl, n, o, z⟩ := R
              refine ⟨a, rfl, n, ?_, o⟩
              rcases z with ⟨i, x', e3, e4⟩ | z
              · obtain ⟨e5, hi⟩ := startE_get hD e3
                exfalso
                have : ∀ (bs : List Bool) (ds : List D) (i : Nat), (parE bs ds)[i]? ≠ some (some (Sl.own false x')) := by
                  intro bs
                  induction bs with
                  | nil => intro ds i h; simp [parE] at h
                  | cons b bs ih =>
                    intro ds i h
                    cases ds with
                    | nil => simp [parE] at h
                    | cons y ds =>
                      cases i with
                      | zero => cases b <;> cases h
                      | succ i => exact ih ds i h
                exact this _ _ _ e5
              · exact z
/-- what is known of a def of the text -/
structure DefOk (K : PySem.W.Frag) (mg : Str → Option Value) (FN : Nms) (d : Def) (y : Str) : Prop where
  ex : ∃ (fa : Addr) (fd : FuncData) (ps N : List Str) (np : Nat) (x qual : Str) (params : Arguments) (body : List Stmt) (scope : Scope), mg y = some (.ref fa) ∧ Binds K fd ps [] ∧ FunD K x qual params body scope [] [] fa fd ∧ FnScope N ps scope ∧ ps.length = d.flags.length ∧ chkDef N np FN d body scope = true
theorem call_ok {FN : Nms} {T : List Def} (hb : ∀ b ∈ bltNames, mg b = none) (hT : ∀ (f : Nat) (y : Str), FN.fn[f]? = some y → ∃ d : Def, T[f]? = some d ∧ DefOk K mg FN d y) (hgl : ∀ x d, FN.gl.lookup x = some d → GlV K mg x d) (hr : ∀ (k : Nat) (Y : Cx), Y.calm = true → Room k Y.A → Rules Y) (hcl : XTab P K mg FN.cl) (hcm : CmpR) : ∀ (n : Nat) (f : Nat) (y : Str), FN.fn[f]? = some y →
    ∃ (ga : Addr) (gd : FuncData) (qs : List Str), mg y = some (.ref ga) ∧ PySem.W.keepIn K (.ref ga) = true ∧ Binds K gd qs [] ∧ qs.length = (flagsOf T f).length ∧ FnOk P w K mg base (L2.CX P w) (n + 2) ga gd qs (spF w K mg FN.cl (flagsOf T f) (call T n f))
  | 0, f, y, h => by
    obtain ⟨d, hd, fa, fd, ps, N, np, x, qual, params, body, scope, h1, h2, h3, h4, h5, h6⟩ := hT f y h
    refine ⟨fa, fd, ps, h1, h3.kp, h2, by unfold flagsOf; rw [hd]; exact h5, fun vs H Q E ⟨_, _, _, _, _, q⟩ => q.elim, fun A outer s H args us vs Q E _ _ _ _ ⟨_, _, _, _, _, q⟩ => q.elim⟩
  | n + 1, f, y, h => by
    obtain ⟨d, hd, fa, fd, ps, N, np, x, qual, params, body, scope, h1, h2, h3, h4, h5, h6⟩ := hT f y h
    have e1 : flagsOf T f = d.flags := by unfold flagsOf; rw [hd]
    have e2 : call T (n + 1) f = runDef (flagsOf T) (call T n) d := by
      funext ds
      show (match T[f]? with
        | some d => runDef (flagsOf T) (call T n) d ds
        | none => none) = _
      rw [hd]
    refine ⟨fa, fd, ps, h1, h3.kp, h2, by rw [e1]; exact h5, ?_⟩
    rw [e1, e2]
    exact fn_ok h3 h4 h5 h6 hb (fun f' y' h' => call_ok hb hT hgl hr hcl hcm n f' y' h') hgl (hr (n + 2)) (Nat.le_add_left 2 n) hcl hcm
/-- whatever the world -/
def CXA (P : Program) : CXT := fun o H s E e s' => ∃ w, L2.CX P w o H s E e s'
theorem fn_cxa {P : Program} {w : World} {K : PySem.W.Frag} {mg : Str → Option Value} {base : Heap} {k : Nat} {f : Addr} {fd : FuncData} {ps : List Str} {sp : Sp} (F : FnOk P w K mg base (L2.CX P w) k f fd ps sp) : FnOk P w K mg base (CXA P) k f fd ps sp :=
  ⟨F.len, fun A outer s H args us vs Q E hr e0 hb r q => codeAny_mono (F.run A outer s H args us vs Q E hr e0 hb r q) fun r s' hq => by
    cases r with
    | ok f => cases f <;> exact hq
    | error e => exact ⟨w, hq⟩⟩
theorem cxa_none {P : Program} (H : Hp) (s : Shared) (e : Value) (s' : Shared) (h : CXA P [] H s (fun _ _ _ => False) e s') : False := by
  obtain ⟨w, _, _, _, _, _, _, _, _, _, _, _, _, z⟩ := h
  exact z
end
end Ev
end
section
set_option maxRecDepth 100000
set_option maxHeartbeats 2000000
/-! The rules of the values: comparisons, subscripts, slices, dicts read. -/
namespace Ev
open PySem PySem.Spec PyProof.Rows L2
section
variable {X : Cx} {pins : List (Addr × Obj)} {σ : L2.St} {Hf H : Hp} {s : Shared}
theorem kind_cases {k : D} {kvs : List (D × D)} (h : kindOk k kvs = true) : (K0 k ∧ ∀ p ∈ kvs, K0 p.1) ∨ (K1 k ∧ ∀ p ∈ kvs, K1 p.1) := by
  unfold kindOk at h
  split at h
  · cases h
  · rename_i b e
    cases b with
    | false => exact .inl ⟨e, fun p hp => by have := List.all_eq_true.mp h p hp; simpa [K0] using this⟩
    | true => exact .inr ⟨e, fun p hp => by have := List.all_eq_true.mp h p hp; simpa [K1] using this⟩
/-- what a look tells -/
def RelD (w : World) (K : PySem.W.Frag) (Hf : Hp) (o : Option D) (o' : Option Value) : Prop := match o with
  | some v => ∃ u y, o' = some u ∧ RelV y u ∧ Rep w K Hf v y
  | none => o' = none
theorem RelD.isSome {w : World} {K : PySem.W.Frag} {o : Option D} {o' : Option Value} (h : RelD w K Hf o o') : o'.isSome = o.isSome := by
  cases o with
  | none => rw [show o' = none from h]; rfl
  | some v => obtain ⟨u, y, e, _⟩ := h; rw [e]; rfl
theorem RelD.getD {w : World} {K : PySem.W.Frag} {o : Option D} {o' : Option Value} (h : RelD w K Hf o o') {d : D} {y : V} {u : Value} (r : Rep w K Hf d y) (e : RelV y u) : ∃ z, RelV z (o'.getD u) ∧ Rep w K Hf (o.getD d) z := by
  cases o with
  | none => rw [show o' = none from h]; exact ⟨y, e, r⟩
  | some v => obtain ⟨u', y', e1, e2, e3⟩ := h; rw [e1]; exact ⟨y', e2, e3⟩
inductive Look (X : Cx) (s : Shared) (Hf : Hp) (a : Addr) (u : Value) (o : Option D) : Prop where
  | k (vs : List (Key × Value)) (key : Key) (h1 : s.heap.DictOf (mixKind X.prog X.w) a vs) (h2 : (mixKind X.prog X.w).is key u = true) (h3 : RelD X.w X.K Hf o (valueAt vs key))
  | h (xs : List (NestedKey × Addr × Value)) (key : NestedKey) (b : Addr) (e : u = .ref b) (h1 : s.heap.DictOfH (nestedKind X.prog X.w) a xs) (h2 : (nestedKind X.prog X.w).is s.heap key b) (h3 : RelD X.w X.K Hf o ((atKey xs key).map (·.2)))
theorem look_of (I : Inv X pins σ H s) (sb : Sub Hf H) {a : Addr} {es : List DictEntry} {ep : Nat} {kvs : List (D × D)} {k : D} {y : V} {u : Value} (g : DGood a kvs) (h : H a = some (DO a es.toArray ep)) (r : RepE X.w X.K Hf kvs es) (hk : kindOk k kvs = true) (kr : Rep X.w X.K Hf k y) (ry : RelV y u) : Look X s Hf a u (lookD k kvs) := by
  rcases kind_cases hk with ⟨k0, h0⟩ | ⟨k1, h1⟩
  · obtain ⟨vs, a1, a2⟩ := dict_K I h r h0 g.2
    refine .k vs (toKey k) a2 (key_is k0 kr ry) ?_
    have q := val_K k0 a1 h0
    revert q
    cases lookD k kvs with
    | none => exact fun q => q
    | some v => exact fun q => q
  · obtain ⟨xs, a1, a2⟩ := dict_H I sb h r h1 g.2
    obtain ⟨ds, rfl, hd⟩ := k1.shape
    obtain ⟨b, zs, rfl, q1, q2⟩ : ∃ b zs, y = .ref b ∧ SqT X.K Hf b zs ∧ Reps X.w X.K Hf ds zs := by simpa [Rep] using kr
    cases (show u = Value.ref b from ry)
    refine .h xs (keyN (.tuple ds)) b rfl a2 (key_at I sb k1 kr) ?_
    have q := val_H (k := .tuple ds) a1
    revert q
    cases lookD (.tuple ds) kvs with
    | none => intro q; show Option.map _ _ = none; rw [q]; rfl
    | some v => intro ⟨b, u, y, e1, e2, e3⟩; exact ⟨u, y, by rw [e1]; rfl, e2, e3⟩
theorem Look.typeIs {a : Addr} {u : Value} {o : Option D} (L : Look X s Hf a u o) : s.TypeIs (.ref a) "dict" := by
  cases L with
  | k vs key h1 h2 h3 => exact h1.typeIs
  | h xs key b e h1 h2 h3 => exact h1.typeIs
theorem Look.getItem {a : Addr} {u : Value} {v : D} {A : Around} {E : Value → Shared → Prop} {Q : Value → Shared → Prop} (L : Look X s Hf a u (some v)) (hu : A.units + 9 < cLine) (q : ∀ u' y t, RelV y u' → Rep X.w X.K Hf v y → Q u' { s with toks := t }) : wpAny (model X.prog X.w) A (getItem (.ref a) u) Q E s := by
  cases L with
  | k vs key h1 h2 h3 =>
    obtain ⟨u', y, e1, e2, e3⟩ := h3
    exact wpAny_getItem_of h2 h1.mapOf e1 (q u' y _ e2 e3)
  | h xs key b e h1 h2 h3 =>
    subst e
    obtain ⟨u', y, e1, e2, e3⟩ := h3
    obtain ⟨p, hp, hp2⟩ := Option.map_eq_some_iff.mp e1
    refine wpAny_getItem_heap (knd := nestedKind X.prog X.w) (by show A.units + 1 + 8 < cLine; omega) h2 h1 hp ?_
    rw [hp2]
    exact q u' y _ e2 e3
theorem Look.in_ {a : Addr} {u : Value} {o : Option D} {A : Around} {E : Value → Shared → Prop} {Q : Value → Shared → Prop} (L : Look X s Hf a u o) (hu : A.units + 9 < cLine) (hd : (a == sysModules) = false) (q : ∀ t, Q (.bool o.isSome) { s with toks := t }) : wpAny (model X.prog X.w) A (compareOp .In u (.ref a)) Q E s := by
  cases L with
  | k vs key h1 h2 h3 =>
    refine wpAny_in_of h2 hd h1.mapOf ?_
    rw [h3.isSome]
    exact q _
  | h xs key b e h1 h2 h3 =>
    subst e
    refine wpAny_in_heap (knd := nestedKind X.prog X.w) (by show A.units + 1 + 8 < cLine; omega) h2 hd h1 ?_
    have := h3.isSome
    rw [Option.isSome_map] at this
    rw [this]
    exact q _
theorem Look.notIn {a : Addr} {u : Value} {o : Option D} {A : Around} {E : Value → Shared → Prop} {Q : Value → Shared → Prop} (L : Look X s Hf a u o) (hu : A.units + 9 < cLine) (hd : (a == sysModules) = false) (q : ∀ t, Q (.bool (!o.isSome)) { s with toks := t }) : wpAny (model X.prog X.w) A (compareOp .NotIn u (.ref a)) Q E s := by
  cases L with
  | k vs key h1 h2 h3 =>
    refine wpAny_notIn_of h2 hd h1.mapOf ?_
    rw [h3.isSome]
    exact q _
  | h xs key b e h1 h2 h3 =>
    subst e
    refine wpAny_notIn_heap (knd := nestedKind X.prog X.w) (by show A.units + 1 + 8 < cLine; omega) h2 hd h1 ?_
    have := h3.isSome
    rw [Option.isSome_map] at this
    rw [this]
    exact q _
theorem Look.get1 {a : Addr} {u : Value} {o : Option D} {A : Around} {E : Value → Shared → Prop} {Q : Value → Shared → Prop} (L : Look X s Hf a u o) (hu : A.units + 9 < cLine) (hd : (a == sysModules) = false) (q : ∀ u' y t, RelV y u' → Rep X.w X.K Hf (o.getD .none) y → Q u' { s with toks := t }) : wpAny (model X.prog X.w) A (PySem.call (.builtin "dict.get") [.ref a, u]) Q E s := by
  cases L with
  | k vs key h1 h2 h3 =>
    obtain ⟨z, e1, e2⟩ := h3.getD (d := .none) (y := .non) (u := .none) (by simp [Rep]) rfl
    exact call_meetsIn PySem.F.slot_dict_get h1.typeIs PySem.F.entry_dict_get (PySem.F.args_dict_get_2 _ _) (meets_dict_get (mixKind X.prog X.w) a h2 hd) ⟨_, h1.mapOf, q _ z _ e1 e2⟩
  | h xs key b e h1 h2 h3 =>
    subst e
    obtain ⟨z, e1, e2⟩ := h3.getD (d := .none) (y := .non) (u := .none) (by simp [Rep]) rfl
    exact call_meetsIn PySem.F.slot_dict_get h1.typeIs PySem.F.entry_dict_get (PySem.F.args_dict_get_2 _ _) (meetsH_dict_get (nestedKind X.prog X.w) a b hd) ⟨by show A.units + 1 + 8 < cLine; omega, key, xs, h2, h1, q _ z _ e1 e2⟩
theorem Look.get2 {a : Addr} {u r : Value} {d : D} {x : V} {o : Option D} {A : Around} {E : Value → Shared → Prop} {Q : Value → Shared → Prop} (L : Look X s Hf a u o) (hu : A.units + 9 < cLine) (hd : (a == sysModules) = false) (rd : Rep X.w X.K Hf d x) (rx : RelV x r) (q : ∀ u' y t, RelV y u' → Rep X.w X.K Hf (o.getD d) y → Q u' { s with toks := t }) : wpAny (model X.prog X.w) A (PySem.call (.builtin "dict.get") [.ref a, u, r]) Q E s := by
  cases L with
  | k vs key h1 h2 h3 =>
    obtain ⟨z, e1, e2⟩ := h3.getD rd rx
    exact call_meetsIn PySem.F.slot_dict_get h1.typeIs PySem.F.entry_dict_get (PySem.F.args_dict_get_3 _ _ _) (meets_dict_get_default (mixKind X.prog X.w) a h2 hd r) ⟨_, h1.mapOf, q _ z _ e1 e2⟩
  | h xs key b e h1 h2 h3 =>
    subst e
    obtain ⟨z, e1, e2⟩ := h3.getD rd rx
    exact call_meetsIn PySem.F.slot_dict_get h1.typeIs PySem.F.entry_dict_get (PySem.F.args_dict_get_3 _ _ _) (meetsH_dict_get_default (nestedKind X.prog X.w) a b hd r) ⟨by show A.units + 1 + 8 < cLine; omega, key, xs, h2, h1, q _ z _ e1 e2⟩
end
section
variable {X : Cx}
theorem op_rep {w : World} {K : PySem.W.Frag} {Hf H : Hp} {k : D} {x : V} {kvs : List (D × D)} (hk : kindOk k kvs = true) (h : Opr w K Hf H k x) : Rep w K Hf k x := by
  cases k with
  | list ds => simp [kindOk, keyK] at hk
  | dict ds => simp [kindOk, keyK] at hk
  | _ => exact h
theorem signIn_spec {a : D} {z : Str} {b : Bool} (h : signIn a z = some b) : ∃ q, a = .str ⟨#[q]⟩ ∧ b = decide (q ∈ z.cps.toList) := by
  cases a with
  | str x =>
    simp only [signIn] at h
    split at h
    · rename_i q e
      cases h
      refine ⟨q, ?_, rfl⟩
      obtain ⟨y⟩ := x
      have e2 : y = #[q] := by rw [← Array.toArray_toList (xs := y), e]
      rw [e2]
    · cases h
  | _ => cases h
theorem cmp_rule (hu : X.A.units + 70 < cLine) (o : Cop) : OpR X (compareOp (copOf o)) (rD2 X.w X.K (fun x y => (cmpD o x y).map fun b => .val (.bool b))) := by
  intro pins s σ H x y v u Q I rx ry ⟨Hf, dx, dy, r, sb, ox, oy, e, q⟩
  have bl : ∀ {b : Bool}, r = .val (.bool b) → Q (.bl b) H := fun {b} e => by subst e; exact q.val sb (by simp [Rep])
  have onInts : ∀ {g : Int → Int → Bool} {op : CmpOp} (_ : OpR X (compareOp op) (rI0 fun i j => .bl (g i j))) {i j : Int}, dx = .int i → dy = .int j → r = .val (.bool (g i j)) → wpAny (model X.prog X.w) X.A (compareOp op v u) (EP X pins σ Q) X.xe s := fun {g op} ho {i j} e1 e2 e3 => by
    subst e1 e2
    rw [opInt ox] at rx; rw [opInt oy] at ry
    exact ho pins s σ H _ _ v u Q I rx ry ⟨i, j, rfl, rfl, bl e3⟩
  cases o with
  | eq =>
    simp only [cmpD, eqD] at e
    split at e
    · rename_i hz
      rw [Bool.and_eq_true] at hz
      cases e
      exact op_eqD (by omega) pins s σ H x y v u Q I rx ry ⟨dx, dy, dp_opr sb hz.1 ox, dp_opr sb hz.2 oy, hz.1, hz.2, bl rfl⟩
    · cases e
  | ne =>
    simp only [cmpD, eqD] at e
    split at e
    · rename_i hz
      rw [Bool.and_eq_true] at hz
      cases e
      exact op_neD (by omega) pins s σ H x y v u Q I rx ry ⟨dx, dy, dp_opr sb hz.1 ox, dp_opr sb hz.2 oy, hz.1, hz.2, bl rfl⟩
    · cases e
  | lt =>
    simp only [cmpD] at e
    split at e
    · cases e; exact onInts op_lt rfl rfl rfl
    · cases e
      rw [opStr ox] at rx; rw [opStr oy] at ry
      exact op_lt_str pins s σ H _ _ v u Q I rx ry ⟨_, _, rfl, rfl, bl rfl⟩
    · cases e
  | le =>
    simp only [cmpD] at e
    split at e
    · cases e; exact onInts op_le rfl rfl rfl
    · cases e
  | gt =>
    simp only [cmpD] at e
    split at e
    · cases e; exact onInts op_gt rfl rfl rfl
    · cases e
  | ge =>
    simp only [cmpD] at e
    split at e
    · cases e; exact onInts op_ge rfl rfl rfl
    · cases e
  | isin =>
    simp only [cmpD, cmpD.inD] at e
    split at e
    · rename_i ds
      split at e
      · rename_i hz
        cases e
        rw [Bool.and_eq_true] at hz
        have hd := dp_opr sb hz.1 ox
        have hl := dp_opr sb (d := .list ds) hz.2 oy
        exact op_inD (by omega) pins s σ H x y v u Q I rx ry ⟨dx, ds, hd, hl, hz.1, hz.2, bl rfl⟩
      · cases e
    · rename_i ds
      split at e
      · rename_i hz
        cases e
        rw [Bool.and_eq_true] at hz
        have hd := dp_opr sb hz.1 ox
        have hl := dp_opr sb (d := .tuple ds) hz.2 oy
        obtain ⟨as, r1⟩ := Dp.reads I dx x v hd rx
        obtain ⟨bs, r2⟩ := Dp.reads I (.tuple ds) y u hl ry
        exact SeqAt.in_tuple_reads r2 r1 (SeqAt.canLay_of_shaped hz.2) (SeqAt.canLay_of_shaped hz.1) (room_in_shaped hz.1 (by omega)) ⟨.bl _, H, I, rfl, bl rfl⟩
      · cases e
    · rename_i kvs
      split at e
      · rename_i hk
        cases e
        obtain ⟨a, es, ep, rfl, g, hz, hh, re⟩ := oy
        cases (show u = Value.ref a from ry)
        exact (look_of I sb g hh re hk (op_rep hk ox) rx).in_ (by omega) g.1 fun t => ⟨.bl _, H, I.tok t, rfl, bl rfl⟩
      · cases e
    · rename_i z
      obtain ⟨b, e1, rfl⟩ := Option.map_eq_some_iff.mp e
      obtain ⟨q1, rfl, rfl⟩ := signIn_spec e1
      exact op_in_sign pins s σ H x y v u Q I rx ry ⟨q1, z, opStr ox, opStr oy, bl rfl⟩
    · cases e
  | notin =>
    simp only [cmpD, cmpD.inD] at e
    split at e
    · rename_i ds
      split at e
      · rename_i hz
        cases e
        rw [Bool.and_eq_true] at hz
        have hd := dp_opr sb hz.1 ox
        have hl := dp_opr sb (d := .list ds) hz.2 oy
        exact op_notInD (by omega) pins s σ H x y v u Q I rx ry ⟨dx, ds, hd, hl, hz.1, hz.2, bl rfl⟩
      · cases e
    · rename_i ds
      split at e
      · rename_i hz
        cases e
        rw [Bool.and_eq_true] at hz
        have hd := dp_opr sb hz.1 ox
        have hl := dp_opr sb (d := .tuple ds) hz.2 oy
        obtain ⟨as, r1⟩ := Dp.reads I dx x v hd rx
        obtain ⟨bs, r2⟩ := Dp.reads I (.tuple ds) y u hl ry
        exact SeqAt.notIn_tuple_reads r2 r1 (SeqAt.canLay_of_shaped hz.2) (SeqAt.canLay_of_shaped hz.1) (room_in_shaped hz.1 (by omega)) ⟨.bl _, H, I, rfl, bl rfl⟩
      · cases e
    · rename_i kvs
      split at e
      · rename_i hk
        cases e
        obtain ⟨a, es, ep, rfl, g, hz, hh, re⟩ := oy
        cases (show u = Value.ref a from ry)
        exact (look_of I sb g hh re hk (op_rep hk ox) rx).notIn (by omega) g.1 fun t => ⟨.bl _, H, I.tok t, rfl, bl rfl⟩
      · cases e
    · rename_i z
      obtain ⟨b, e1, rfl⟩ := Option.map_eq_some_iff.mp e
      obtain ⟨b2, e2, rfl⟩ := Option.map_eq_some_iff.mp e1
      obtain ⟨q1, rfl, rfl⟩ := signIn_spec e2
      exact op_notIn_sign pins s σ H x y v u Q I rx ry ⟨q1, z, opStr ox, opStr oy, bl rfl⟩
    · cases e
theorem reps_at {w : World} {K : PySem.W.Frag} {H : Hp} {ds : List D} {xs : List V} {i : Int} {d : D} (r : Reps w K H ds xs) (e : atD ds i = some d) : ∃ v, L2.atI xs i = some v ∧ Rep w K H d v := by
  have hl := r.length
  unfold atD L2.atI at e
  unfold L2.atI
  rw [hl]
  cases h : ixN ds.length i with
  | none => rw [h] at e; cases e
  | some j =>
    rw [h] at e
    exact r.get e
theorem ix_rule (hu : X.A.units + 70 < cLine) : IxR X (rD2 X.w X.K (fun x y => (idxD x y).map .val)) := by
  intro value slice pins s σ H x y v u Q I rx ry ⟨Hf, dx, dy, r, sb, ox, oy, e, q⟩ hs
  obtain ⟨d, e1, rfl⟩ := Option.map_eq_some_iff.mp e
  cases dx with
  | list ds =>
    cases dy with
    | int i =>
      obtain ⟨a, xs, rfl, h1, r1⟩ := opList ox
      obtain ⟨z, h2, r2⟩ := reps_at r1 e1
      rw [opInt oy] at ry
      exact ix_list value slice pins s σ H _ _ v u Q I rx ry ⟨a, xs, i, z, rfl, rfl, h1, h2, q.val sb r2⟩ hs
    | _ => cases e1
  | tuple ds =>
    cases dy with
    | int i =>
      obtain ⟨a, xs, rfl, h1, r1⟩ := opTup ox
      obtain ⟨z, h2, r2⟩ := reps_at r1 e1
      rw [opInt oy] at ry
      exact ix_tup value slice pins s σ H _ _ v u Q I rx ry ⟨a, xs, i, z, rfl, rfl, sub_t sb h1, h2, q.val sb r2⟩ hs
    | _ => cases e1
  | str x =>
    cases dy with
    | int i =>
      simp only [idxD] at e1
      split at e1
      · rename_i hz
        obtain ⟨c, h1, rfl⟩ := Option.map_eq_some_iff.mp e1
        rw [opStr ox] at rx
        rw [opInt oy] at ry
        exact ix_str value slice pins s σ H _ _ v u Q I rx ry ⟨x, i, c, rfl, rfl, hz, h1, q.val sb (by simp [Rep])⟩ hs
      · cases e1
    | _ => cases e1
  | dict kvs =>
    simp only [idxD] at e1
    split at e1
    · rename_i hk
      obtain ⟨a, es, ep, rfl, g, hz, hh, re⟩ := ox
      cases (show v = Value.ref a from rx)
      have L := look_of I sb g hh re hk (op_rep hk oy) ry
      rw [e1] at L
      have key : ∃ u', wpAny (model X.prog X.w) X.A (getItem (.ref a) u) (fun r s' => r = u' ∧ EP X pins σ Q r s') X.xe s := by
        cases L with
        | k vs key h1 h2 h3 =>
          obtain ⟨u', y', f1, f2, f3⟩ := h3
          exact ⟨u', wpAny_getItem_of h2 h1.mapOf f1 ⟨rfl, y', H, I.tok _, f2, q.val sb f3⟩⟩
        | h xs key b e h1 h2 h3 =>
          subst e
          obtain ⟨u', y', f1, f2, f3⟩ := h3
          obtain ⟨p, hp, hp2⟩ := Option.map_eq_some_iff.mp f1
          refine ⟨u', wpAny_getItem_heap (knd := nestedKind X.prog X.w) (by show X.A.units + 1 + 8 < cLine; omega) h2 h1 hp ?_⟩
          rw [hp2]
          exact ⟨rfl, y', H, I.tok _, f2, q.val sb f3⟩
      obtain ⟨u', key⟩ := key
      exact subscriptTail_builtinR (x := u') L.typeIs PySem.F.slot_dict_getitem.lookup key hs
    · cases e1
  | _ => cases e1
theorem cut_reps {w : World} {K : PySem.W.Frag} {H : Hp} {ds : List D} {xs : List V} (lo hi : Option Int) (r : Reps w K H ds xs) : Reps w K H (cutD ds lo hi) (L2.cutV xs lo hi) := by
  unfold cutD L2.cutV
  rw [r.length]
  exact Reps.take _ (Reps.drop _ r)
theorem sl_rule : L2.SlR X (rSlD X.w X.K) := by
  intro pins s σ H x v vl vu lo hi sl Q I rx hs pl pu ⟨Hf, dx, r, sb, ox, e, q⟩
  cases dx with
  | list ds =>
    cases e
    obtain ⟨a, xs, rfl, h1, r1⟩ := opList ox
    exact sl_list pins s σ H _ v vl vu lo hi sl Q I rx hs pl pu ⟨a, xs, rfl, h1, fun p hp => q.newL sb (cut_reps lo hi r1) p hp⟩
  | tuple ds =>
    cases e
    obtain ⟨a, xs, rfl, h1, r1⟩ := opTup ox
    refine sl_tupA pins s σ H _ v vl vu lo hi sl Q I rx hs pl pu ⟨a, xs, rfl, sub_t sb h1, fun hw => ?_, fun _ p hp => q.newT sb (cut_reps lo hi r1) p hp⟩
    refine q.val sb ?_
    have e : cutD ds lo hi = ds := by
      unfold cutD
      rw [← r1.length, hw.1, hw.2]
      simp [r1.length]
    rw [e]
    simp only [Rep]
    exact ⟨a, xs, rfl, h1, r1⟩
  | str z =>
    have e' : (if z.length ≤ sizeLine then some (Sl.val (.str (L2.cutS z lo hi))) else none) = some r := e
    split at e'
    · rename_i hz
      cases e'
      exact sl_str pins s σ H _ v vl vu lo hi sl Q I rx hs pl pu ⟨z, opStr ox, hz, q.val sb (by simp [Rep])⟩
    · cases e'
  | _ => cases e
end
end Ev
end
section
set_option maxRecDepth 100000
set_option maxHeartbeats 2000000
/-! The rules of the values: stores, methods, displays of dicts. -/
namespace Ev
open PySem PySem.Spec PyProof.Rows L2
section
variable {Hf H : Hp}
theorem Step.upd {a : Addr} {o : HO} (h : ∃ u, H a = some u) : Step (fun b => b = a) Hf H Hf (L2.upd H a o) := by
  refine ⟨Sub.refl _, fun b u e m => by rw [upd_ne m]; exact e, fun _ _ _ _ e => e, fun b u e => ?_⟩
  by_cases hb : b = a
  · subst hb; exact ⟨o, upd_same⟩
  · exact ⟨u, by rw [upd_ne hb]; exact e⟩
theorem objOk_DO {P : Program} {w : World} {H' : Hp} {h' : Heap} {a : Addr} {es : Array DictEntry} {ep : Nat} (h : h'.DictRaw a es ep) : ObjOk P w H' h' a (DO a es ep) := by
  refine ⟨h, let ⟨o, ho, _⟩ := h; ⟨o, ho⟩, fun h1 h2 x k => ?_⟩
  exact Heap.DictRaw.at x k
end
section
variable {X : Cx}
theorem set_rule (hu : X.A.units + 70 < cLine) : PSet X (rSetD X.w X.K) := by
  intro pins s σ H o i v ov iv u Q I ro ri rv ⟨Hf, a, d, dk, dv, d', e0, sb, n, oa, rk, rdv, e, q⟩
  subst e0
  cases d with
  | list ds =>
    cases dk with
    | int k =>
      obtain ⟨j, e1, rfl⟩ := Option.map_eq_some_iff.mp e
      obtain ⟨xs, h1, r1⟩ := oa
      have e2 : i = .int k := by simpa [Rep] using rk
      subst e2
      exact set_list pins s σ H _ _ v ov iv u Q I ro ri rv ⟨a, xs, k, j, rfl, rfl, h1, by rw [r1.length]; exact e1, q _ (Sub.mut sb n) (Step.upd ⟨_, h1⟩) ⟨_, upd_same, r1.set j rdv⟩⟩
    | _ => cases e
  | dict kvs =>
    simp only [setD] at e
    split at e
    · rename_i hz
      rw [Bool.and_eq_true, decide_eq_true_eq] at hz
      cases e
      obtain ⟨g, es, ep, hl, h1, re⟩ := oa
      cases (show ov = Value.ref a from ro)
      have hle : (putD dk dv kvs).length ≤ sizeLine := by
        have := putD_length (k := dk) (v := dv) (kvs := kvs)
        have := hz.2
        omega
      have fin : ∀ (es' : Array DictEntry) (ep' : Nat) (h' : Heap) (t : Nat), RepE X.w X.K Hf (putD dk dv kvs) es'.toList → h'.DictRaw a es' ep' → Heap.SameBut a s.heap h' → ∃ H', L2.Inv X pins σ H' { s with heap := h', toks := t } ∧ Q H' := fun es' ep' h' t hr hd hs => by
        obtain ⟨oo, ho, _⟩ := id hd
        refine ⟨L2.upd H a (DO a es' ep'), d_write I (by rw [h1]; exact True.intro) hs ⟨_, ho⟩ (objOk_DO hd), q _ (Sub.mut sb n) (Step.upd ⟨_, h1⟩) ⟨⟨g.1, putD_nodup g.2⟩, es'.toList, ep', by rw [RepE.length hr]; exact hle, ?_, hr⟩⟩
        rw [upd_same, Array.toArray_toList]
      rcases kind_cases hz.1 with ⟨k0, h0⟩ | ⟨k1, h0⟩
      · obtain ⟨vs, a1, a2⟩ := dict_K I h1 re h0 g.2
        refine wpAny_setItem_pairs (hsz := by rw [a1.length]; omega) (key_is k0 rk ri) a2 fun h' dd' hs => ?_
        obtain ⟨oo, es', ep', ho, hx, hdat, hk, hp, _⟩ := dd'
        have a3 := stored_K k0 rv rdv a1 h0 g.2
        have h0' : ∀ p ∈ putD dk dv kvs, K0 p.1 := fun p hp => by
          rcases putD_keys p hp with e | ⟨q', hq, e⟩
          · rw [e]; exact k0
          · rw [← e]; exact h0 q' hq
        exact fin es' ep' h' _ (to_K a3 h0' hp fun e he => hk e (by simpa using he)) ⟨oo, ho, hx, hdat⟩ hs
      · obtain ⟨xs, a1, a2⟩ := dict_H I sb h1 re h0 g.2
        obtain ⟨ds, rfl, hd⟩ := k1.shape
        obtain ⟨b, zs, rfl, q1, q2⟩ : ∃ b zs, i = .ref b ∧ SqT X.K Hf b zs ∧ Reps X.w X.K Hf ds zs := by simpa [Rep] using rk
        cases (show iv = Value.ref b from ri)
        refine wpAny_setItem_heap (knd := nestedKind X.prog X.w) (hsz := by rw [a1.length]; omega) (by show X.A.units + 1 + 8 < cLine; omega) (key_at I sb k1 rk) a2 fun h' dd' hs => ?_
        obtain ⟨oo, es', ep', ho, hx, hdat, he, _, _⟩ := dd'
        refine fin es' ep' h' _ ?_ ⟨oo, ho, hx, hdat⟩ hs
        rw [he]
        exact to_H (stored_H rk rv rdv a1 g.2)
    · cases e
  | _ => cases e
theorem reps_strs {w : World} {K : PySem.W.Frag} {H : Hp} : ∀ {ds : List D} {xs : List V} {ys : List Str}, Reps w K H ds xs → strsD ds = some ys → xs = ys.map V.str
  | [], xs, ys, r, e => by
    simp only [Reps] at r
    cases e
    exact r
  | .str i :: ds, xs, ys, r, e => by
    simp only [Reps] at r
    obtain ⟨v, vs, rfl, r1, r2⟩ := r
    obtain ⟨ms, e1, rfl⟩ := Option.map_eq_some_iff.mp e
    have e2 : v = .str i := by simpa [Rep] using r1
    subst e2
    rw [reps_strs r2 e1]; rfl
  | .none :: _, _, _, _, e => by cases e
  | .bool _ :: _, _, _, _, e => by cases e
  | .int _ :: _, _, _, _, e => by cases e
  | .list _ :: _, _, _, _, e => by cases e
  | .tuple _ :: _, _, _, _, e => by cases e
  | .dict _ :: _, _, _, _, e => by cases e
theorem mth_rule (hu : X.A.units + 70 < cLine) (m : Mth) : MtR X (mthId m) (rDm X.w X.K (mthD m)) := by
  intro pins s σ H x xs v us Q I rx rs ⟨Hf, dx, ds, r, sb, ox, rd, e, q⟩
  cases m with
  | get =>
    cases dx with
    | dict kvs =>
      obtain ⟨a, es, ep, rfl, g, hz, hh, re⟩ := ox
      cases (show v = Value.ref a from rx)
      cases ds with
      | nil => cases e
      | cons k ds =>
        simp only [Reps] at rd
        obtain ⟨y, yr, rfl, r1, r2⟩ := rd
        cases rs with
        | cons e1 er =>
          rename_i u1 ur
          cases ds with
          | nil =>
            simp only [Reps] at r2
            subst r2
            cases er
            simp only [mthD] at e
            split at e
            · rename_i hk
              cases e
              exact (look_of I sb g hh re hk r1 e1).get1 (by omega) g.1 fun u' z t h1 h2 => ⟨z, H, I.tok t, h1, q.val sb h2⟩
            · cases e
          | cons d2 ds =>
            simp only [Reps] at r2
            obtain ⟨y2, yr2, rfl, r3, r4⟩ := r2
            cases er with
            | cons e2 er2 =>
              rename_i u2 ur2
              cases ds with
              | nil =>
                simp only [Reps] at r4
                subst r4
                cases er2
                simp only [mthD] at e
                split at e
                · rename_i hk
                  cases e
                  exact (look_of I sb g hh re hk r1 e1).get2 (by omega) g.1 r3 e2 fun u' z t h1 h2 => ⟨z, H, I.tok t, h1, q.val sb h2⟩
                · cases e
              | cons _ _ => cases e
    | _ => cases e
  | join =>
    cases dx with
    | str a =>
      cases ds with
      | nil => cases e
      | cons d1 ds =>
        cases ds with
        | cons _ _ => cases d1 <;> cases e
        | nil =>
          simp only [Reps] at rd
          obtain ⟨y, yr, rfl, r1, rfl⟩ := rd
          have go : ∀ (zs : List D) (p : Addr) (ws : List V), y = .ref p → (SqL X.K H p ws ∨ SqT X.K H p ws) → Reps X.w X.K Hf zs ws → joinD a zs = some r → wpAny (model X.prog X.w) X.A (PySem.call (.builtin "str.join") (v :: us)) (EP X pins σ Q) X.xe s := fun zs p ws hy hs hr e => by
            obtain ⟨ts, e1, e2⟩ := Option.bind_eq_some_iff.mp e
            split at e2
            · rename_i hz
              cases e2
              have hw := reps_strs hr e1
              subst hw
              exact mt_join pins s σ H x _ v us Q I rx rs ⟨a, p, ts, opStr ox, by rw [hy], hs, hz, q.val sb (by simp [Rep])⟩
            · cases e2
          cases d1 with
          | list zs =>
            simp only [Rep] at r1
            obtain ⟨p, ws, hy, hq, hr⟩ := r1
            exact go zs p ws hy (.inl (sub_l sb hq)) hr e
          | tuple zs =>
            simp only [Rep] at r1
            obtain ⟨p, ws, hy, hq, hr⟩ := r1
            exact go zs p ws hy (.inr (sub_t sb hq)) hr e
          | _ => cases e
    | _ => cases e
  | _ => cases dx <;> cases e
theorem mut_rule (m : Mut) : MtR X (mutId m) (rDu X.w X.K (mutD m)) := by
  intro pins s σ H x xs v us Q I rx rs ⟨Hf, a, d, ds, r, d', e0, sb, n, oa, rd, e, q⟩
  subst e0
  have non : Rep X.w X.K Hf .none .non := by simp [Rep]
  cases m with
  | append =>
    cases d with
    | list es =>
      obtain ⟨ys, h1, r1⟩ := oa
      cases ds with
      | nil => cases e
      | cons d1 ds =>
        cases ds with
        | cons _ _ => cases e
        | nil =>
          simp only [Reps] at rd
          obtain ⟨y, yr, rfl, r2, rfl⟩ := rd
          simp only [mutD] at e
          split at e
          · rename_i hz
            cases e
            exact mt_append pins s σ H _ _ v us Q I rx rs ⟨a, ys, y, rfl, rfl, h1, by rw [r1.length]; exact hz, q .non _ (Sub.mut sb n) (Step.upd ⟨_, h1⟩) non ⟨_, upd_same, r1.append (Reps.one r2)⟩⟩
          · cases e
    | _ => cases e
  | pop =>
    cases d with
    | list es =>
      obtain ⟨ys, h1, r1⟩ := oa
      cases ds with
      | cons _ _ => cases e
      | nil =>
        simp only [Reps] at rd
        subst rd
        obtain ⟨d2, e1, e2⟩ := Option.map_eq_some_iff.mp e
        cases e2
        obtain ⟨y, h2, r2⟩ := r1.get e1
        exact mt_pop pins s σ H _ _ v us Q I rx rs ⟨a, ys, y, rfl, rfl, h1, by rw [r1.length]; exact h2, q y _ (Sub.mut sb n) (Step.upd ⟨_, h1⟩) r2 ⟨_, upd_same, r1.dropLast⟩⟩
    | _ => cases e
  | reverse =>
    cases d with
    | list es =>
      obtain ⟨ys, h1, r1⟩ := oa
      cases ds with
      | cons _ _ => cases e
      | nil =>
        simp only [Reps] at rd
        subst rd
        cases e
        exact mt_reverse pins s σ H _ _ v us Q I rx rs ⟨a, ys, rfl, rfl, h1, q .non _ (Sub.mut sb n) (Step.upd ⟨_, h1⟩) non ⟨_, upd_same, r1.reverse⟩⟩
    | _ => cases e
  | extend => cases d <;> cases e
  | update => cases d <;> cases e
end
end Ev
end
section
set_option maxRecDepth 100000
set_option maxHeartbeats 4000000
/-! The rules of the values: built-in functions and types. -/
namespace Ev
open PySem PySem.Spec PyProof.Rows L2
section
variable {w : World} {K : PySem.W.Frag} {Hf H : Hp} {Q : VK}
theorem oprs0 {xs : List V} (h : Oprs w K Hf H [] xs) : xs = [] := h
theorem oprs1 {d : D} {xs : List V} (h : Oprs w K Hf H [d] xs) : ∃ x, xs = [x] ∧ Opr w K Hf H d x := by
  obtain ⟨v, r, rfl, a, b⟩ := h
  rw [oprs0 b]
  exact ⟨v, rfl, a⟩
theorem oprs2 {d e : D} {xs : List V} (h : Oprs w K Hf H [d, e] xs) : ∃ x y, xs = [x, y] ∧ Opr w K Hf H d x ∧ Opr w K Hf H e y := by
  obtain ⟨v, r, rfl, a, b⟩ := h
  obtain ⟨y, rfl, c⟩ := oprs1 b
  exact ⟨v, y, rfl, a, c⟩
theorem one_some {f : D → Option Sl} {ds : List D} {r : Sl} (e : one f ds = some r) : ∃ d, ds = [d] ∧ f d = some r := by
  cases ds with
  | nil => cases e
  | cons d ds =>
    cases ds with
    | nil => exact ⟨d, rfl, e⟩
    | cons _ _ => cases e
theorem reps_ints : ∀ {ds : List D} {xs : List V} {ns : List Int}, Reps w K H ds xs → intsD ds = some ns → xs = ns.map V.int ∧ ns.length = ds.length
  | [], xs, ns, r, e => by
    simp only [Reps] at r
    cases e
    exact ⟨r, rfl⟩
  | .int i :: ds, xs, ns, r, e => by
    simp only [Reps] at r
    obtain ⟨v, vs, rfl, r1, r2⟩ := r
    obtain ⟨ms, e1, rfl⟩ := Option.map_eq_some_iff.mp e
    have e2 : v = .int i := by simpa [Rep] using r1
    subst e2
    obtain ⟨h1, h2⟩ := reps_ints r2 e1
    exact ⟨by rw [h1]; rfl, by simp [h2]⟩
  | .none :: _, _, _, _, e => by cases e
  | .bool _ :: _, _, _, _, e => by cases e
  | .str _ :: _, _, _, _, e => by cases e
  | .tuple _ :: _, _, _, _, e => by cases e
  | .list _ :: _, _, _, _, e => by cases e
  | .dict _ :: _, _, _, _, e => by cases e
theorem fold_min : ∀ (xs : List Int) (x m : Int), (∀ y, y = x ∨ y ∈ xs → m ≤ y) → (m = x ∨ m ∈ xs) → xs.foldl min x = m
  | [], x, m, h1, h2 => by
    rcases h2 with h2 | h2
    · exact h2.symm
    · cases h2
  | y :: xs, x, m, h1, h2 => by
    rw [List.foldl_cons]
    refine fold_min xs (min x y) m (fun z hz => ?_) ?_
    · rcases hz with hz | hz
      · rw [hz]
        have := h1 x (.inl rfl)
        have := h1 y (.inr List.mem_cons_self)
        omega
      · exact h1 z (.inr (List.mem_cons_of_mem _ hz))
    · have hx := h1 x (.inl rfl)
      have hy := h1 y (.inr List.mem_cons_self)
      rcases h2 with h2 | h2
      · left; omega
      · rcases List.mem_cons.mp h2 with h2 | h2
        · left; omega
        · exact .inr h2
theorem fold_max : ∀ (xs : List Int) (x m : Int), (∀ y, y = x ∨ y ∈ xs → y ≤ m) → (m = x ∨ m ∈ xs) → xs.foldl max x = m
  | [], x, m, h1, h2 => by
    rcases h2 with h2 | h2
    · exact h2.symm
    · cases h2
  | y :: xs, x, m, h1, h2 => by
    rw [List.foldl_cons]
    refine fold_max xs (max x y) m (fun z hz => ?_) ?_
    · rcases hz with hz | hz
      · rw [hz]
        have := h1 x (.inl rfl)
        have := h1 y (.inr List.mem_cons_self)
        omega
      · exact h1 z (.inr (List.mem_cons_of_mem _ hz))
    · have hx := h1 x (.inl rfl)
      have hy := h1 y (.inr List.mem_cons_self)
      rcases h2 with h2 | h2
      · left; omega
      · rcases List.mem_cons.mp h2 with h2 | h2
        · left; omega
        · exact .inr h2
/-- a dict's keys -/
theorem keys_vals : ∀ {kvs : List (D × D)} {es : List DictEntry}, RepE w K Hf kvs es → ∃ xs, Vals xs (es.map (·.key)) ∧ Reps w K Hf (kvs.map (·.1)) xs
  | [], es, h => by
    simp only [RepE] at h
    subst h
    exact ⟨[], .nil, Reps.nil⟩
  | (k, v) :: r, es, h => by
    simp only [RepE] at h
    obtain ⟨e, er, rfl, h1, ⟨x, hx, rx⟩, _, h3⟩ := h
    obtain ⟨xs, a1, a2⟩ := keys_vals h3
    exact ⟨x :: xs, .cons hx a1, Reps.cons rx a2⟩
theorem items_keys {es : List DictEntry} {acc : Array Value} (h : ItemsOf (fun i v => ∃ hi : i < es.toArray.size, v = es.toArray[i].key) acc es.toArray.size) : acc.toList = es.map (·.key) := by
  refine List.ext_getElem? fun i => ?_
  rw [List.getElem?_map]
  have hs : acc.size = es.length := by rw [h.1]; simp
  by_cases hi : i < acc.size
  · have e1 : acc[i]? = some acc[i] := Array.getElem?_eq_getElem hi
    obtain ⟨h2, e2⟩ := h.2 i _ e1
    rw [Array.getElem?_toList, e1, e2]
    have : es[i]? = some es[i] := List.getElem?_eq_getElem (by omega)
    rw [this]
    simp
  · rw [Array.getElem?_toList, Array.getElem?_eq_none (by omega), List.getElem?_eq_none (by omega)]; rfl
end
section
variable {prog : Program} {w : World} {A : Around} {E : Value → Shared → Prop} {s : Shared} {r : Addr} {n : Nat} {P : Nat → Value → Prop} {OK : Heap → Prop}
theorem code_tuple_new_raw {Q₁ : Value → Shared → Prop} (hh : A.handled = none) (S : PySem.W.KdlSrc prog w "dict" r r n P OK) (hok : OK s.heap) (hT : s.TypeIs (.ref r) "dict") (hlen : n ≤ sizeLine)
    (h : ∀ (h' : Heap) (tk : Nat) (acc : Array Value), (∀ b o, s.heap.get? b = some o → h'.get? b = some o) → ItemsOf P acc n → Q₁ (.ref h'.objs.size) { s with heap := h'.push { cls := .type "tuple", data := .seq acc }, toks := tk }) :
    codeAny (model prog w) A (.call (.builtin "tuple.__new__") ⟨[.type "tuple", .ref r], []⟩) (wants Q₁ E) s := by
  refine codeAny_of_tree ?_
  show wpAny _ A.in1 (do checkBuiltinCall "tuple.__new__" ⟨[.type "tuple", .ref r], []⟩; again (.builtin "tuple.__new__" ⟨[.type "tuple", .ref r], []⟩)) _ _ s
  refine wpAny_bind (wpAny_of_eq (PySem.F.newCall_tuple_1 _) (wpAny_pure ⟨plainId_quiet PySem.F.plain_tuple_new _, codeAny_builtin PySem.F.entry_tuple_new ?_⟩))
  rw [Around.under_plainId PySem.F.plain_tuple_new _]
  have hsub := sub_tuple_self
  have hinit := init_tuple_lookup
  have hmh := madeHere_tuple
  have hh1 : A.in1.handled = none := hh
  wp_walk using wpAny_typeOf hT, PySem.W.kdu_collect (A := A.in1) S hh1 hok hlen
  intro h' tk acc hk hacc
  show wpAny _ _ (Builtin.Tuple.tupleExact acc.toList.toArray >>= fun v => ret v) _ _ _
  unfold Builtin.Tuple.tupleExact
  refine wpAny_bind (wpAny_newObj_type ?_ (by show acc.toList.toArray.size ≤ sizeLine; simp only [Array.toArray_toList]; rw [hacc.1]; exact hlen))
  refine wpAny_pure ?_
  have e : acc.toList.toArray = acc := by simp
  rw [e]
  exact h h' tk acc hk hacc
theorem call_tuple_raw {Q : Value → Shared → Prop} (hh : A.handled = none) (S : PySem.W.KdlSrc prog w "dict" r r n P OK) (hok : OK s.heap) (hT : s.TypeIs (.ref r) "dict") (hlen : n ≤ sizeLine)
    (hQ : ∀ (h' : Heap) (tk : Nat) (acc : Array Value), (∀ b o, s.heap.get? b = some o → h'.get? b = some o) → ItemsOf P acc n → Q (.ref h'.objs.size) { s with heap := h'.push { cls := .type "tuple", data := .seq acc }, toks := tk }) :
    wpAny (model prog w) A (PySem.call (.type "tuple") [.ref r]) Q E s := by
  refine callType_codes (Q₁ := fun obj s₁ => s₁.TypeIs obj "tuple" ∧ Q obj s₁) PySem.F.called_tuple (PySem.F.typeCall_tuple_1 _) PySem.F.entry_object_init
    (code_tuple_new_raw (A := A.in1) hh S hok hT hlen fun h' tk acc hk hacc => ⟨⟨_, Heap.get?_push_size _ rfl, rfl⟩, hQ h' tk acc hk hacc⟩) fun obj s₁ h₁ => ?_
  exact ⟨h₁.1, PySem.F.args_object_init_2 obj _, object_init_meets PySem.F.called_tuple.init.lookup PySem.F.called_tuple.made (by decide) prog w A.in1 _ s₁ ⟨h₁.1, rfl, h₁.2⟩⟩
end
section
variable {X : Cx}
theorem blt_len : CallR X (.builtin "len") (rDs X.w X.K (bltD .len)) := by
  intro pins s σ H xs us Q I rs ⟨Hf, ds, r, sb, os, e, q⟩
  obtain ⟨d, rfl, e⟩ := one_some e
  cases d with
  | list zs =>
    cases e
    obtain ⟨x, rfl, ox⟩ := oprs1 os
    obtain ⟨a, ys, rfl, h1, r1⟩ := opList ox
    exact call_len_seq pins s σ H _ us Q I rs ⟨a, ys, rfl, .inl h1, q.val sb (by simp [Rep, r1.length])⟩
  | tuple zs =>
    cases e
    obtain ⟨x, rfl, ox⟩ := oprs1 os
    obtain ⟨a, ys, rfl, h1, r1⟩ := opTup ox
    exact call_len_seq pins s σ H _ us Q I rs ⟨a, ys, rfl, .inr (sub_t sb h1), q.val sb (by simp [Rep, r1.length])⟩
  | str z =>
    have e : (if z.length ≤ sizeLine then some (Sl.val (.int z.length)) else none) = some r := e
    split at e
    · rename_i hz
      cases e
      obtain ⟨x, rfl, ox⟩ := oprs1 os
      rw [opStr ox] at rs
      exact call_len_str pins s σ H _ us Q I rs ⟨z, rfl, hz, q.val sb (by simp [Rep])⟩
    · cases e
  | _ => cases e
theorem blt_sum (hc : X.calm = true) : CallR X (.builtin "sum") (rDs X.w X.K (bltD .sum)) := by
  intro pins s σ H xs us Q I rs ⟨Hf, ds, r, sb, os, e, q⟩
  obtain ⟨d, rfl, e⟩ := one_some e
  cases d with
  | list zs =>
    obtain ⟨ns, e1, rfl⟩ := Option.map_eq_some_iff.mp e
    obtain ⟨x, rfl, ox⟩ := oprs1 os
    obtain ⟨a, ys, rfl, h1, r1⟩ := opList ox
    obtain ⟨rfl, _⟩ := reps_ints r1 e1
    exact cr_sum hc pins s σ H _ us Q I rs ⟨a, ns, rfl, h1, q.val sb (by simp [Rep])⟩
  | _ => cases e
theorem blt_abs : CallR X (.builtin "abs") (rDs X.w X.K (bltD .abs)) := by
  intro pins s σ H xs us Q I rs ⟨Hf, ds, r, sb, os, e, q⟩
  obtain ⟨d, rfl, e⟩ := one_some e
  cases d with
  | int i =>
    cases e
    obtain ⟨x, rfl, ox⟩ := oprs1 os
    rw [opInt ox] at rs
    exact call_abs pins s σ H _ us Q I rs ⟨i, rfl, q.val sb (by simp [Rep])⟩
  | _ => cases e
theorem blt_int : CallR X (.type "int") (rDs X.w X.K (bltD .int)) := by
  intro pins s σ H xs us Q I rs ⟨Hf, ds, r, sb, os, e, q⟩
  obtain ⟨d, rfl, e⟩ := one_some e
  cases d with
  | int i =>
    cases e
    obtain ⟨x, rfl, ox⟩ := oprs1 os
    rw [opInt ox] at rs
    exact call_int1 pins s σ H _ us Q I rs (.inl ⟨i, rfl, q.val sb (by simp [Rep])⟩)
  | bool i =>
    cases e
    obtain ⟨x, rfl, ox⟩ := oprs1 os
    rw [opBool ox] at rs
    exact call_int1 pins s σ H _ us Q I rs (.inr ⟨i, rfl, q.val sb (by simp [Rep])⟩)
  | _ => cases e
theorem blt_str : CallR X (.type "str") (rDs X.w X.K (bltD .str)) := by
  intro pins s σ H xs us Q I rs ⟨Hf, ds, r, sb, os, e, q⟩
  obtain ⟨d, rfl, e⟩ := one_some e
  cases d with
  | int i =>
    have e : (if i.natAbs.log2 < 1920 then some (Sl.val (.str (Str.ofString (toString i)))) else none) = some r := e
    split at e
    · rename_i hz
      cases e
      obtain ⟨x, rfl, ox⟩ := oprs1 os
      rw [opInt ox] at rs
      exact call_str_int pins s σ H _ us Q I rs ⟨i, rfl, hz, q.val sb (by simp only [Rep])⟩
    · cases e
  | _ => cases e
theorem blt_min (hc : X.calm = true) (hl : CallR X (.builtin "min") (rDs X.w X.K (one fun d => match d with | .list xs => leastD true xs | _ => none))) : CallR X (.builtin "min") (rDs X.w X.K (bltD .min)) := by
  intro pins s σ H xs us Q I rs ⟨Hf, ds, r, sb, os, e, q⟩
  have e : minD ds = some r := e
  cases ds with
  | nil => cases e
  | cons d ds =>
  cases ds with
  | nil =>
    have e : minL d = some r := e
    cases d with
    | list zs =>
      have e' : (match intsD zs with
        | some ns => (lastMin ns).map fun n => Sl.val (.int n)
        | none => leastD true zs) = some r := e
      cases e1 : intsD zs with
      | none =>
        rw [e1] at e'
        exact hl pins s σ H xs us Q I rs ⟨Hf, [.list zs], r, sb, os, e', q⟩
      | some ns =>
      rw [e1] at e'
      have e2 : (lastMin ns).map (fun n => Sl.val (.int n)) = some r := e'
      obtain ⟨n, e3, rfl⟩ := Option.map_eq_some_iff.mp e2
      obtain ⟨x, rfl, ox⟩ := oprs1 os
      obtain ⟨a, ys, rfl, h1, r1⟩ := opList ox
      obtain ⟨rfl, _⟩ := reps_ints r1 e1
      cases ns with
      | nil => cases e3
      | cons n0 ns =>
        cases e3
        refine cr_min hc pins s σ H _ us Q I rs ⟨a, n0 :: ns, rfl, h1, Nat.succ_pos _, fun m hm hle => ?_⟩
        rw [fold_min ns n0 m (fun y hy => hle y (by rcases hy with hy | hy <;> simp [hy])) (by simpa using hm)] at q
        exact q.val sb (by simp [Rep])
    | _ => cases e
  | cons d2 ds =>
  cases ds with
  | cons _ _ => cases e
  | nil =>
    have e : min2 d d2 = some r := e
    cases d with
    | int i =>
      cases d2 with
      | int j =>
        cases e
        obtain ⟨x, y, rfl, ox, oy⟩ := oprs2 os
        rw [opInt ox, opInt oy] at rs
        exact call_min2 hc pins s σ H _ us Q I rs ⟨i, j, rfl, q.val sb (by simp [Rep])⟩
      | _ => cases e
    | _ => cases e
theorem blt_max (hc : X.calm = true) (hl : CallR X (.builtin "max") (rDs X.w X.K (one fun d => match d with | .list xs => leastD false xs | _ => none))) : CallR X (.builtin "max") (rDs X.w X.K (bltD .max)) := by
  intro pins s σ H xs us Q I rs ⟨Hf, ds, r, sb, os, e, q⟩
  have e : maxD ds = some r := e
  cases ds with
  | nil => cases e
  | cons d ds =>
  cases ds with
  | nil =>
    have e : maxL d = some r := e
    cases d with
    | list zs =>
      have e' : (match intsD zs with
        | some ns => (lastMax ns).map fun n => Sl.val (.int n)
        | none => leastD false zs) = some r := e
      cases e1 : intsD zs with
      | none =>
        rw [e1] at e'
        exact hl pins s σ H xs us Q I rs ⟨Hf, [.list zs], r, sb, os, e', q⟩
      | some ns =>
      rw [e1] at e'
      have e2 : (lastMax ns).map (fun n => Sl.val (.int n)) = some r := e'
      obtain ⟨n, e3, rfl⟩ := Option.map_eq_some_iff.mp e2
      obtain ⟨x, rfl, ox⟩ := oprs1 os
      obtain ⟨a, ys, rfl, h1, r1⟩ := opList ox
      obtain ⟨rfl, _⟩ := reps_ints r1 e1
      cases ns with
      | nil => cases e3
      | cons n0 ns =>
        cases e3
        refine cr_max hc pins s σ H _ us Q I rs ⟨a, n0 :: ns, rfl, h1, Nat.succ_pos _, fun m hm hle => ?_⟩
        rw [fold_max ns n0 m (fun y hy => hle y (by rcases hy with hy | hy <;> simp [hy])) (by simpa using hm)] at q
        exact q.val sb (by simp [Rep])
    | _ => cases e
  | cons d2 ds =>
  cases ds with
  | cons _ _ => cases e
  | nil =>
    have e : max2 d d2 = some r := e
    cases d with
    | int i =>
      cases d2 with
      | int j =>
        cases e
        obtain ⟨x, y, rfl, ox, oy⟩ := oprs2 os
        rw [opInt ox, opInt oy] at rs
        exact call_max2 hc pins s σ H _ us Q I rs ⟨i, j, rfl, q.val sb (by simp [Rep])⟩
      | _ => cases e
    | _ => cases e
theorem blt_tuple (hc : X.calm = true) : CallR X (.type "tuple") (rDs X.w X.K (bltD .tuple)) := by
  intro pins s σ H xs us Q I rs ⟨Hf, ds, r, sb, os, e, q⟩
  obtain ⟨d, rfl, e⟩ := one_some e
  cases d with
  | list zs =>
    cases e
    obtain ⟨x, rfl, ox⟩ := oprs1 os
    obtain ⟨a, ys, rfl, h1, r1⟩ := opList ox
    exact call_tuple_of pins s σ H _ us Q I rs ⟨a, ys, rfl, .inl ⟨h1, fun l hl => q.newT sb r1 l hl⟩⟩
  | tuple zs =>
    cases e
    obtain ⟨x, rfl, ox⟩ := oprs1 os
    obtain ⟨a, ys, rfl, h1, r1⟩ := opTup ox
    exact call_tuple_of pins s σ H _ us Q I rs ⟨a, ys, rfl, .inr ⟨sub_t sb h1, q.val sb (by simp only [Rep]; exact ⟨a, ys, rfl, h1, r1⟩)⟩⟩
  | dict kvs =>
    cases e
    obtain ⟨x, rfl, ox⟩ := oprs1 os
    obtain ⟨a, es, ep, rfl, g, hz, hh, re⟩ := ox
    rw [Vals.ref1 rs]
    obtain ⟨ys, v1, v2⟩ := keys_vals re
    refine call_tuple_raw (I.ok.hd hc) (PySem.KdlSrc.rawDict (es := es.toArray) (ep := ep) g.1) (do_raw I hh) (do_raw I hh).typeIs (by simpa using hz) fun h' tk acc hk hacc => ?_
    have el := items_keys hacc
    have I1 : L2.Inv X pins σ H { s with heap := h', toks := tk } := I.kept hk
    have e2 : acc = (es.map (·.key)).toArray := by rw [← el]
    refine ⟨.ref h'.objs.size, L2.upd H h'.objs.size (.tup ys), I1.laid (t' := tk) (fun b o e => Heap.get?_push_of_some _ e) (Nat.le_refl _) (show ObjOk X.prog X.w _ _ _ (.tup ys) from ⟨?_, es.map (·.key), v1, ?_⟩), rfl, q.newT sb v2 _ (I1.hok.fresh (Nat.le_refl _))⟩
    · rw [v1.length, List.length_map]; exact hz
    · rw [e2]; exact IsTup.new _ _
  | _ => cases e
theorem blt_list (hc : X.calm = true) : CallR X (.type "list") (rDs X.w X.K (bltD .list)) := by
  intro pins s σ H xs us Q I rs ⟨Hf, ds, r, sb, os, e, q⟩
  obtain ⟨d, rfl, e⟩ := one_some e
  cases d with
  | list zs =>
    cases e
    obtain ⟨x, rfl, ox⟩ := oprs1 os
    obtain ⟨a, ys, rfl, h1, r1⟩ := opList ox
    exact call_list_of pins s σ H _ us Q I rs ⟨a, ys, rfl, .inl h1, fun l hl => q.newL sb r1 l hl⟩
  | tuple zs =>
    cases e
    obtain ⟨x, rfl, ox⟩ := oprs1 os
    obtain ⟨a, ys, rfl, h1, r1⟩ := opTup ox
    exact call_list_of pins s σ H _ us Q I rs ⟨a, ys, rfl, .inr (sub_t sb h1), fun l hl => q.newL sb r1 l hl⟩
  | dict kvs =>
    cases e
    obtain ⟨x, rfl, ox⟩ := oprs1 os
    obtain ⟨a, es, ep, rfl, g, hz, hh, re⟩ := ox
    rw [Vals.ref1 rs]
    obtain ⟨ys, v1, v2⟩ := keys_vals re
    refine PySem.W.kdl_call (PySem.KdlSrc.rawDict (es := es.toArray) (ep := ep) g.1) (I.ok.hd hc) (do_raw I hh) (by simpa using hz) fun h' tk acc c' hk hS hacc => ?_
    have el := items_keys hacc
    refine ⟨.ref s.heap.objs.size, L2.upd H s.heap.objs.size (.lst ys), I.laid hk (Nat.le_refl _) (show ObjOk X.prog X.w _ _ _ (.lst ys) from ⟨?_, es.map (·.key), c', v1, ?_⟩), rfl, q.newL sb v2 _ (I.hok.fresh (Nat.le_refl _))⟩
    · rw [v1.length, List.length_map]; exact hz
    · rw [← el, Array.toArray_toList]; exact hS
  | _ => cases e
end
end Ev
end
section
set_option maxRecDepth 100000
set_option maxHeartbeats 4000000
/-! The rules of the values: sorted; dict of pairs. -/
namespace Ev
section
open PySem PySem.Calls PyProof.Rows PyProof.V PySem.Spec PySem.W
variable {prog : Program} {w : World} {A : Around} {E : Value → Shared → Prop} {s : Shared} {T : String} {r d : Addr} {n : Nat} {P : Nat → Value → Prop} {OK : Heap → Prop} {Q : Value → Shared → Prop}
theorem sorted_raw (K : KdlSrc prog w T r d n P OK) (hh : A.handled = none) (hok : OK s.heap) (hn : n ≤ sizeLine)
    (h : ∀ (h' : Heap) (tk : Nat) (vs : List Value), (∀ b o, s.heap.get? b = some o → h'.get? b = some o) → ItemsOf P vs.toArray n →
      wpAny (model prog w) A.in1 (PySem.call (.builtin "list.sort") [.ref h'.objs.size]) (fun _ s' => Q (.ref h'.objs.size) s') E { s with heap := h'.push { cls := .type "list", data := .seq vs.toArray }, toks := tk }) :
    wpAny (model prog w) A (PySem.call (.builtin "sorted") [.ref r]) Q E s := by
  refine call_function_entry kind_sorted plain_sorted entry_sorted (args_sorted1 _) ?_
  unfold Builtin.«sorted»
  refine wpAny_bind (m := checkCount "sorted" 1 1 _) (wpAny_pure ?_)
  refine wpAny_bind (kdu_collect (A := A.in1) K hh hok hn fun h' tk acc hk hacc => ?_)
  have hl : acc.toList.length = n := by rw [Array.length_toList]; exact hacc.1
  refine wpAny_bind (wpAny_newList ?_ (by rw [hl]; exact hn))
  have hg := h h' tk acc.toList hk (by rw [Array.toArray_toList]; exact hacc)
  refine wpAny_bind (wpAny_holding (wpAny_mono hg (fun _ s' x => ?_) fun _ _ e => e))
  exact wpAny_pure ⟨_, rfl, x⟩
end
section
open PySem PySem.Spec PyProof.Rows L2
variable {w : World} {K : PySem.W.Frag} {Hf H : Hp}
theorem each_of : ∀ {ds : List D} {xs : List V} {us : List Value}, Reps w K Hf ds xs → Vals xs us → PySem.W.EachIs (fun u d => ∃ x, RelV x u ∧ Rep w K Hf d x) us ds
  | [], xs, us, r, v => by
    simp only [Reps] at r
    subst r
    cases v
    exact .nil
  | d :: ds, xs, us, r, v => by
    simp only [Reps] at r
    obtain ⟨x, vs, rfl, r1, r2⟩ := r
    cases v with
    | cons e1 e2 => exact .cons ⟨x, e1, r1⟩ (each_of r2 e2)
theorem of_each : ∀ {ds : List D} {us : List Value}, PySem.W.EachIs (fun u d => ∃ x, RelV x u ∧ Rep w K Hf d x) us ds → ∃ xs, Vals xs us ∧ Reps w K Hf ds xs
  | _, _, .nil => ⟨[], .nil, Reps.nil⟩
  | _, _, .cons ⟨x, h1, h2⟩ t => by
    obtain ⟨xs, a1, a2⟩ := of_each t
    exact ⟨x :: xs, .cons h1 a1, Reps.cons h2 a2⟩
theorem sort_facts {ds : List D} (h : sortOk ds = true) : ds.length ≤ sizeLine ∧ (∀ d ∈ ds, d.depth ≤ 8) ∧ PyData.canLayAll0 ds = true ∧ PySem.W.AllAlike (ds.map fun d => d) ∧ PySem.W.Sortable (ds.map fun d => d) := by
  unfold sortOk at h
  simp only [Bool.and_eq_true, decide_eq_true_eq, Bool.or_eq_true] at h
  obtain ⟨⟨h1, h2⟩, h3⟩ := h
  have h2' : ∀ d ∈ ds, d.depth ≤ 8 ∧ d.canLay0 = true ∧ ∀ e ∈ ds, PySem.W.alike d e = true := fun d hd => by
    have := List.all_eq_true.mp h2 d hd
    simp only [Bool.and_eq_true, decide_eq_true_eq] at this
    exact ⟨this.1.1, this.1.2, fun e he => List.all_eq_true.mp this.2 e he⟩
  have all0 : ∀ l : List D, (∀ d ∈ l, d.canLay0 = true) → PyData.canLayAll0 l = true := by
    intro l
    induction l with
    | nil => intro _; rfl
    | cons d l ih =>
      intro h
      simp only [PyData.canLayAll0, Bool.and_eq_true]
      exact ⟨h d List.mem_cons_self, ih fun e he => h e (List.mem_cons_of_mem _ he)⟩
  have hm : ds.map (fun d => d) = ds := List.map_id' ds
  refine ⟨h1, fun d hd => (h2' d hd).1, all0 ds fun d hd => (h2' d hd).2.1, by rw [hm]; exact fun d hd e he => (h2' d hd).2.2 e he, ?_⟩
  rw [hm]
  rcases h3 with h3 | h3
  · left
    intro d hd
    have := List.all_eq_true.mp h3 d hd
    cases d with
    | tuple xs =>
      cases xs with
      | nil => cases this
      | cons x r => exact ⟨x, r, rfl⟩
    | _ => cases this
  · right
    intro d hd
    have := List.all_eq_true.mp h3 d hd
    cases d with
    | tuple xs => cases this
    | none => cases this
    | _ => exact ⟨fun z => (by cases z), fun xs z => (by cases z)⟩
end
section
open PySem PySem.Spec PyProof.Rows L2
variable {X : Cx}
theorem reads_each {pins : List (Addr × Obj)} {σ : L2.St} {H Hf : Hp} {s : Shared} (I : Inv X pins σ H s) (sb : Sub Hf H) {ds : List D} {xs : List V} {us : List Value} (c : PyData.canLayAll0 ds = true) (r : Reps X.w X.K Hf ds xs) (v : Vals xs us) :
    PySem.W.EachIs (fun u d => ∃ as, Reads s.heap u ((fun d => d) d) as) us ds := by
  obtain ⟨as, h⟩ := Dp.readsAll I ds xs us (dps_of c (r.mono sb)) v
  exact PySem.W.readsAll_each (fun d => d) (by rw [List.map_id']; exact h)
theorem blt_sorted (hc : X.calm = true) (hu : X.A.units + 70 < cLine) : CallR X (.builtin "sorted") (rDs X.w X.K (bltD .sorted)) := by
  intro pins s σ H xs us Q I rs ⟨Hf, ds, r, sb, os, e, q⟩
  obtain ⟨d, rfl, e⟩ := one_some e
  cases d with
  | list zs =>
    have e : (if sortOk zs then some (Sl.own false (.list (sortD zs))) else none) = some r := e
    split at e
    · rename_i hz
      cases e
      obtain ⟨h1, h2, h3, h4, h5⟩ := sort_facts hz
      obtain ⟨x, rfl, ox⟩ := oprs1 os
      obtain ⟨a, ys, rfl, hs, r1⟩ := opList ox
      obtain ⟨its, rv, pl, _⟩ := I.list hs
      rw [Vals.ref1 rs]
      refine PySem.W.sorted_data (enc := fun d => d) pl.isList (each_of r1 rv) (reads_each I sb h3 r1 rv) h4 h5 h1 (fun b hb => by have := h2 b hb; show X.A.units + 2 + b.depth < cLine; omega) fun out ho eo => ?_
      obtain ⟨ys', v1, v2⟩ := of_each eo
      obtain ⟨ep, he'⟩ := PyProof.Rows.sortedAll_at s.heap its out.toArray
      have hlen : ys'.length ≤ sizeLine := by rw [v1.length, ho]; exact h1
      exact ⟨.ref _, L2.upd H (s.heap.objs.size + 1) (.lst ys'), I.laid (t' := s.toks) (fun _ _ => PyProof.Rows.sortedAll_old) (Nat.le_succ _) ⟨hlen, out, ep, v1, he'⟩, rfl, q.newL sb v2 _ (I.hok.fresh (Nat.le_succ _))⟩
    · cases e
  | dict kvs =>
    have e : (if sortOk (kvs.map (·.1)) then some (Sl.own false (.list (sortD (kvs.map (·.1))))) else none) = some r := e
    split at e
    · rename_i hz
      cases e
      obtain ⟨h1, h2, h3, h4, h5⟩ := sort_facts hz
      obtain ⟨x, rfl, ox⟩ := oprs1 os
      obtain ⟨a, es, ep, rfl, g, hl, hh, re⟩ := ox
      rw [Vals.ref1 rs]
      obtain ⟨ys, v1, v2⟩ := keys_vals re
      refine sorted_raw (PySem.KdlSrc.rawDict (es := es.toArray) (ep := ep) g.1) (I.ok.hd hc) (do_raw I hh) (by simpa using hl) fun h' tk vs hk hacc => ?_
      have el : vs = es.map (·.key) := by
        have := items_keys hacc
        simpa using this
      subst el
      have I1 : L2.Inv X pins σ H { s with heap := h', toks := tk } := I.kept hk
      obtain ⟨D, hDe⟩ : ∃ D, D = h'.objs.size := ⟨_, rfl⟩
      obtain ⟨h2', hh2⟩ : ∃ h2 : Heap, h2 = h'.push { cls := .type "list", data := .seq (es.map (·.key)).toArray } := ⟨_, rfl⟩
      have hget : h2'.get? D = some (seqObj "list" (es.map (·.key)).toArray 0) := by rw [hh2, hDe]; exact Heap.get?_push_size _ rfl
      have hk2 : ∀ b o, h'.get? b = some o → h2'.get? b = some o := fun b o e => by rw [hh2]; exact Heap.get?_push_of_some _ e
      have hnew : h'.get? D = none := by
        cases e : h'.get? D with
        | none => rfl
        | some o =>
          exact absurd (Heap.lt_size e) (by rw [hDe]; exact Nat.lt_irrefl _)
      have hfr : H D = none := by rw [hDe]; exact I1.hok.fresh (Nat.le_refl _)
      rw [← hDe, ← hh2]
      have er : PySem.W.EachIs (fun v b => ∃ as, Reads h2' v ((fun d => d) b) as ∧ D ∉ as) (es.map (·.key)) (kvs.map (·.1)) := by
        have e0 := reads_each I sb h3 v2 v1
        refine e0.mono fun u d ⟨as, hr⟩ => ⟨as, PyProof.Rows.Reads.keeps (fun b o e => hk2 b o (hk b o e)) hr, fun hm => ?_⟩
        obtain ⟨o, ho⟩ := PyProof.On.reads_mem_get hr D hm
        have := hk _ _ ho
        rw [hnew] at this; cases this
      refine PySem.W.list_sort_data (enc := fun d => d) (s := { s with heap := h2', toks := tk }) hget (each_of v2 v1) er h4 h5 h1 (fun b hb => by have := h2 b hb; show X.A.units + 1 + 1 + b.depth < cLine; omega) fun out ho eo => ?_
      obtain ⟨ys', w1, w2⟩ := of_each eo
      obtain ⟨ep', he'⟩ := PyProof.Rows.sortedHeap_at (vs := es.map (·.key)) (out := out.toArray) hget
      have hlen : ys'.length ≤ sizeLine := by rw [w1.length, ho]; exact h1
      refine ⟨.ref D, L2.upd H D (.lst ys'), I1.laid (t' := tk) (fun b o e => ?_) (Nat.le_of_eq hDe.symm) ⟨hlen, out, ep', w1, he'⟩, rfl, q.newL sb w2 _ hfr⟩
      have hb : b ≠ D := fun z => by rw [z, hnew] at e; cases e
      rw [PyProof.Rows.sortedHeap_old hb (Heap.lt_size (hk2 _ _ e))]
      exact hk2 _ _ e
    · cases e
  | _ => cases e
theorem vals_get : ∀ {xs : List V} {us : List Value} {i : Nat} {u : Value}, Vals xs us → us[i]? = some u → ∃ x, xs[i]? = some x ∧ RelV x u
  | _, _, _, _, .nil, e => by simp at e
  | _, _, 0, _, .cons r _, e => by
    have e' := e
    simp at e'
    subst e'
    exact ⟨_, rfl, r⟩
  | _, _, i + 1, _, .cons _ r, e => by
    obtain ⟨x, h1, h2⟩ := vals_get (i := i) r (by simpa using e)
    exact ⟨x, by simpa using h1, h2⟩
theorem reps_get' {w : World} {K : PySem.W.Frag} {H : Hp} : ∀ {ds : List D} {xs : List V} {i : Nat} {v : V}, Reps w K H ds xs → xs[i]? = some v → ∃ d, ds[i]? = some d ∧ Rep w K H d v
  | [], _, _, _, h, e => by simp only [Reps] at h; subst h; simp at e
  | d :: ds, _, 0, _, h, e => by
    simp only [Reps] at h
    obtain ⟨v, vs, q, r, _⟩ := h
    subst q
    simp at e
    subst e
    exact ⟨d, rfl, r⟩
  | d :: ds, _, i + 1, _, h, e => by
    simp only [Reps] at h
    obtain ⟨v, vs, q, _, r⟩ := h
    subst q
    obtain ⟨u, h1, h2⟩ := reps_get' (i := i) r (by simpa using e)
    exact ⟨u, by simpa using h1, h2⟩
theorem lay_mem : ∀ {ds : List D}, PyData.canLayAll0 ds = true → ∀ {d : D}, d ∈ ds → d.canLay0 = true
  | [], _, d, h => by cases h
  | x :: r, h, d, hd => by
    simp only [PyData.canLayAll0, Bool.and_eq_true] at h
    rcases List.mem_cons.mp hd with e | hd
    · rw [e]; exact h.1
    · exact lay_mem h.2 hd
theorem depth_all : ∀ {ds : List D}, (∀ d ∈ ds, d.depth ≤ 8) → PyData.depthAll ds ≤ 8
  | [], _ => by simp [PyData.depthAll]
  | d :: ds, h => by
    have h1 := h d List.mem_cons_self
    have h2 := depth_all (ds := ds) fun x hx => h x (List.mem_cons_of_mem _ hx)
    simp only [PyData.depthAll]; omega
theorem alike_sort {ds : List D} (h : sortOk ds = true) : PySem.W.AlikeAll ds := by
  unfold sortOk at h
  simp only [Bool.and_eq_true, decide_eq_true_eq, Bool.or_eq_true] at h
  obtain ⟨⟨_, h2⟩, h3⟩ := h
  refine ⟨fun x hx y hy => ?_, fun x hx e => ?_⟩
  · have := List.all_eq_true.mp h2 x hx
    simp only [Bool.and_eq_true, decide_eq_true_eq] at this
    exact List.all_eq_true.mp this.2 y hy
  · subst e
    rcases h3 with h3 | h3
    · have := List.all_eq_true.mp h3 _ hx
      simp at this
    · have := List.all_eq_true.mp h3 _ hx
      simp at this
theorem blt_min_data (hc : X.calm = true) (hu : X.A.units + 70 < cLine) : CallR X (.builtin "min") (rDs X.w X.K (one fun d => match d with | .list xs => leastD true xs | _ => none)) := by
  intro pins s σ H xs us Q I rs ⟨Hf, ds, r, sb, os, e, q⟩
  obtain ⟨d, rfl, e⟩ := one_some e
  cases d with
  | list zs =>
    have e : leastD true zs = some r := e
    unfold leastD at e
    split at e
    · rename_i hz
      cases zs with
      | nil => cases e
      | cons y ys =>
        cases e
        obtain ⟨h1, h2, h3, h4, h5⟩ := sort_facts hz
        obtain ⟨x, rfl, ox⟩ := oprs1 os
        obtain ⟨a, vs, rfl, hs, r1⟩ := opList ox
        obtain ⟨its, rv, pl, _⟩ := I.list hs
        rw [Vals.ref1 rs]
        obtain ⟨as, hr⟩ := Dp.readsAll I (y :: ys) vs its (dps_of h3 (r1.mono sb)) rv
        refine PySem.W.min_list_data (I.ok.hd hc) pl.isList (vs := its.toArray) (by simpa using hr) (alike_sort hz) (by have := depth_all h2; omega) fun i v h' tk bs hv hrd hk => ?_
        have hv' : its[i]? = some v := by simpa using hv
        obtain ⟨z, hz', rz⟩ := vals_get rv hv'
        obtain ⟨di, hd, rd⟩ := reps_get' r1 hz'
        have I' : L2.Inv X pins σ H { s with heap := h', toks := tk } := I.kept hk
        have cl := lay_mem h3 (List.mem_of_getElem? hd)
        obtain ⟨bs', rb⟩ := Dp.reads I' di z v (dp_of cl (rd.mono sb)) rz
        have eq := SeqAt.Reads.unique _ _ _ _ _ cl rb hrd
        exact ⟨z, H, I', rz, q.val sb (by rw [← eq]; exact rd)⟩
    · cases e
  | _ => cases e
theorem blt_max_data (hc : X.calm = true) (hu : X.A.units + 70 < cLine) : CallR X (.builtin "max") (rDs X.w X.K (one fun d => match d with | .list xs => leastD false xs | _ => none)) := by
  intro pins s σ H xs us Q I rs ⟨Hf, ds, r, sb, os, e, q⟩
  obtain ⟨d, rfl, e⟩ := one_some e
  cases d with
  | list zs =>
    have e : leastD false zs = some r := e
    unfold leastD at e
    split at e
    · rename_i hz
      cases zs with
      | nil => cases e
      | cons y ys =>
        cases e
        obtain ⟨h1, h2, h3, h4, h5⟩ := sort_facts hz
        obtain ⟨x, rfl, ox⟩ := oprs1 os
        obtain ⟨a, vs, rfl, hs, r1⟩ := opList ox
        obtain ⟨its, rv, pl, _⟩ := I.list hs
        rw [Vals.ref1 rs]
        obtain ⟨as, hr⟩ := Dp.readsAll I (y :: ys) vs its (dps_of h3 (r1.mono sb)) rv
        refine PySem.W.max_list_data (I.ok.hd hc) pl.isList (vs := its.toArray) (by simpa using hr) (alike_sort hz) (by have := depth_all h2; omega) fun i v h' tk bs hv hrd hk => ?_
        have hv' : its[i]? = some v := by simpa using hv
        obtain ⟨z, hz', rz⟩ := vals_get rv hv'
        obtain ⟨di, hd, rd⟩ := reps_get' r1 hz'
        have I' : L2.Inv X pins σ H { s with heap := h', toks := tk } := I.kept hk
        have cl := lay_mem h3 (List.mem_of_getElem? hd)
        obtain ⟨bs', rb⟩ := Dp.reads I' di z v (dp_of cl (rd.mono sb)) rz
        have eq := SeqAt.Reads.unique _ _ _ _ _ cl rb hrd
        exact ⟨z, H, I', rz, q.val sb (by rw [← eq]; exact rd)⟩
    · cases e
  | _ => cases e
theorem mxd_rule (hc : X.calm = true) (hu : X.A.units + 70 < cLine) (least : Bool) : MxdR X least := by
  intro i pins s σ H x v kt Q I rx ⟨Hf, d, r, sb, ox, e, q⟩
  cases d with
  | list zs =>
    obtain ⟨a, vs, rfl, hs, r1⟩ := opList ox
    obtain ⟨its, rv, pl, _⟩ := I.list hs
    cases rx
    cases zs with
    | nil =>
      cases e
      have ev0 : vs = [] := by simpa [Reps] using r1
      subst ev0
      have ei : its = [] := by
        cases rv; rfl
      subst ei
      have al : PySem.W.AlikeAll [] := ⟨(fun x hx y hy => by cases hx), (fun x hx => by cases hx)⟩
      obtain ⟨as, hr⟩ := Dp.readsAll I [] [] [] (dps_of (w := X.w) rfl r1) rv
      cases least with
      | false =>
        refine PySem.W.max_list_default (I.ok.hd hc) pl.isList (vs := #[]) (xs := []) hr al (by simp [PyData.depthAll]; omega) (fun _ h' tk hk => ?_) (fun y ys j v h' tk bs z => by cases z)
        exact ⟨.int i, H, I.kept hk, ⟨kt, rfl⟩, q.val sb (by simp [Rep])⟩
      | true =>
        refine PySem.W.min_list_default (I.ok.hd hc) pl.isList (vs := #[]) (xs := []) hr al (by simp [PyData.depthAll]; omega) (fun _ h' tk hk => ?_) (fun y ys j v h' tk bs z => by cases z)
        exact ⟨.int i, H, I.kept hk, ⟨kt, rfl⟩, q.val sb (by simp [Rep])⟩
    | cons y ys =>
      have e : leastD least (y :: ys) = some r := e
      unfold leastD at e
      split at e
      · rename_i hz
        obtain ⟨h1, h2, h3, h4, h5⟩ := sort_facts hz
        obtain ⟨as, hr⟩ := Dp.readsAll I (y :: ys) vs its (dps_of h3 (r1.mono sb)) rv
        have fin : ∀ (md : D) (j : Nat) (v : Value) (h' : Heap) (tk : Nat) (bs : List Addr), Sl.val md = r → its.toArray[j]? = some v → Reads h' v md bs → (∀ b o, s.heap.get? b = some o → h'.get? b = some o) → EP X pins σ Q v { s with heap := h', toks := tk } := fun md j v h' tk bs er hv hrd hk => by
          subst er
          have hv' : its[j]? = some v := by simpa using hv
          obtain ⟨z, hz', rz⟩ := vals_get rv hv'
          obtain ⟨di, hd, rd⟩ := reps_get' r1 hz'
          have I' : L2.Inv X pins σ H { s with heap := h', toks := tk } := I.kept hk
          have cl := lay_mem h3 (List.mem_of_getElem? hd)
          obtain ⟨bs', rb⟩ := Dp.reads I' di z v (dp_of cl (rd.mono sb)) rz
          have eq := SeqAt.Reads.unique _ _ _ _ _ cl rb hrd
          exact ⟨z, H, I', rz, q.val sb (by rw [← eq]; exact rd)⟩
        cases least with
        | false =>
          cases e
          refine PySem.W.max_list_default (I.ok.hd hc) pl.isList (vs := its.toArray) (by simpa using hr) (alike_sort hz) (by have := depth_all h2; omega) (fun z => by cases z) fun y' ys' j v h' tk bs ey hv hrd hk => ?_
          cases ey
          exact fin _ j v h' tk bs rfl hv hrd hk
        | true =>
          cases e
          refine PySem.W.min_list_default (I.ok.hd hc) pl.isList (vs := its.toArray) (by simpa using hr) (alike_sort hz) (by have := depth_all h2; omega) (fun z => by cases z) fun y' ys' j v h' tk bs ey hv hrd hk => ?_
          cases ey
          exact fin _ j v h' tk bs rfl hv hrd hk
      · cases e
  | _ => cases e
end
end Ev
end
section
set_option maxRecDepth 100000
set_option maxHeartbeats 4000000
/-! The rules of the values: dict of pairs; {}; all of them. -/
namespace Ev
open PySem PySem.Spec PyProof.Rows L2
section
variable {w : World} {K : PySem.W.Frag} {Hf H : Hp}
/-- pairs as tuples in the heap -/
def PsR (w : World) (K : PySem.W.Frag) (h : Heap) (Hf : Hp) : List (D × D) → List (Addr × Value × Value) → Prop
  | [], L => L = []
  | (k, v) :: r, L => ∃ b ku vu Lr x y, L = (b, ku, vu) :: Lr ∧ h.IsTuple b #[ku, vu] ∧ RelV x ku ∧ Rep w K Hf k x ∧ RelV y vu ∧ Rep w K Hf v y ∧ PsR w K h Hf r Lr
theorem PsR.length {h : Heap} : ∀ {ps : List (D × D)} {L : List (Addr × Value × Value)}, PsR w K h Hf ps L → L.length = ps.length
  | [], _, e => by
    have e' : _ = [] := e
    rw [e']; rfl
  | (k, v) :: r, _, ⟨b, ku, vu, Lr, x, y, e, _, _, _, _, _, q⟩ => by rw [e]; simp [q.length]
theorem PsR.get {h : Heap} : ∀ {ps : List (D × D)} {L : List (Addr × Value × Value)}, PsR w K h Hf ps L → ∀ p ∈ L, h.IsTuple p.1 #[p.2.1, p.2.2]
  | [], _, e, p, hp => by
    have e' : _ = [] := e
    rw [e'] at hp; cases hp
  | (k, v) :: r, _, ⟨b, ku, vu, Lr, x, y, e, t, _, _, _, _, q⟩, p, hp => by
    rw [e] at hp
    rcases List.mem_cons.mp hp with e2 | hp
    · rw [e2]; exact t
    · exact q.get p hp
end
section
variable {X : Cx} {pins : List (Addr × Obj)} {σ : L2.St} {H Hf : Hp} {s : Shared}
theorem pairs_vals (I : Inv X pins σ H s) (sb : Sub Hf H) : ∀ {xs : List D} {ps : List (D × D)} {vs : List V} {us : List Value}, pairsD xs = some ps → Reps X.w X.K Hf xs vs → Vals vs us → ∃ L, PsR X.w X.K s.heap Hf ps L ∧ us = L.map fun p => .ref p.1
  | [], ps, vs, us, e, r, v => by
    cases e
    simp only [Reps] at r
    subst r
    cases v
    exact ⟨[], rfl, rfl⟩
  | x :: xs, ps, vs, us, e, r, v => by
    obtain ⟨a, b, rfl, pr, e1, rfl⟩ : ∃ a b, x = .tuple [a, b] ∧ ∃ pr, pairsD xs = some pr ∧ ps = (a, b) :: pr := by
      cases x with
      | tuple zs =>
        cases zs with
        | nil => cases e
        | cons a zs =>
          cases zs with
          | nil => cases e
          | cons b zs =>
            cases zs with
            | cons _ _ => cases e
            | nil =>
              obtain ⟨pr, e1, e2⟩ := Option.map_eq_some_iff.mp e
              exact ⟨a, b, rfl, pr, e1, e2.symm⟩
      | _ => cases e
    simp only [Reps] at r
    obtain ⟨v0, vr, rfl, r1, r2⟩ := r
    simp only [Rep, Reps] at r1
    obtain ⟨t, ys, rfl, q1, y1, yr1, rfl, k1, y2, yr2, rfl, k2, rfl⟩ := r1
    cases v with
    | cons f1 f2 =>
      rename_i u0 ur
      cases (show u0 = Value.ref t from f1)
      obtain ⟨L, g1, g2⟩ := pairs_vals I sb e1 r2 f2
      obtain ⟨its, rv, ht, _⟩ := I.tuple (sub_t sb q1)
      cases rv with
      | cons m1 m2 =>
        cases m2 with
        | cons m3 m4 =>
          cases m4
          exact ⟨(t, _, _) :: L, ⟨t, _, _, L, y1, y2, rfl, ht, m1, k1, m3, k2, g1⟩, by rw [g2]; rfl⟩
theorem kinds_of {ps : List (D × D)} (h : allKind ps = true) : (∀ p ∈ ps, K0 p.1) ∨ (∀ p ∈ ps, K1 p.1) := by
  cases ps with
  | nil => exact .inl fun p hp => by cases hp
  | cons p r =>
    obtain ⟨k, v⟩ := p
    simp only [allKind, Bool.and_eq_true] at h
    rcases kind_cases h.1 with ⟨_, q⟩ | ⟨_, q⟩
    · exact .inl q
    · exact .inr q
theorem putAll_nodup : ∀ {ps acc : List (D × D)}, (acc.map fun p => keyN p.1).Nodup → ((putAll acc ps).map fun p => keyN p.1).Nodup
  | [], _, h => h
  | (k, v) :: r, _, h => putAll_nodup (ps := r) (putD_nodup h)
theorem putAll_length : ∀ {ps acc : List (D × D)}, (putAll acc ps).length ≤ acc.length + ps.length
  | [], acc => by simp [putAll]
  | (k, v) :: r, acc => by
    have h1 := putAll_length (ps := r) (acc := putD k v acc)
    have h2 := putD_length (k := k) (v := v) (kvs := acc)
    simp only [putAll, List.length_cons]
    omega
theorem merged_K {h : Heap} : ∀ {ps : List (D × D)} {L : List (Addr × Value × Value)} {acc : List (D × D)} {vs : List (Key × Value)}, PsR X.w X.K h Hf ps L → (∀ p ∈ ps, K0 p.1) → VsK (w := X.w) (K := X.K) Hf acc vs → (∀ p ∈ acc, K0 p.1) → (acc.map fun p => keyN p.1).Nodup →
    ∃ ms : List (Key × Value), ms.length = L.length ∧ (∀ (i : Nat) (p : Addr × Value × Value), L[i]? = some p → ∃ k, ms[i]? = some (k, p.2.2) ∧ (mixKind X.prog X.w).is k p.2.1 = true) ∧ VsK (w := X.w) (K := X.K) Hf (putAll acc ps) (merged vs ms) ∧ ∀ p ∈ putAll acc ps, K0 p.1
  | [], L, acc, vs, e, _, hv, h0, _ => by
    have e' : L = [] := e
    subst e'
    exact ⟨[], rfl, fun i p h => by simp at h, hv, h0⟩
  | (k, v) :: r, L, acc, vs, ⟨b, ku, vu, Lr, x, y, e, t, rx, k1, ry, k2, q⟩, hp, hv, h0, nd => by
    subst e
    have kk : K0 k := hp _ List.mem_cons_self
    have h0' : ∀ p ∈ putD k v acc, K0 p.1 := fun p hq => by
      rcases putD_keys p hq with e | ⟨q', hq', e⟩
      · rw [e]; exact kk
      · rw [← e]; exact h0 q' hq'
    obtain ⟨ms, a1, a2, a3, a4⟩ := merged_K q (fun p hq => hp p (List.mem_cons_of_mem _ hq)) (stored_K kk ry k2 hv h0 nd) h0' (putD_nodup nd)
    refine ⟨(toKey k, vu) :: ms, by simp [a1], fun i p h => ?_, a3, a4⟩
    cases i with
    | zero =>
      have e : (b, ku, vu) = p := by simpa using h
      subst e
      exact ⟨toKey k, rfl, key_is kk k1 rx⟩
    | succ i => exact a2 i p (by simpa using h)
theorem merged_H (I : Inv X pins σ H s) (sb : Sub Hf H) {h : Heap} : ∀ {ps : List (D × D)} {L : List (Addr × Value × Value)} {acc : List (D × D)} {xs : List (NestedKey × Addr × Value)}, PsR X.w X.K h Hf ps L → (∀ p ∈ ps, K1 p.1) → XsH (w := X.w) (K := X.K) Hf acc xs → (acc.map fun p => keyN p.1).Nodup →
    ∃ ms : List (NestedKey × Addr × Value), ms.length = L.length ∧ (∀ (i : Nat) (p : Addr × Value × Value), L[i]? = some p → ∃ k b, ms[i]? = some (k, b, p.2.2) ∧ p.2.1 = .ref b) ∧ XsH (w := X.w) (K := X.K) Hf (putAll acc ps) (storedAllH xs ms) ∧ ∀ x ∈ ms, (nestedKind X.prog X.w).is s.heap x.1 x.2.1
  | [], L, acc, xs, e, _, hv, _ => by
    have e' : L = [] := e
    subst e'
    exact ⟨[], rfl, fun i p h => by simp at h, hv, fun x hx => by cases hx⟩
  | (k, v) :: r, L, acc, xs, ⟨b, ku, vu, Lr, x, y, e, t, rx, k1, ry, k2, q⟩, hp, hv, nd => by
    subst e
    have kk : K1 k := hp _ List.mem_cons_self
    obtain ⟨ds, rfl, hd⟩ := kk.shape
    obtain ⟨c, zs, rfl, q1, q2⟩ : ∃ c zs, x = .ref c ∧ SqT X.K Hf c zs ∧ Reps X.w X.K Hf ds zs := by simpa [Rep] using k1
    cases (show ku = Value.ref c from rx)
    obtain ⟨ms, a1, a2, a3, a4⟩ := merged_H I sb q (fun p hq => hp p (List.mem_cons_of_mem _ hq)) (stored_H k1 ry k2 hv nd) (putD_nodup nd)
    refine ⟨(keyN (.tuple ds), c, vu) :: ms, by simp [a1], fun i p h => ?_, a3, fun z hz => ?_⟩
    · cases i with
      | zero =>
        have e : (b, Value.ref c, vu) = p := by simpa using h
        subst e
        exact ⟨_, c, rfl, rfl⟩
      | succ i => exact a2 i p (by simpa using h)
    · rcases List.mem_cons.mp hz with e | hz
      · rw [e]; exact key_at I sb kk k1
      · exact a4 z hz
/-- a new dict -/
theorem Ends1.newD {w : World} {K : PySem.W.Frag} {Q : VK} {kvs : List (D × D)} {es : List DictEntry} {ep : Nat} (q : Ends1 w K Hf H (.own false (.dict kvs)) Q) (sb : Sub Hf H) (p : Addr) (hp : H p = none) (g : DGood p kvs) (hl : es.length ≤ sizeLine) (r : RepE w K Hf kvs es) : Q (.ref p) (upd H p (DO p es.toArray ep)) :=
  q (.ref p) Hf _ (Sub.mut sb (sb.none hp)) (Step.new hp) ⟨p, rfl, sb.none hp, hp, g, es, ep, hl, upd_same, r⟩
theorem blt_dict (hc : X.calm = true) (hu : X.A.units + 70 < cLine) : CallR X (.type "dict") (rDs X.w X.K (bltD .dict)) := by
  intro pins s σ H xs us Q I rs ⟨Hf, ds, r, sb, os, e, q⟩
  obtain ⟨d, rfl, e⟩ := one_some e
  cases d with
  | list zs =>
    obtain ⟨ps, e1, e2⟩ := Option.bind_eq_some_iff.mp e
    split at e2
    · rename_i hz
      rw [Bool.and_eq_true, decide_eq_true_eq] at hz
      cases e2
      obtain ⟨x, rfl, ox⟩ := oprs1 os
      obtain ⟨a, ys, rfl, hs, r1⟩ := opList ox
      obtain ⟨its, rv, pl, _⟩ := I.list hs
      rw [Vals.ref1 rs]
      obtain ⟨L, p1, p2⟩ := pairs_vals I sb e1 r1 rv
      have hL := p1.length
      have hn := I.hok.fresh (Nat.le_refl s.heap.objs.size)
      have big : (s.heap.objs.size == sysModules) = false := beq_eq_false_iff_ne.mpr (Ne.symm (Nat.ne_of_lt I.big))
      have hlen : (putAll [] ps).length ≤ sizeLine := by
        have := putAll_length (ps := ps) (acc := [])
        have := hz.2
        simp only [List.length_nil] at *
        omega
      have nd : ((putAll [] ps).map fun p => keyN p.1).Nodup := putAll_nodup List.nodup_nil
      have P := PairArg.list (prog := X.prog) (w := X.w) a its.toArray (fun j => ((L[j]?).map (·.1)).getD 0) (L.map (·.2))
      have ok : PlainSeq "list" s.heap a its.toArray ∧ PairItems s.heap its.toArray (fun j => ((L[j]?).map (·.1)).getD 0) (L.map (·.2)) := by
        refine ⟨pl, by rw [p2]; simp, fun j k v h => ?_⟩
        rw [List.getElem?_map] at h
        obtain ⟨p, h1, h2⟩ := Option.map_eq_some_iff.mp h
        have t := p1.get p (List.mem_of_getElem? h1)
        rw [h2] at t
        refine ⟨?_, ?_⟩
        · rw [p2, List.getElem?_toArray, List.getElem?_map, h1]
          show _ = some (Value.ref (((L[j]?).map (·.1)).getD 0))
          rw [h1]
          rfl
        · left
          show s.heap.IsTuple (((L[j]?).map (·.1)).getD 0) #[k, v]
          rw [h1]
          exact t
      have fin : ∀ (h' : Heap) (tk : Nat) (es' : Array DictEntry) (ep' : Nat), (∀ b o, b ∉ ([] : List Addr) → s.heap.get? b = some o → h'.get? b = some o) → h'.DictRaw s.heap.objs.size es' ep' → RepE X.w X.K Hf (putAll [] ps) es'.toList → EP X pins σ Q (.ref s.heap.objs.size) { s with heap := h', toks := tk } := fun h' tk es' ep' hk hd hr => by
        have hle : es'.toList.length ≤ sizeLine := by rw [RepE.length hr]; exact hlen
        have q2 := q.newD (ep := ep') sb s.heap.objs.size hn ⟨big, nd⟩ hle hr
        rw [Array.toArray_toList] at q2
        exact ⟨.ref s.heap.objs.size, _, I.laid (t' := tk) (fun b o e => hk b o (by simp) e) (Nat.le_refl _) (objOk_DO hd), rfl, q2⟩
      rcases kinds_of hz.1 with h0 | h1
      · obtain ⟨ms, a1, a2, a3, a4⟩ := merged_K (X := X) (acc := []) (vs := []) p1 h0 rfl (fun p hp => by cases hp) List.nodup_nil
        refine PySem.call_dict_pairs (knd := mixKind X.prog X.w) P (I.ok.hd hc) ok ⟨by rw [a1]; simp, fun i key v h => ?_⟩ (by simp [hL]; exact hz.2) fun h' tk hd hk => ?_
        · have h' : (L.map (·.2))[i]? = some (key, v) := h
          rw [List.getElem?_map] at h'
          obtain ⟨p, g1, g2⟩ := Option.map_eq_some_iff.mp h'
          obtain ⟨k, g3, g4⟩ := a2 i p g1
          rw [g2] at g3 g4
          exact ⟨k, g3, g4⟩
        · obtain ⟨oo, es', ep', ho, hx, hdat, hk', hp', _⟩ := hd
          exact fin h' tk es' ep' hk ⟨oo, ho, hx, hdat⟩ (to_K a3 a4 hp' fun e he => hk' e (by simpa using he))
      · obtain ⟨ms, a1, a2, a3, a4⟩ := merged_H (X := X) I sb (acc := []) (xs := []) p1 h1 rfl List.nodup_nil
        refine PySem.call_dict_pairsH (knd := nestedKind X.prog X.w) P (I.ok.hd hc) (by show X.A.units + 1 + 1 + 8 < cLine; omega) ok ⟨by rw [a1]; simp, fun i key v h => ?_⟩ (fun h' hk x hx => ?_) (by simp [hL]; exact hz.2) fun h' tk hd hk => ?_
        · have h' : (L.map (·.2))[i]? = some (key, v) := h
          rw [List.getElem?_map] at h'
          obtain ⟨p, g1, g2⟩ := Option.map_eq_some_iff.mp h'
          obtain ⟨k, b, g3, g4⟩ := a2 i p g1
          rw [g2] at g3 g4
          exact ⟨k, b, g3, g4⟩
        · exact nestedKind_stays.stays (fun b o vs n e _ => hk b o (Nat.ne_of_lt (Heap.lt_size e)) (by simp) e) (a4 x hx)
        · obtain ⟨oo, es', ep', ho, hx, hdat, he, _, _⟩ := hd
          exact fin h' tk es' ep' hk ⟨oo, ho, hx, hdat⟩ (by rw [he]; exact to_H a3)
    · cases e2
  | _ => cases e
theorem dct_rule (W : XW) (fl : Flags) (c : CallF) (ds : Ds) (ks : List (Option Expr)) (vs : List Expr) (pos : Pos) (hl : ks.length = vs.length) (h0 : ks = [] ↔ ds = .nil) : PE X (.Dict ks vs pos) (sE X W (ev fl c (.dct ds))) := by
  cases ds with
  | cons k v ds => exact ⟨fun pins s σ H Q I ⟨Hf, ρ, S, g⟩ => by
      unfold ev at g
      exact g.elim⟩
  | nil =>
    have e := h0.mpr rfl
    subst e
    have e2 : vs = [] := by
      cases vs with
      | nil => rfl
      | cons _ _ => cases hl
    subst e2
    refine ⟨fun pins s σ H Q I ⟨Hf, ρ, S, g⟩ => ?_⟩
    unfold ev at g
    have hn := I.hok.fresh (Nat.le_refl s.heap.objs.size)
    have big : (s.heap.objs.size == sysModules) = false := beq_eq_false_iff_ne.mpr (Ne.symm (Nat.ne_of_lt I.big))
    have hd : (s.heap.push { cls := .type "dict", data := .dict #[] }).DictRaw s.heap.objs.size #[] 0 := ⟨_, Heap.get?_push_size _ rfl, ⟨rfl, rfl, rfl⟩, rfl⟩
    have q := end1 (Post.refl S) g
    exact wpAny_Dict_empty ⟨.ref s.heap.objs.size, _, I.laid (a := s.heap.objs.size) (o := DO s.heap.objs.size #[] 0) (t' := s.toks) (fun _ _ q => Heap.get?_push_of_some _ q) (Nat.le_refl _) (objOk_DO hd), rfl, q.newD (es := []) (ep := 0) S.sub s.heap.objs.size hn ⟨big, List.nodup_nil⟩ (Nat.zero_le _) (by simp [RepE])⟩
/-- ALL RULES -/
theorem rules_all (k : Nat) (Y : Cx) (hc : Y.calm = true) (hr : Room k Y.A) : Rules Y := by
  have hu : Y.A.units + 70 < cLine := by have := hr.un; omega
  refine ⟨bin_rule hc, cmp_rule hu, ix_rule hu, sl_rule, fun b => ?_, mth_rule hu, mut_rule, set_rule hu, mxd_rule hc hu, fun W fl c ds ks vs pos _ hl h0 _ => dct_rule W fl c ds ks vs pos hl h0⟩
  cases b with
  | len => exact blt_len
  | sum => exact blt_sum hc
  | sorted => exact blt_sorted hc hu
  | min => exact blt_min hc (blt_min_data hc hu)
  | max => exact blt_max hc (blt_max_data hc hu)
  | abs => exact blt_abs
  | int => exact blt_int
  | str => exact blt_str
  | tuple => exact blt_tuple hc
  | list => exact blt_list hc
  | dict => exact blt_dict hc hu
end
end Ev
end
section
set_option maxRecDepth 100000
set_option maxHeartbeats 2000000
/-! The classes of exceptions as the end of the text's own run shows them: a Hook with one more Bool, and the texts of the __init__s. -/
namespace Ev
open PySem PySem.Spec PyProof.Rows L2 NdefX
/-- a class's body -/
def cbody (s : Stmt) : List Stmt := match s with
  | .ClassDef _ _ _ b _ _ _ _ _ _ _ => b
  | _ => []
/-! ### what the written part says -/
def oexB (K : PySem.W.Frag) (C : Addr) : Bool := (match K.lookup C with
  | some ⟨.type t, _, .cls cd, sl⟩ => decide (t = "type") && (match cd.mro, sl.toList with
    | .ref C' :: bm, [_, _, _, _, some (.builtin n), _] => decide (C' = C) && decide (n = "ValueError.__new__") && (!cd.hasDel) && cd.hasDict && PySem.HandSPX.refsVE bm
    | _, _ => false)
  | _ => false) && decide (PySem.W.findIn K (.ref C) "__setattr__" = some (some (.builtin "object.__setattr__"))) && decide (PySem.W.subIn K (.ref C) (.type "BaseException") = some true) && decide (PySem.W.typeIn K (.ref C) = some (.type "type")) && PySem.W.keepIn K (.ref C)
theorem oexB_ok {K : PySem.W.Frag} {C : Addr} (h : oexB K C = true) : OexC K C := by
  unfold oexB at h
  simp only [Bool.and_eq_true, decide_eq_true_eq] at h
  obtain ⟨⟨⟨⟨h1, h2⟩, h3⟩, h4⟩, h5⟩ := h
  refine ⟨?_, h2, h3, h4, h5⟩
  split at h1
  · rename_i t dd cd sl hk
    simp only [Bool.and_eq_true, decide_eq_true_eq] at h1
    obtain ⟨rfl, h1⟩ := h1
    split at h1
    · rename_i C' bm k0 k1 k2 k3 n k5 hm hs
      simp only [Bool.and_eq_true, decide_eq_true_eq, Bool.not_eq_true'] at h1
      obtain ⟨⟨⟨⟨rfl, rfl⟩, h6⟩, h7⟩, h8⟩ := h1
      obtain ⟨nm, bs, mro, ns, qn, hd, sn, sb, ab, col, del⟩ := cd
      dsimp only at hm h6 h7
      subst hm h6 h7
      have hsl : sl = #[k0, k1, k2, k3, some (.builtin "ValueError.__new__"), k5] := by
        obtain ⟨l⟩ := sl
        simp only at hs
        rw [hs]
      subst hsl
      exact ⟨nm, qn, ns, bs, bm, sn, sb, ab, col, dd, k0, k1, k2, k3, k5, hk, h8⟩
    · cases h1
  · cases h1
def excB (K : PySem.W.Frag) (C : Addr) : Bool := xfB K C && decide (PySem.W.findIn K (.ref C) "__class__" = some (some (.builtin "object.__class__"))) && decide (PySem.W.specialIn K (.builtin "object.__class__") "__get__" = some (some (.builtin "getset_descriptor.__get__"))) && decide (PySem.W.takesIn K (.builtin "object.__class__") = some true) && decide (PySem.W.mroIn K C (.type "object") = some true)
theorem excB_ok {K : PySem.W.Frag} {C : Addr} (h : excB K C = true) : ExcC K C ∧ XfC K C := by
  unfold excB at h
  simp only [Bool.and_eq_true, decide_eq_true_eq] at h
  obtain ⟨⟨⟨⟨h1, h2⟩, h3⟩, h4⟩, h5⟩ := h
  have x := xfB_ok h1
  exact ⟨⟨x.ga, x.gg, x.exC, x.hdC, h2, h3, h4, h5⟩, x⟩
/-- an __init__ of the text -/
structure IniD where
  cls : Str
  flds : List Str
  self : Str
  name : Str
  qual : Str
  params : Arguments
  body : List Stmt
  scope : Scope
abbrev FnC : Type := Option (Str × Str × Arguments × FuncBody × Scope × Addr × List Str × Value × Addr)
def iniAt (K : PySem.W.Frag) (x : Str) : Addr := He.ma K (He.ga K x) "__init__"
def fnC (K : PySem.W.Frag) (x : Str) : FnC := match K.lookup (iniAt K x) with
  | some ⟨_, _, .func fd, _⟩ => some (fd.name, fd.qualname, fd.params, fd.body, fd.scope, fd.globals, fd.closure.map (·.1), fd.defaults, fd.builtins)
  | _ => none
def IniD.val (d : IniD) : FnC := some (d.name, d.qual, d.params, .stmts d.body, d.scope, mainGlobals, ["__class__"], .none, builtinsNs)
def fileAt (vs : Array Value) : Option Str := match (vs[2]? : Option Value) with
  | some (.str f _) => some f
  | _ => none
theorem fileAt_ok {vs : Array Value} {f : Str} (h : fileAt vs = some f) : ∃ tf, vs[2]? = some (.str f tf) := by
  unfold fileAt at h
  split at h
  · rename_i g tf e
    cases h
    exact ⟨tf, e⟩
  · cases h
/-- the function, its cell, its code object -/
def supB (P : Program) (K : PySem.W.Frag) (d : IniD) : Bool := oexB K (He.ga K d.cls) && decide (PySem.W.findIn K (.ref (He.ga K d.cls)) "__init__" = some (some (.ref (iniAt K d.cls)))) && decide (PySem.W.typeIn K (.ref (iniAt K d.cls)) = some (.type "function")) &&
  decide (PySem.W.ks_superIn K (He.ga K d.cls) (He.ga K d.cls) "__init__" = some (some (.builtin "ValueError.__init__"))) && decide (PySem.W.nsIn K cStatics "thirdparty.any" = some none) && decide (PySem.W.subIn K (.ref (He.ga K d.cls)) (.type "ValueError") = some true) &&
  decide (PySem.W.mroIn K (He.ga K d.cls) (.ref (He.ga K d.cls)) = some true) && (d.flds.all fun f => decide (PySem.W.findIn K (.ref (He.ga K d.cls)) f = some none)) && (match K.lookup (iniAt K d.cls) with
    | some ⟨_, _, .func fd, _⟩ => (match fd.closure, fd.code with
      | [(_, cc)], .ref cda => (match K.lookup cc with
        | some ⟨_, _, .cell (some (.ref D)), _⟩ => decide (D = He.ga K d.cls)
        | _ => false) && (match K.lookup cda with
        | some ⟨_, _, .fields vs, _⟩ => decide (fileAt vs = some P.main.file)
        | _ => false) && PySem.W.codeIn K (.ref cda) d.qual
      | _, _ => false)
    | _ => false)
/-- the text's own shape -/
structure IniS (P : Program) (d : IniD) : Prop where
  scope : NScope (d.self :: d.flds ++ [("__class__" : Str)]) (d.self :: d.flds) [("__class__" : Str)] d.scope
  sup : d.scope.names.lookup ("super" : Str) = some .globalImplicit
  par : (d.params.posonlyargs ++ d.params.args).head?.map (·.arg) = some d.self
  body : iniB d.self d.flds d.body = true
  pos : 0 < d.flds.length
  few : d.flds.length < 29
  names : ∀ f ∈ d.self :: d.flds, (f == ("__debug__" : Str)) = false ∧ (f == ("__classdict__" : Str)) = false
  top : (P.main.scope.names.lookup ("super" : Str)).isSome = false
  binds : ∀ (kV doc pm ct : Value) (an : Option Addr) (cdv : Value) (cc : Addr) (us : List Value), us.length = (d.self :: d.flds).length → bindArgs (PySem.W.ksFn d.name d.qual d.params d.body d.scope .none kV doc pm an cdv ct cc) ⟨us, []⟩ = pure ((d.self :: d.flds).zip us)
theorem ini_make {P : Program} {K : PySem.W.Frag} {mg : Str → Option Value} {d : IniD} (S : IniS P d) (hms : mg "super" = none) (hv : fnC K d.cls = d.val) (h : supB P K d = true) : MkOk P K mg (He.ga K d.cls) d.flds ∧ ∀ f ∈ d.flds, PySem.W.findIn K (.ref (He.ga K d.cls)) f = some none := by
  unfold supB at h
  simp only [Bool.and_eq_true, decide_eq_true_eq] at h
  obtain ⟨⟨⟨⟨⟨⟨⟨⟨h1, h2⟩, h3⟩, h4⟩, h5⟩, h6⟩, h7⟩, h8⟩, h9⟩ := h
  have hno : ∀ f ∈ d.flds, PySem.W.findIn K (.ref (He.ga K d.cls)) f = some none := fun f hf => of_decide_eq_true (List.all_eq_true.mp h8 f hf)
  refine ⟨.inr ⟨fun z => by have := S.pos; rw [z] at this; exact absurd this (Nat.lt_irrefl _), oexB_ok h1, ?_⟩, hno⟩
  unfold fnC at hv
  cases q : K.lookup (iniAt K d.cls) with
  | none => rw [q] at h9; cases h9
  | some o =>
    obtain ⟨oc, od, dt, osl⟩ := o
    rw [q] at h9 hv
    cases dt with
    | func fd =>
      obtain ⟨n1, n2, n3, n4, n5, n6, n7, n8, n9, n10, n11, n12, n13, n14, n15⟩ := fd
      have e2 : (some (n1, n2, n3, n4, n5, n6, n7.map (·.1), n8, n15) : FnC) = some (d.name, d.qual, d.params, .stmts d.body, d.scope, mainGlobals, [("__class__" : Str)], .none, builtinsNs) := hv
      simp only [Option.some.injEq, Prod.mk.injEq] at e2
      obtain ⟨k1, k2, k3, k4, k5, k6, k7, k8, k9⟩ := e2
      dsimp only at h9
      split at h9
      · rename_i nm cc cda
        have enm : nm = ("__class__" : Str) := by simpa using k7
        subst enm k1 k2 k3 k4 k5 k6 k8 k9
        simp only [Bool.and_eq_true] at h9
        obtain ⟨⟨m1, m2⟩, m3⟩ := h9
        have cell : ∃ cl cld csl, K.lookup cc = some ⟨cl, cld, .cell (some (.ref (He.ga K d.cls))), csl⟩ := by
          split at m1
          · rename_i a b D c hk
            have := of_decide_eq_true m1
            subst this
            exact ⟨a, b, c, hk⟩
          · cases m1
        have code : ∃ ccl cdd vs ccs file tf, K.lookup cda = some ⟨ccl, cdd, .fields vs, ccs⟩ ∧ vs[2]? = some (.str file tf) ∧ ((P.main.file : Str) == file) = true := by
          split at m2
          · rename_i a b vs c hk
            obtain ⟨tf, hv⟩ := fileAt_ok (of_decide_eq_true m2)
            exact ⟨a, b, vs, c, _, tf, hk, hv, by simp⟩
          · cases m2
        have T : SupC P K (He.ga K d.cls) cc cda := ⟨oexB_ok h1, h4, h5, h6, h7, cell, code, S.top⟩
        obtain ⟨ar, ha, har⟩ : ∃ ar, (d.params.posonlyargs ++ d.params.args).head? = some ar ∧ ar.arg = d.self := by
          have z := S.par
          cases e : (d.params.posonlyargs ++ d.params.args).head? with
          | none => rw [e] at z; cases z
          | some ar => rw [e] at z; exact ⟨ar, rfl, by simpa using z⟩
        refine ⟨_, _, d.self :: d.flds, h2, h3, .all fun us hl => S.binds _ _ _ _ _ _ _ us hl, fun w base CX => ini_ok T hms q m3 S.scope S.sup ha har S.body S.pos S.few hno S.names⟩
      · cases h9
    | _ => cases h9
/-- a class of the table -/
def clsB (K : PySem.W.Frag) (c : ClsD) : Bool := decide (PySem.W.nsIn K mainGlobals c.name = some (some (.ref (He.ga K c.name)))) && PySem.W.keepIn K (.ref (He.ga K c.name)) && decide (PySem.W.subIn K (.ref (He.ga K c.name)) (.type "BaseException") = some true) && decide (PySem.W.typeIn K (.ref (He.ga K c.name)) = some (.type "type")) && excB K (He.ga K c.name)
/-- those without an __init__ of their own -/
def bareB (K : PySem.W.Frag) (c : ClsD) : Bool := !c.flds.isEmpty || PySem.W.excIn K (He.ga K c.name) He.veBase "ValueError.__new__"
def twoB (K : PySem.W.Frag) (k : Nat) (c d : ClsD) : Bool := decide (PySem.W.exmOne K (.ref (He.ga K c.name)) (.ref (He.ga K d.name)) = some (d.subs.contains k)) && decide (PySem.W.kitOne K (.ref (He.ga K c.name)) (.ref (He.ga K d.name)) = some (d.subs.contains k))
def zipIx {α : Type} : Nat → List α → List (Nat × α)
  | _, [] => []
  | n, a :: r => (n, a) :: zipIx (n + 1) r
theorem zipIx_mem {α : Type} : ∀ {l : List α} {n k : Nat} {a : α}, l[k]? = some a → (n + k, a) ∈ zipIx n l
  | [], _, _, _, h => by simp at h
  | b :: r, n, 0, a, h => by
    have e : b = a := by simpa using h
    subst e; exact List.mem_cons_self
  | b :: r, n, k + 1, a, h => by
    have := zipIx_mem (l := r) (n := n + 1) (k := k) (a := a) (by simpa using h)
    rw [show n + (k + 1) = n + 1 + k by omega]
    exact List.mem_cons_of_mem _ this
def tabB (P : Program) (cl : List ClsD) (is : List IniD) (K : PySem.W.Frag) : Bool := (cl.all fun c => clsB K c && bareB K c) && ((zipIx 0 cl).all fun p => cl.all fun d => twoB K p.1 p.2 d) && (is.all fun d => supB P K d) && decide (PySem.W.nsIn K mainGlobals "super" = some none)
theorem tab_ok {P : Program} {K : PySem.W.Frag} {h : Heap} {mg : Str → Option Value} {cl : List ClsD} {is : List IniD} (X : K.In h) (G : h.Ns mainGlobals mg) (hi : ∀ c ∈ cl, c.flds ≠ [] → ∃ d ∈ is, d.cls = c.name ∧ d.flds = c.flds) (hs : ∀ d ∈ is, IniS P d) (hv : ∀ d ∈ is, fnC K d.cls = d.val) (hb : tabB P cl is K = true) : XTab P K mg cl := by
  unfold tabB at hb
  simp only [Bool.and_eq_true, decide_eq_true_eq] at hb
  obtain ⟨⟨⟨h1, h2⟩, h3⟩, h4⟩ := hb
  have hms : mg "super" = none := PySem.W.mg_none_of X G h4
  have at_ : ∀ (k : Nat) (c : ClsD), cl[k]? = some c → XCls P K mg c (He.ga K c.name) := fun k c hk => by
    have hc := List.mem_of_getElem? hk
    have q := List.all_eq_true.mp h1 c hc
    simp only [Bool.and_eq_true] at q
    obtain ⟨q1, q2⟩ := q
    unfold clsB at q1
    simp only [Bool.and_eq_true, decide_eq_true_eq] at q1
    obtain ⟨⟨⟨⟨m1, m2⟩, m3⟩, m4⟩, m5⟩ := q1
    obtain ⟨e1, e2⟩ := excB_ok m5
    by_cases hf : c.flds = []
    · refine ⟨PySem.W.mg_of X G m1, m2, m3, m4, e1, e2, .inl ⟨hf, ?_⟩, fun f hf' => by rw [hf] at hf'; cases hf'⟩
      unfold bareB at q2
      rw [hf] at q2
      simpa using q2
    · obtain ⟨d, hd, en, ef⟩ := hi c hc hf
      obtain ⟨k1, k2⟩ := ini_make (mg := mg) (hs d hd) hms (hv d hd) (List.all_eq_true.mp h3 d hd)
      rw [en, ef] at k1 k2
      exact ⟨PySem.W.mg_of X G m1, m2, m3, m4, e1, e2, k1, k2⟩
  refine ⟨fun k c hk => ⟨_, at_ k c hk⟩, fun k j c d C D hk hj hC hD => ?_⟩
  have eC : He.ga K c.name = C := by have := (at_ k c hk).mg_; rw [hC] at this; cases this; rfl
  have eD : He.ga K d.name = D := by have := (at_ j d hj).mg_; rw [hD] at this; cases this; rfl
  subst eC eD
  have z := List.all_eq_true.mp (List.all_eq_true.mp h2 (0 + k, c) (zipIx_mem hk)) d (List.mem_of_getElem? hj)
  unfold twoB at z
  simp only [Bool.and_eq_true, decide_eq_true_eq, Nat.zero_add] at z
  exact z
/-! ### tuples at the top -/
theorem glv_tup {K : PySem.W.Frag} {h : Heap} {mg : Str → Option Value} {x : Str} {vs : List He.Dv} {ds : List D} (X : K.In h) (G : h.Ns mainGlobals mg) (hg : PySem.W.nsIn K mainGlobals x = some (some (.ref (He.ga K x)))) (ht : He.tupB K x vs = true) (hr : ∀ w H, Reps w K H ds (vs.map (He.Dv.v K))) : GlV K mg x (.tuple ds) :=
  ⟨.ref (He.ga K x), _, PySem.W.mg_of X G hg, rfl, fun w H => by
    simp only [Rep]
    exact ⟨He.ga K x, _, rfl, He.tupB_ok ht H, hr w H⟩⟩
theorem glv_con {K : PySem.W.Frag} {mg : Str → Option Value} {x : Str} {d : D} {v : V} {u : Value} (hc : conV d = some v) (hm : mg x = some u) (r : RelV v u) : GlV K mg x d := ⟨v, u, hm, r, fun _ _ => conV_rep hc⟩
/-! ### the Hook -/
abbrev AlV : Type := He.AlD × (List FnC × Bool)
def obsV (n : Nat) (fa : List He.Fa) (fn : List He.DefD) (is : List IniD) (ex : PySem.W.Frag → Bool) (g : Addr → Option Obj) : AlV := (He.obsD fa fn (He.frG g (cStatics :: He.asD g n)), (is.map fun d => fnC (He.frG g (cStatics :: He.asD g n)) d.cls, ex (He.frG g (cStatics :: He.asD g n))))
def valV (fn : List He.DefD) (is : List IniD) : AlV := (He.valD fn, (is.map IniD.val, true))
structure SaysV (fa : List He.Fa) (fn : List He.DefD) (is : List IniD) (ex : PySem.W.Frag → Bool) (K : PySem.W.Frag) : Prop where
  d : He.SaysD fa fn K
  v : is.map (fun d => fnC K d.cls) = is.map IniD.val
  x : ex K = true
def hookV (n : Nat) (fa : List He.Fa) (fn : List He.DefD) (is : List IniD) (ex : PySem.W.Frag → Bool) : PySem.W.Hook where
  α := AlV
  obs := fun s => obsV n fa fn is ex s.heap.get?
  val := fun _ => valV fn is
  says := fun _ h => ∃ K : PySem.W.Frag, K.In h ∧ SaysV fa fn is ex K
  of := fun _ _ e => ⟨_, He.frG_in, ⟨congrArg (fun z : AlV => z.1) e, congrArg (fun z : AlV => z.2.1) e, congrArg (fun z : AlV => z.2.2) e⟩⟩
  keeps := fun _ _ _ ⟨K, hK, c⟩ k => ⟨K, PySem.W.Frag.In.keeps hK k, c⟩
theorem obsV_eq {n : Nat} {fa : List He.Fa} {fn : List He.DefD} {is : List IniD} {ex : PySem.W.Frag → Bool} {g : Addr → Option Obj} {s : Shared} (h : ∀ a, g a = s.heap.get? a) : obsV n fa fn is ex g = (hookV n fa fn is ex).obs s := by
  have e : g = s.heap.get? := funext h
  rw [e] <;> rfl
theorem SaysV.ini {fa : List He.Fa} {fn : List He.DefD} {is : List IniD} {ex : PySem.W.Frag → Bool} {K : PySem.W.Frag} (c : SaysV fa fn is ex K) : ∀ d ∈ is, fnC K d.cls = d.val := fun d hd => List.map_inj_left.mp c.v d hd
end Ev
end
section
set_option maxRecDepth 100000
set_option maxHeartbeats 0
/-! The table of the defs: written by wip/gen.py. -/
namespace EvM
open PySem Ev
/-- 0 is_tree_of(stock, sort, value) ['stock', 'sort', 'value', 'name', 'own', 'places', 'place'] -/
def d_is_tree_of : Def := ⟨[false, false, false], 7, (.cons (.iff (.or (.not (.tr (.isi (.var 2) .tuple))) (.or (.tr (.cmp .eq (.blt .len (.cons (.var 2) .nil)) (.con (.int 0)))) (.not (.tr (.isi (.idx (.var 2) (.con (.int 0))) .str))))) (.cons (.ret (.con (.bool false))) .nil) .nil) (.cons (.fr (.tup [3, 4, 5]) (.seq (.var 0)) (.cons (.iff (.tr (.cmp .eq (.var 3) (.idx (.var 2) (.con (.int 0))))) (.cons (.iff (.or (.and (.tr (.isn true (.var 1))) (.tr (.cmp .ne (.var 4) (.var 1)))) (.tr (.cmp .ne (.blt .len (.cons (.var 5) .nil)) (.bin .sub (.blt .len (.cons (.var 2) .nil)) (.con (.int 1)))))) (.cons (.ret (.con (.bool false))) .nil) .nil) (.cons (.fr (.name 6) (.rng1 (.blt .len (.cons (.var 5) .nil))) (.cons (.iff (.not (.tr (.call 0 (.cons (.var 0) (.cons (.idx (.var 5) (.var 6)) (.cons (.idx (.var 2) (.bin .add (.var 6) (.con (.int 1)))) .nil)))))) (.cons (.ret (.con (.bool false))) .nil) .nil) .nil)) (.cons (.ret (.con (.bool true))) .nil))) .nil) .nil)) (.cons (.ret (.con (.bool false))) .nil)))⟩
/-- 1 is_tree(stock, value) ['stock', 'value'] -/
def d_is_tree : Def := ⟨[false, false], 2, (.cons (.ret (.call 0 (.cons (.var 0) (.cons (.con .none) (.cons (.var 1) .nil))))) .nil)⟩
/-- 2 sort_of(stock, tree) ['stock', 'tree', 'name', 'sort', 'places'] -/
def d_sort_of : Def := ⟨[false, false], 5, (.cons (.fr (.tup [2, 3, 4]) (.seq (.var 0)) (.cons (.iff (.tr (.cmp .eq (.var 2) (.idx (.var 1) (.con (.int 0))))) (.cons (.ret (.var 3)) .nil) .nil) .nil)) (.cons (.ret (.con .none)) .nil))⟩
/-- 3 size(tree) ['tree', 'part'] -/
def d_size : Def := ⟨[false], 2, (.cons (.ret (.bin .add (.con (.int 1)) (.blt .sum (.cons (.comp [1] (.call 3 (.cons (.var 1) .nil)) (.name 1) (.seq (.sl (.var 0) (.som (.con (.int 1))) .non)) .yes) .nil)))) .nil)⟩
/-- 4 depth(tree) ['tree', 'part'] -/
def d_depth : Def := ⟨[false], 2, (.cons (.ret (.bin .add (.con (.int 1)) (.mxd false (.comp [1] (.call 4 (.cons (.var 1) .nil)) (.name 1) (.seq (.sl (.var 0) (.som (.con (.int 1))) .non)) .yes) 0))) .nil)⟩
/-- 5 paths(tree) ['tree', 'found', 'place', 'path'] -/
def d_paths : Def := ⟨[false], 4, (.cons (.asg 1 (.lst (.cons (.tup .nil) .nil))) (.cons (.fr (.name 2) (.rng2 (.con (.int 1)) (.blt .len (.cons (.var 0) .nil))) (.cons (.fr (.name 3) (.seq (.call 5 (.cons (.idx (.var 0) (.var 2)) .nil))) (.cons (.drop (.mut .append 1 (.cons (.bin .add (.tup (.cons (.var 2) .nil)) (.var 3)) .nil))) .nil)) .nil)) (.cons (.ret (.var 1)) .nil)))⟩
/-- 6 part_at(tree, path) ['tree', 'path', 'part', 'place'] -/
def d_part_at : Def := ⟨[false, false], 4, (.cons (.asg 2 (.var 0)) (.cons (.fr (.name 3) (.seq (.var 1)) (.cons (.iff (.not (.tr (.chn .le .lt (.con (.int 1)) (.var 3) (.blt .len (.cons (.var 2) .nil))))) (.cons (.rse 1 ["path"] (.cons (.var 1) .nil)) .nil) .nil) (.cons (.asg 2 (.idx (.var 2) (.var 3))) .nil))) (.cons (.ret (.var 2)) .nil)))⟩
/-- 7 with_part(stock, tree, path, part) ['stock', 'tree', 'path', 'part', 'old'] -/
def d_with_part : Def := ⟨[false, false, false, false], 5, (.cons (.asg 4 (.call 6 (.cons (.var 1) (.cons (.var 2) .nil)))) (.cons (.iff (.tr (.cmp .ne (.call 2 (.cons (.var 0) (.cons (.var 4) .nil))) (.call 2 (.cons (.var 0) (.cons (.var 3) .nil))))) (.cons (.rse 2 [] .nil) .nil) .nil) (.cons (.ret (.call 8 (.cons (.var 1) (.cons (.var 2) (.cons (.var 3) .nil))))) .nil)))⟩
/-- 8 exchanged_part(tree, path, part) ['tree', 'path', 'part', 'place'] -/
def d_exchanged_part : Def := ⟨[false, false, false], 4, (.cons (.iff (.tr (.cmp .eq (.blt .len (.cons (.var 1) .nil)) (.con (.int 0)))) (.cons (.ret (.var 2)) .nil) .nil) (.cons (.asg 3 (.idx (.var 1) (.con (.int 0)))) (.cons (.ret (.bin .add (.bin .add (.sl (.var 0) .non (.som (.var 3))) (.tup (.cons (.call 8 (.cons (.idx (.var 0) (.var 3)) (.cons (.sl (.var 1) (.som (.con (.int 1))) .non) (.cons (.var 2) .nil)))) .nil))) (.sl (.var 0) (.som (.bin .add (.var 3) (.con (.int 1)))) .non))) .nil)))⟩
/-- 9 _law_same(tells, due) ['tells', 'due', 'k'] -/
def d_law_same : Def := ⟨[false, false], 3, (.cons (.iff (.or (.tr (.isi (.var 1) .bool)) (.tr (.isi (.var 0) .bool))) (.cons (.ret (.and (.isi (.var 1) .bool) (.and (.isi (.var 0) .bool) (.cmp .eq (.var 0) (.var 1))))) .nil) .nil) (.cons (.iff (.or (.tr (.isn false (.var 1))) (.tr (.isi (.var 1) .int))) (.cons (.ret (.and (.cmp .eq (.var 0) (.var 1)) (.or (.isn false (.var 1)) (.isi (.var 0) .int)))) .nil) .nil) (.cons (.iff (.tr (.isi (.var 1) .str)) (.cons (.ret (.and (.isi (.var 0) .str) (.cmp .eq (.var 0) (.var 1)))) .nil) .nil) (.cons (.iff (.or (.tr (.cmp .ne (.isi (.var 1) .list) (.isi (.var 0) .list))) (.tr (.cmp .ne (.isi (.var 1) .tuple) (.isi (.var 0) .tuple)))) (.cons (.ret (.con (.bool false))) .nil) .nil) (.cons (.iff (.tr (.cmp .ne (.blt .len (.cons (.var 0) .nil)) (.blt .len (.cons (.var 1) .nil)))) (.cons (.ret (.con (.bool false))) .nil) .nil) (.cons (.fr (.name 2) (.rng1 (.blt .len (.cons (.var 1) .nil))) (.cons (.iff (.not (.tr (.call 9 (.cons (.idx (.var 0) (.var 2)) (.cons (.idx (.var 1) (.var 2)) .nil))))) (.cons (.ret (.con (.bool false))) .nil) .nil) .nil)) (.cons (.ret (.con (.bool true))) .nil)))))))⟩
/-- 10 _law_number(script, k) ['script', 'k', 'number'] -/
def d_law_number : Def := ⟨[false, false], 3, (.cons (.asg 2 (.bin .add (.bin .mul (.blt .sum (.cons (.var 0) .nil)) (.con (.int 31))) (.bin .mul (.con (.int 1000003)) (.bin .add (.var 1) (.con (.int 1)))))) (.cons (.iff (.tr (.cmp .lt (.var 1) (.blt .len (.cons (.var 0) .nil)))) (.cons (.asg 2 (.idx (.var 0) (.var 1))) .nil) .nil) (.cons (.ret (.blt .abs (.cons (.var 2) .nil))) .nil)))⟩
/-- 11 _law_draws(script, k, count, many) ['script', 'k', 'count', 'many', 'number', 'found', 'at', 'state', 'another'] -/
def d_law_draws : Def := ⟨[false, false, false, false], 9, (.cons (.asg 4 (.call 10 (.cons (.var 0) (.cons (.var 1) .nil)))) (.cons (.asg 5 (.lst .nil)) (.cons (.iff (.tr (.cmp .ge (.var 4) (.bin .pow (.con (.int 10)) (.con (.int 18))))) (.cons (.asg 4 (.bin .sub (.var 4) (.bin .pow (.con (.int 10)) (.con (.int 18))))) (.cons (.fr (.name 6) (.rng1 (.var 2)) (.cons (.drop (.mut .append 5 (.cons (.bin .mod (.var 4) (.var 3)) .nil))) (.cons (.asg 4 (.bin .fdiv (.var 4) (.var 3))) .nil))) (.cons (.ret (.var 5)) .nil))) .nil) (.cons (.asg 7 (.bin .add (.bin .mod (.var 4) (.con (.int 2147483647))) (.con (.int 1)))) (.cons (.fr (.name 6) (.rng1 (.var 2)) (.cons (.asg 7 (.bin .mod (.bin .add (.bin .add (.bin .mul (.var 7) (.con (.int 48271))) (.bin .mul (.con (.int 11)) (.var 6))) (.con (.int 7))) (.con (.int 2147483647)))) (.cons (.asg 8 (.bin .mod (.bin .add (.bin .add (.bin .mul (.var 7) (.var 7)) (.bin .mul (.con (.int 69621)) (.var 6))) (.con (.int 5))) (.con (.int 2147483629)))) (.cons (.drop (.mut .append 5 (.cons (.bin .mod (.bin .fdiv (.var 8) (.con (.int 64))) (.var 3)) .nil))) .nil)))) (.cons (.ret (.var 5)) .nil))))))⟩
/-- 12 _law_pick(picks) ['picks'] -/
def d_law_pick : Def := ⟨[true], 1, (.cons (.iff (.tr (.cmp .eq (.blt .len (.cons (.var 0) .nil)) (.con (.int 0)))) (.cons (.ret (.con (.int 0))) .nil) .nil) (.cons (.ret (.mut .pop 0 .nil)) .nil))⟩
/-- 13 _law_picks(script, k, count) ['script', 'k', 'count', 'picks'] -/
def d_law_picks : Def := ⟨[false, false, false], 4, (.cons (.asg 3 (.call 11 (.cons (.var 0) (.cons (.var 1) (.cons (.var 2) (.cons (.con (.int 5040)) .nil)))))) (.cons (.drop (.mut .reverse 3 .nil)) (.cons (.ret (.var 3)) .nil)))⟩
/-- 14 _law_sorts(stock) ['stock', 'maker'] -/
def d_law_sorts : Def := ⟨[false], 2, (.cons (.ret (.blt .tuple (.cons (.blt .dict (.cons (.comp [1] (.tup (.cons (.idx (.var 1) (.con (.int 1))) (.cons (.con (.int 0)) .nil))) (.name 1) (.seq (.var 0)) .yes) .nil)) .nil))) .nil)⟩
/-- 15 _law_stock(picks, sorts, more) ['picks', 'sorts', 'more', 'names', 'leaves', 'j', 'others', 'places', 'k'] -/
def d_law_stock : Def := ⟨[true, false, false], 9, (.cons (.asg 3 (.sl (.tup (.cons (.con (.str "s")) (.cons (.con (.str "t")) (.cons (.con (.str "u")) (.cons (.con (.str "w")) .nil))))) .non (.som (.var 1)))) (.cons (.asg 4 (.comp [5] (.tup (.cons (.bin .add (.con (.str "e")) (.blt .str (.cons (.var 5) .nil))) (.cons (.idx (.var 3) (.var 5)) (.cons (.tup .nil) .nil)))) (.name 5) (.rng1 (.var 1)) .yes)) (.cons (.asg 6 (.lst .nil)) (.cons (.fr (.name 5) (.rng1 (.bin .mod (.call 12 (.cons (.var 0) .nil)) (.bin .add (.var 2) (.con (.int 1))))) (.cons (.asg 7 (.blt .tuple (.cons (.comp [8] (.idx (.var 3) (.bin .mod (.call 12 (.cons (.var 0) .nil)) (.var 1))) (.name 8) (.rng1 (.bin .add (.con (.int 1)) (.bin .mod (.call 12 (.cons (.var 0) .nil)) (.con (.int 2))))) .yes) .nil))) (.cons (.drop (.mut .append 6 (.cons (.tup (.cons (.bin .add (.con (.str "m")) (.blt .str (.cons (.var 5) .nil))) (.cons (.idx (.var 3) (.bin .mod (.call 12 (.cons (.var 0) .nil)) (.var 1))) (.cons (.var 7) .nil)))) .nil))) .nil))) (.cons (.iff (.tr (.cmp .eq (.bin .mod (.call 12 (.cons (.var 0) .nil)) (.con (.int 2))) (.con (.int 0)))) (.cons (.ret (.blt .tuple (.cons (.bin .add (.var 4) (.var 6)) .nil))) .nil) .nil) (.cons (.ret (.blt .tuple (.cons (.bin .add (.var 6) (.var 4)) .nil))) .nil))))))⟩
/-- 16 _law_maker(stock, name) ['stock', 'name', 'j'] -/
def d_law_maker : Def := ⟨[false, false], 3, (.cons (.ret (.idx (.comp [2] (.var 2) (.name 2) (.rng1 (.blt .len (.cons (.var 0) .nil))) (.tr (.cmp .eq (.idx (.idx (.var 0) (.var 2)) (.con (.int 0))) (.var 1)))) (.con (.int 0)))) .nil)⟩
/-- 17 _law_sort(stock, tree) ['stock', 'tree'] -/
def d_law_sort : Def := ⟨[false, false], 2, (.cons (.ret (.idx (.idx (.var 0) (.call 16 (.cons (.var 0) (.cons (.idx (.var 1) (.con (.int 0))) .nil)))) (.con (.int 1)))) .nil)⟩
/-- 18 _law_knots(tree) ['tree', 'found', 'at', 'path', 'part'] -/
def d_law_knots : Def := ⟨[false], 5, (.cons (.asg 1 (.lst (.cons (.tup (.cons (.tup .nil) (.cons (.var 0) .nil))) .nil))) (.cons (.fr (.name 2) (.rng2 (.con (.int 1)) (.blt .len (.cons (.var 0) .nil))) (.cons (.asg 1 (.bin .add (.var 1) (.comp [3, 4] (.tup (.cons (.bin .add (.tup (.cons (.var 2) .nil)) (.var 3)) (.cons (.var 4) .nil))) (.tup [3, 4]) (.seq (.call 18 (.cons (.idx (.var 0) (.var 2)) .nil))) .yes))) .nil)) (.cons (.ret (.var 1)) .nil)))⟩
/-- 19 _law_size(tree) ['tree', 'part'] -/
def d_law_size : Def := ⟨[false], 2, (.cons (.ret (.bin .add (.con (.int 1)) (.blt .sum (.cons (.comp [1] (.call 19 (.cons (.var 1) .nil)) (.name 1) (.seq (.sl (.var 0) (.som (.con (.int 1))) .non)) .yes) .nil)))) .nil)⟩
/-- 20 _law_tree(picks, stock, sort, deep) ['picks', 'stock', 'sort', 'deep', 'makers', 'maker', 'place'] -/
def d_law_tree : Def := ⟨[true, false, false, false], 7, (.cons (.asg 4 (.comp [5] (.var 5) (.name 5) (.seq (.var 1)) (.and (.tr (.cmp .eq (.idx (.var 5) (.con (.int 1))) (.var 2))) (.or (.tr (.cmp .gt (.var 3) (.con (.int 0)))) (.tr (.cmp .eq (.idx (.var 5) (.con (.int 2))) (.tup .nil))))))) (.cons (.asg 5 (.idx (.var 4) (.bin .mod (.call 12 (.cons (.var 0) .nil)) (.blt .len (.cons (.var 4) .nil))))) (.cons (.ret (.bin .add (.tup (.cons (.idx (.var 5) (.con (.int 0))) .nil)) (.blt .tuple (.cons (.comp [6] (.call 20 (.cons (.var 0) (.cons (.var 1) (.cons (.var 6) (.cons (.bin .sub (.var 3) (.con (.int 1))) .nil))))) (.name 6) (.seq (.idx (.var 5) (.con (.int 2)))) .yes) .nil)))) .nil)))⟩
/-- 21 _law_small_tree(picks, stock, sort, deep, most) ['picks', 'stock', 'sort', 'deep', 'most', 'tree'] -/
def d_law_small_tree : Def := ⟨[true, false, false, false, false], 6, (.cons (.asg 5 (.call 20 (.cons (.var 0) (.cons (.var 1) (.cons (.var 2) (.cons (.var 3) .nil)))))) (.cons (.iff (.tr (.cmp .le (.call 19 (.cons (.var 5) .nil)) (.var 4))) (.cons (.ret (.var 5)) .nil) .nil) (.cons (.ret (.call 20 (.cons (.var 0) (.cons (.var 1) (.cons (.var 2) (.cons (.con (.int 0)) .nil)))))) .nil)))⟩
/-- 22 _law_is_tree(stock, sort, value) ['stock', 'sort', 'value', 'found', 'maker', 'parts', 'at'] -/
def d_law_is_tree : Def := ⟨[false, false, false], 7, (.cons (.iff (.or (.not (.tr (.isi (.var 2) .tuple))) (.or (.tr (.cmp .eq (.blt .len (.cons (.var 2) .nil)) (.con (.int 0)))) (.not (.tr (.isi (.idx (.var 2) (.con (.int 0))) .str))))) (.cons (.ret (.con (.bool false))) .nil) .nil) (.cons (.asg 3 (.comp [4] (.var 4) (.name 4) (.seq (.var 0)) (.and (.tr (.cmp .eq (.idx (.var 4) (.con (.int 0))) (.idx (.var 2) (.con (.int 0))))) (.or (.tr (.isn false (.var 1))) (.tr (.cmp .eq (.idx (.var 4) (.con (.int 1))) (.var 1))))))) (.cons (.iff (.or (.tr (.cmp .eq (.blt .len (.cons (.var 3) .nil)) (.con (.int 0)))) (.tr (.cmp .ne (.blt .len (.cons (.idx (.idx (.var 3) (.con (.int 0))) (.con (.int 2))) .nil)) (.bin .sub (.blt .len (.cons (.var 2) .nil)) (.con (.int 1)))))) (.cons (.ret (.con (.bool false))) .nil) .nil) (.cons (.asg 5 (.comp [6] (.call 22 (.cons (.var 0) (.cons (.idx (.idx (.idx (.var 3) (.con (.int 0))) (.con (.int 2))) (.var 6)) (.cons (.idx (.var 2) (.bin .add (.var 6) (.con (.int 1)))) .nil)))) (.name 6) (.rng1 (.bin .sub (.blt .len (.cons (.var 2) .nil)) (.con (.int 1)))) .yes)) (.cons (.ret (.cmp .notin (.con (.bool false)) (.var 5))) .nil)))))⟩
/-- 23 _law_depth(tree) ['tree', 'part'] -/
def d_law_depth : Def := ⟨[false], 2, (.cons (.ret (.bin .add (.con (.int 1)) (.blt .max (.cons (.bin .add (.comp [1] (.call 23 (.cons (.var 1) .nil)) (.name 1) (.seq (.sl (.var 0) (.som (.con (.int 1))) .non)) .yes) (.lst (.cons (.con (.int 0)) .nil))) .nil)))) .nil)⟩
/-- 24 _law_put(tree, path, part) ['tree', 'path', 'part', 'at'] -/
def d_law_put : Def := ⟨[false, false, false], 4, (.cons (.iff (.tr (.cmp .eq (.var 1) (.tup .nil))) (.cons (.ret (.var 2)) .nil) .nil) (.cons (.ret (.blt .tuple (.cons (.comp [3] (.ite (.tr (.cmp .eq (.var 3) (.idx (.var 1) (.con (.int 0))))) (.call 24 (.cons (.idx (.var 0) (.var 3)) (.cons (.sl (.var 1) (.som (.con (.int 1))) .non) (.cons (.var 2) .nil)))) (.idx (.var 0) (.var 3))) (.name 3) (.rng1 (.blt .len (.cons (.var 0) .nil))) .yes) .nil))) .nil))⟩
/-- 25 _law_part(tree, path) ['tree', 'path', 'error'] -/
def d_law_part : Def := ⟨[false, false], 3, (.cons (.tri (.cons (.ret (.call 6 (.cons (.var 0) (.cons (.var 1) .nil)))) .nil) (.cons 1 [1] (some 2) (.ret (.lst (.cons (.con (.str "path")) (.cons (.fld "path") (.cons (.ise 0 [0, 1, 2]) (.cons (.ise 2 [2]) .nil)))))) .nil)) .nil)⟩
/-- 26 _law_exchanged(stock, tree, path, part) ['stock', 'tree', 'path', 'part', 'error'] -/
def d_law_exchanged : Def := ⟨[false, false, false, false], 5, (.cons (.tri (.cons (.ret (.call 7 (.cons (.var 0) (.cons (.var 1) (.cons (.var 2) (.cons (.var 3) .nil)))))) .nil) (.cons 1 [1] (some 4) (.ret (.lst (.cons (.con (.str "path")) (.cons (.fld "path") .nil)))) (.cons 2 [2] (some 4) (.ret (.lst (.cons (.con (.str "sorts")) (.cons (.ise 1 [1]) .nil)))) .nil))) .nil)⟩
/-- 27 law(script) ['script', 'shape', 'picks', 'stock', 'sorts', 'tree', 'knots', 'path', 'part', 'at', 'old', 'new', 'due', 'wrong', 'broken', 'value'] -/
def d_law : Def := ⟨[false], 16, (.cons (.asg 1 (.call 11 (.cons (.var 0) (.cons (.con (.int 0)) (.cons (.con (.int 4)) (.cons (.con (.int 720)) .nil)))))) (.cons (.asg 2 (.call 13 (.cons (.var 0) (.cons (.con (.int 1)) (.cons (.con (.int 60)) .nil))))) (.cons (.asg 3 (.call 15 (.cons (.var 2) (.cons (.bin .add (.con (.int 1)) (.bin .mod (.idx (.var 1) (.con (.int 0))) (.con (.int 3)))) (.cons (.con (.int 4)) .nil))))) (.cons (.asg 4 (.call 14 (.cons (.var 3) .nil))) (.cons (.asg 2 (.call 13 (.cons (.var 0) (.cons (.con (.int 2)) (.cons (.con (.int 60)) .nil))))) (.cons (.asg 5 (.call 21 (.cons (.var 2) (.cons (.var 3) (.cons (.idx (.var 4) (.bin .mod (.idx (.var 1) (.con (.int 1))) (.blt .len (.cons (.var 4) .nil)))) (.cons (.con (.int 4)) (.cons (.con (.int 20)) .nil))))))) (.cons (.asg 6 (.call 18 (.cons (.var 5) .nil))) (.cons (.iff (.or (.tr (.isb true true (.call 1 (.cons (.var 3) (.cons (.var 5) .nil))))) (.not (.tr (.call 9 (.cons (.call 5 (.cons (.var 5) .nil)) (.cons (.comp [7, 8] (.var 7) (.tup [7, 8]) (.seq (.var 6)) .yes) .nil)))))) (.cons (.ret (.con (.bool false))) .nil) .nil) (.cons (.iff (.not (.tr (.call 9 (.cons (.lst (.cons (.call 3 (.cons (.var 5) .nil)) (.cons (.call 4 (.cons (.var 5) .nil)) (.cons (.call 2 (.cons (.var 3) (.cons (.var 5) .nil))) .nil)))) (.cons (.lst (.cons (.blt .len (.cons (.var 6) .nil)) (.cons (.call 23 (.cons (.var 5) .nil)) (.cons (.call 17 (.cons (.var 3) (.cons (.var 5) .nil))) .nil)))) .nil))))) (.cons (.ret (.con (.bool false))) .nil) .nil) (.cons (.fr (.tup [7, 8]) (.seq (.var 6)) (.cons (.iff (.not (.tr (.call 9 (.cons (.call 25 (.cons (.var 5) (.cons (.var 7) .nil))) (.cons (.var 8) .nil))))) (.cons (.ret (.con (.bool false))) .nil) .nil) .nil)) (.cons (.asg 2 (.call 13 (.cons (.var 0) (.cons (.con (.int 3)) (.cons (.con (.int 60)) .nil))))) (.cons (.asgT [9, 10] (.idx (.var 6) (.bin .mod (.idx (.var 1) (.con (.int 2))) (.blt .len (.cons (.var 6) .nil))))) (.cons (.asg 11 (.call 21 (.cons (.var 2) (.cons (.var 3) (.cons (.idx (.var 4) (.bin .mod (.idx (.var 1) (.con (.int 3))) (.blt .len (.cons (.var 4) .nil)))) (.cons (.con (.int 2)) (.cons (.con (.int 9)) .nil))))))) (.cons (.asg 12 (.lst (.cons (.con (.str "sorts")) (.cons (.con (.bool false)) .nil)))) (.cons (.iff (.tr (.cmp .eq (.call 17 (.cons (.var 3) (.cons (.var 10) .nil))) (.call 17 (.cons (.var 3) (.cons (.var 11) .nil))))) (.cons (.asg 12 (.call 24 (.cons (.var 5) (.cons (.var 9) (.cons (.var 11) .nil))))) .nil) .nil) (.cons (.iff (.or (.not (.tr (.call 9 (.cons (.call 26 (.cons (.var 3) (.cons (.var 5) (.cons (.var 9) (.cons (.var 11) .nil))))) (.cons (.var 12) .nil))))) (.tr (.cmp .ne (.call 18 (.cons (.var 5) .nil)) (.var 6)))) (.cons (.ret (.con (.bool false))) .nil) .nil) (.cons (.fr (.name 13) (.seq (.lst (.cons (.bin .add (.var 9) (.tup (.cons (.con (.int 3)) .nil))) (.cons (.bin .add (.var 9) (.tup (.cons (.con (.int 0)) .nil))) (.cons (.bin .add (.var 9) (.tup (.cons (.blt .len (.cons (.var 10) .nil)) .nil))) (.cons (.tup (.cons (.bin .sub (.con (.int 0)) (.con (.int 1))) .nil)) (.cons (.tup (.cons (.con (.int 1)) (.cons (.con (.int 2)) (.cons (.con (.int 1)) (.cons (.con (.int 2)) (.cons (.con (.int 1)) (.cons (.con (.int 2)) .nil))))))) .nil))))))) (.cons (.iff (.tr (.cmp .isin (.var 13) (.comp [7, 8] (.var 7) (.tup [7, 8]) (.seq (.var 6)) .yes))) (.cons .cnt .nil) .nil) (.cons (.iff (.or (.not (.tr (.call 9 (.cons (.call 25 (.cons (.var 5) (.cons (.var 13) .nil))) (.cons (.lst (.cons (.con (.str "path")) (.cons (.var 13) (.cons (.con (.bool true)) (.cons (.con (.bool false)) .nil))))) .nil))))) (.not (.tr (.call 9 (.cons (.call 26 (.cons (.var 3) (.cons (.var 5) (.cons (.var 13) (.cons (.var 11) .nil))))) (.cons (.lst (.cons (.con (.str "path")) (.cons (.var 13) .nil))) .nil)))))) (.cons (.ret (.con (.bool false))) .nil) .nil) .nil))) (.cons (.asg 14 (.lst (.cons (.call 24 (.cons (.var 5) (.cons (.var 9) (.cons (.bin .add (.var 10) (.tup (.cons (.var 11) .nil))) .nil)))) (.cons (.call 24 (.cons (.var 5) (.cons (.var 9) (.cons (.sl (.var 10) .non (.som (.neg (.con (.int 1))))) .nil)))) (.cons (.call 24 (.cons (.var 5) (.cons (.var 9) (.cons (.bin .add (.tup (.cons (.con (.str "zz")) .nil)) (.sl (.var 10) (.som (.con (.int 1))) .non)) .nil)))) (.cons (.call 24 (.cons (.var 5) (.cons (.var 9) (.cons (.var 11) .nil)))) .nil)))))) (.cons (.asg 14 (.bin .add (.var 14) (.lst (.cons (.call 24 (.cons (.var 5) (.cons (.var 9) (.cons (.bin .add (.tup (.cons (.idx (.var 1) (.con (.int 0))) .nil)) (.sl (.var 10) (.som (.con (.int 1))) .non)) .nil)))) (.cons (.call 24 (.cons (.var 5) (.cons (.var 9) (.cons (.con (.str "e0")) .nil)))) (.cons (.call 24 (.cons (.var 5) (.cons (.var 9) (.cons (.tup .nil) .nil)))) (.cons (.call 24 (.cons (.var 5) (.cons (.var 9) (.cons (.con .none) .nil)))) .nil))))))) (.cons (.fr (.name 15) (.seq (.var 14)) (.cons (.iff (.not (.tr (.call 9 (.cons (.call 1 (.cons (.var 3) (.cons (.var 15) .nil))) (.cons (.call 22 (.cons (.var 3) (.cons (.con .none) (.cons (.var 15) .nil)))) .nil))))) (.cons (.ret (.con (.bool false))) .nil) .nil) .nil)) (.cons (.ret (.con (.bool true))) .nil)))))))))))))))))))))⟩
def tab : List Def := [d_is_tree_of, d_is_tree, d_sort_of, d_size, d_depth, d_paths, d_part_at, d_with_part, d_exchanged_part, d_law_same, d_law_number, d_law_draws, d_law_pick, d_law_picks, d_law_sorts, d_law_stock, d_law_maker, d_law_sort, d_law_knots, d_law_size, d_law_tree, d_law_small_tree, d_law_is_tree, d_law_depth, d_law_put, d_law_part, d_law_exchanged, d_law]
def FN : Nms := ⟨["is_tree_of", "is_tree", "sort_of", "size", "depth", "paths", "part_at", "with_part", "exchanged_part", "_law_same", "_law_number", "_law_draws", "_law_pick", "_law_picks", "_law_sorts", "_law_stock", "_law_maker", "_law_sort", "_law_knots", "_law_size", "_law_tree", "_law_small_tree", "_law_is_tree", "_law_depth", "_law_put", "_law_part", "_law_exchanged", "law"], [], [⟨"TreeError", [], [0, 1, 2]⟩, ⟨"BadPath", ["path"], [1]⟩, ⟨"UnlikeSorts", [], [2]⟩]⟩
end EvM
end
section
set_option maxHeartbeats 200000
set_option maxRecDepth 100000
/-! Reckoning with the evaluator: loops, comprehensions. -/
namespace Ev
open PySem
theorem bd_rt {α β : Type} (a : α) (f : α → M β) : bd (rt a) f = f a := rfl
theorem bd_some {α β : Type} (a : α) (f : α → M β) : bd (some (.ok a)) f = f a := rfl
theorem lift_some {α : Type} (a : α) (ρ : Env) : lift (some a) ρ = some (.ok (a, ρ)) := rfl
theorem opt_some {α : Type} (a : α) : opt (some a) = some (.ok a) := rfl
theorem call_at {T : List Def} {n f : Nat} {d : Def} (h : T[f]? = some d) (ds : List D) : call T (n + 1) f ds = runDef (flagsOf T) (call T n) d ds := by
  show (match T[f]? with
    | some d => runDef (flagsOf T) (call T n) d ds
    | none => none) = _
  rw [h]
theorem flags_at {T : List Def} {f : Nat} {d : Def} (h : T[f]? = some d) : flagsOf T f = d.flags := by
  unfold flagsOf; rw [h]
/-- a for loop, by what is left -/
theorem flp_run {body : D → Env → M Fl} (R : List D → Env → Prop) (P : Fl → Prop) (h0 : ∀ ρ, R [] ρ → P (.nx ρ))
    (hs : ∀ x xs ρ, R (x :: xs) ρ → (∃ ρ', (body x ρ = some (.ok (.nx ρ')) ∨ body x ρ = some (.ok (.ct ρ'))) ∧ R xs ρ') ∨ (∃ ρ', body x ρ = some (.ok (.bk ρ')) ∧ P (.nx ρ')) ∨ ∃ r ρ', body x ρ = some (.ok (.rt r ρ')) ∧ P (.rt r ρ')) :
    ∀ (xs : List D) (ρ : Env), R xs ρ → ∃ f, flp body xs ρ = some (.ok f) ∧ P f
  | [], ρ, h => ⟨.nx ρ, rfl, h0 ρ h⟩
  | x :: xs, ρ, h => by
    rcases hs x xs ρ h with ⟨ρ', e, r⟩ | ⟨ρ', e, r⟩ | ⟨r, ρ', e, q⟩
    · obtain ⟨f, e2, p⟩ := flp_run R P h0 hs xs ρ' r
      refine ⟨f, ?_, p⟩
      unfold flp
      rcases e with e | e <;> rw [e] <;> exact e2
    · exact ⟨.nx ρ', by unfold flp; rw [e]; rfl, r⟩
    · exact ⟨.rt r ρ', by unfold flp; rw [e]; rfl, q⟩
/-- a for loop that only goes on -/
theorem flp_nx {body : D → Env → M Fl} (R : List D → Env → Prop) (hs : ∀ x xs ρ, R (x :: xs) ρ → ∃ ρ', body x ρ = some (.ok (.nx ρ')) ∧ R xs ρ') (xs : List D) (ρ : Env) (h : R xs ρ) : ∃ ρ', flp body xs ρ = some (.ok (.nx ρ')) ∧ R [] ρ' := by
  obtain ⟨f, e, ρ', rfl, r⟩ := flp_run R (fun f => ∃ ρ', f = .nx ρ' ∧ R [] ρ') (fun ρ r => ⟨ρ, rfl, r⟩) (fun x xs ρ r => .inl (by
    obtain ⟨ρ', e, r'⟩ := hs x xs ρ r
    exact ⟨ρ', .inl e, r'⟩)) xs ρ h
  exact ⟨ρ', e, r⟩
/-- a comprehension's turns, by what is done and what is left -/
theorem clp_run {f : D → Env → M (Option D × Env)} (R : List D → List D → Env → Prop) (hs : ∀ acc x xs ρ, R acc (x :: xs) ρ → ∃ o ρ', f x ρ = some (.ok (o, ρ')) ∧ R (acc ++ o.toList) xs ρ') :
    ∀ (xs acc : List D) (ρ : Env), R acc xs ρ → ∃ ys ρ', clp f xs ρ = some (.ok (ys, ρ')) ∧ R (acc ++ ys) [] ρ'
  | [], acc, ρ, h => ⟨[], ρ, rfl, by simpa using h⟩
  | x :: xs, acc, ρ, h => by
    obtain ⟨o, ρ', e, r⟩ := hs acc x xs ρ h
    obtain ⟨ys, ρ2, e2, r2⟩ := clp_run R hs xs _ ρ' r
    refine ⟨o.toList ++ ys, ρ2, ?_, by rw [← List.append_assoc]; exact r2⟩
    unfold clp
    rw [e, bd_some, e2, bd_some]
    cases o <;> rfl
/-- range -/
theorem iotaD_eq (lo : Int) (n : Nat) : iotaD lo n = (List.range n).map fun (k : Nat) => PyData.int (lo + k) := by
  induction n generalizing lo with
  | zero => rfl
  | succ n ih =>
    rw [iotaD, ih, List.range_succ_eq_map, List.map_cons, List.map_map]
    congr 1
    · simp
    · refine List.map_congr_left fun k _ => ?_
      simp only [Function.comp]
      congr 1
      push_cast
      omega
theorem flp_rt {body : D → Env → M Fl} {x : D} {xs : List D} {ρ ρ' : Env} {r : Sl} (h : body x ρ = some (.ok (.rt r ρ'))) : flp body (x :: xs) ρ = some (.ok (.rt r ρ')) := by
  show bd (body x ρ) _ = _
  rw [h]; rfl
theorem flp_step {body : D → Env → M Fl} {x : D} {xs : List D} {ρ ρ' : Env} (h : body x ρ = some (.ok (.nx ρ'))) : flp body (x :: xs) ρ = flp body xs ρ' := by
  show bd (body x ρ) _ = _
  rw [h]; rfl
/-- a turn of a for loop -/
def turn (fl : Flags) (c : CallF) (tg : Tg) (body : Sts) (x : D) (ρ1 : Env) : M Fl := bd (opt (tgS tg x ρ1)) fun ρ2 => evSs fl c body ρ2
section
variable {fl : Flags} {c : CallF} {ρ ρ' : Env} {f : Fl}
theorem ss_step {s s2 : St} {ss : Sts} (h : evS fl c s ρ = some (.ok (.nx ρ'))) (h2 : evSs fl c (.cons s2 ss) ρ' = some (.ok f)) : evSs fl c (.cons s (.cons s2 ss)) ρ = some (.ok f) := by
  show bd (evS fl c s ρ) _ = _
  rw [h]
  exact h2
theorem ss_ret {s s2 : St} {ss : Sts} {r : Sl} (h : evS fl c s ρ = some (.ok (.rt r ρ'))) : evSs fl c (.cons s (.cons s2 ss)) ρ = some (.ok (.rt r ρ')) := by
  show bd (evS fl c s ρ) _ = _
  rw [h]
  rfl
theorem ss_one {s : St} (h : evS fl c s ρ = some (.ok f)) : evSs fl c (.cons s .nil) ρ = some (.ok f) := h
theorem s_if {t : Tx} {a b : Sts} {k : Bool} (h : evt fl c t ρ = some (.ok (k, ρ'))) (h2 : evSs fl c (if k then a else b) ρ' = some (.ok f)) : evS fl c (.iff t a b) ρ = some (.ok f) := by
  show bd (evt fl c t ρ) _ = _
  rw [h]
  cases k <;> exact h2
theorem s_ifs {t : Tx} {a b : Sts} (k : Bool) (h : evt fl c t ρ = some (.ok (k, ρ))) (h2 : evSs fl c (if k then a else b) ρ = some (.ok f)) : evS fl c (.iff t a b) ρ = some (.ok f) := s_if h h2
theorem s_for {tg : Tg} {it : Ix} {body : Sts} {xs : List D} (h : evi fl c it ρ = some (.ok (xs, ρ'))) (h2 : flp (turn fl c tg body) xs ρ' = some (.ok f)) : evS fl c (.fr tg it body) ρ = some (.ok f) := by
  show bd (evi fl c it ρ) _ = _
  rw [h]
  exact h2
theorem run_rt {d : Def} {ds : List D} {r : Sl} {os : List D} (hl : ds.length = d.flags.length) (h : evSs fl c d.body (startE d ds) = some (.ok (.rt r ρ'))) (ho : outsOf d.flags ρ' = some os) : runDef fl c d ds = some (.ok (r, os)) := by
  unfold runDef
  rw [if_pos hl, h, bd_some]
  simp only [ho]
theorem run_nx {d : Def} {ds : List D} {os : List D} (hl : ds.length = d.flags.length) (h : evSs fl c d.body (startE d ds) = some (.ok (.nx ρ'))) (ho : outsOf d.flags ρ' = some os) : runDef fl c d ds = some (.ok (.val .none, os)) := by
  unfold runDef
  rw [if_pos hl, h, bd_some]
  simp only [ho]
theorem e_comp {own : List Nat} {elt : Ex} {tg : Tg} {it : Ix} {ifs : Tx} {xs ys : List D} {ρ2 : Env} (hi : evi fl c it ρ = some (.ok (xs, ρ'))) (hc : clp (compTurn tg own (evt fl c ifs) (ev fl c elt)) xs ρ' = some (.ok (ys, ρ2))) : ev fl c (.comp own elt tg it ifs) ρ = some (.ok (.own false (.list ys), backE ρ' ρ2 own)) := by
  show bd (evi fl c it ρ) _ = _
  rw [hi, bd_some, hc]
  rfl
theorem turn_ok {tg : Tg} {body : Sts} {x : D} {ρ2 : Env} (h : tgS tg x ρ = some ρ2) (h2 : evSs fl c body ρ2 = some (.ok f)) : turn fl c tg body x ρ = some (.ok f) := by
  unfold turn
  rw [h, opt_some, bd_some]
  exact h2
theorem o_ex {e : Ex} {r : Sl} (h : ev fl c e ρ = some (.ok (r, ρ'))) (hv : evoOf e (ev fl c e) ρ = bd (ev fl c e ρ) fun p => rt (.d p.1.d, p.2)) : evoOf e (ev fl c e) ρ = some (.ok (.d r.d, ρ')) := by
  rw [hv, h]; rfl
theorem v_blt1 {b : Blt} {e : Ex} {o : Opd} {d : D} {r : Sl} (h : evoOf e (ev fl c e) ρ = some (.ok (o, ρ'))) (h2 : rdo ρ' o = some d) (h3 : bltD b [d] = some r) : ev fl c (.blt b (.cons e .nil)) ρ = some (.ok (r, ρ')) := by
  show bd (bd (evoOf e (ev fl c e) ρ) _) _ = _
  rw [h]
  simp only [bd, evos, rt, rdAll, h2, Option.bind_some, Option.map_some, h3, lift]
theorem v_bin {o : Bop} {a b : Ex} {oa ob : Opd} {x y : D} {r : Sl} {ρ1 : Env} (ha : evoOf a (ev fl c a) ρ = some (.ok (oa, ρ1))) (hb : evoOf b (ev fl c b) ρ1 = some (.ok (ob, ρ'))) (hx : rdo ρ' oa = some x) (hy : rdo ρ' ob = some y) (hr : binD o x y = some r) : ev fl c (.bin o a b) ρ = some (.ok (r, ρ')) := by
  show bd (evoOf a (ev fl c a) ρ) _ = _
  rw [ha, bd_some]
  show bd (evoOf b (ev fl c b) ρ1) _ = _
  rw [hb, bd_some]
  simp only [hx, hy, hr, lift, rt]
theorem s_ret {e : Ex} {r : Sl} (h : ev fl c e ρ = some (.ok (r, ρ'))) (hv : evrOf e (ev fl c e) ρ = ev fl c e ρ) : evS fl c (.ret e) ρ = some (.ok (.rt r ρ')) := by
  show bd (evrOf e (ev fl c e) ρ) _ = _
  rw [hv, h]; rfl
theorem s_asg {i : Nat} {e : Ex} {r : Sl} {ρ1 : Env} (h : ev fl c e ρ = some (.ok (r, ρ1))) (h2 : setSl ρ1 i r = some ρ') : evS fl c (.asg i e) ρ = some (.ok (.nx ρ')) := by
  show bd (ev fl c e ρ) _ = _
  rw [h, bd_some, h2]
  rfl
end
end Ev
end
section
set_option maxRecDepth 100000
set_option maxHeartbeats 1000000
/-! What every law brings along: the drawing of numbers, the comparison. -/
namespace Ev
open PySem
def dSame (i : Nat) : Def := ⟨[false, false], 3, (.cons (.iff (.or (.tr (.isi (.var 1) .bool)) (.tr (.isi (.var 0) .bool))) (.cons (.ret (.and (.isi (.var 1) .bool) (.and (.isi (.var 0) .bool) (.cmp .eq (.var 0) (.var 1))))) .nil) .nil) (.cons (.iff (.or (.tr (.isn false (.var 1))) (.tr (.isi (.var 1) .int))) (.cons (.ret (.and (.cmp .eq (.var 0) (.var 1)) (.or (.isn false (.var 1)) (.isi (.var 0) .int)))) .nil) .nil) (.cons (.iff (.tr (.isi (.var 1) .str)) (.cons (.ret (.and (.isi (.var 0) .str) (.cmp .eq (.var 0) (.var 1)))) .nil) .nil) (.cons (.iff (.or (.tr (.cmp .ne (.isi (.var 1) .list) (.isi (.var 0) .list))) (.tr (.cmp .ne (.isi (.var 1) .tuple) (.isi (.var 0) .tuple)))) (.cons (.ret (.con (.bool false))) .nil) .nil) (.cons (.iff (.tr (.cmp .ne (.blt .len (.cons (.var 0) .nil)) (.blt .len (.cons (.var 1) .nil)))) (.cons (.ret (.con (.bool false))) .nil) .nil) (.cons (.fr (.name 2) (.rng1 (.blt .len (.cons (.var 1) .nil))) (.cons (.iff (.not (.tr (.call i (.cons (.idx (.var 0) (.var 2)) (.cons (.idx (.var 1) (.var 2)) .nil))))) (.cons (.ret (.con (.bool false))) .nil) .nil) .nil)) (.cons (.ret (.con (.bool true))) .nil)))))))⟩
def dNumber : Def := ⟨[false, false], 3, (.cons (.asg 2 (.bin .add (.bin .mul (.blt .sum (.cons (.var 0) .nil)) (.con (.int 31))) (.bin .mul (.con (.int 1000003)) (.bin .add (.var 1) (.con (.int 1)))))) (.cons (.iff (.tr (.cmp .lt (.var 1) (.blt .len (.cons (.var 0) .nil)))) (.cons (.asg 2 (.idx (.var 0) (.var 1))) .nil) .nil) (.cons (.ret (.blt .abs (.cons (.var 2) .nil))) .nil)))⟩
def dDraws (i : Nat) : Def := ⟨[false, false, false, false], 9, (.cons (.asg 4 (.call i (.cons (.var 0) (.cons (.var 1) .nil)))) (.cons (.asg 5 (.lst .nil)) (.cons (.iff (.tr (.cmp .ge (.var 4) (.bin .pow (.con (.int 10)) (.con (.int 18))))) (.cons (.asg 4 (.bin .sub (.var 4) (.bin .pow (.con (.int 10)) (.con (.int 18))))) (.cons (.fr (.name 6) (.rng1 (.var 2)) (.cons (.drop (.mut .append 5 (.cons (.bin .mod (.var 4) (.var 3)) .nil))) (.cons (.asg 4 (.bin .fdiv (.var 4) (.var 3))) .nil))) (.cons (.ret (.var 5)) .nil))) .nil) (.cons (.asg 7 (.bin .add (.bin .mod (.var 4) (.con (.int 2147483647))) (.con (.int 1)))) (.cons (.fr (.name 6) (.rng1 (.var 2)) (.cons (.asg 7 (.bin .mod (.bin .add (.bin .add (.bin .mul (.var 7) (.con (.int 48271))) (.bin .mul (.con (.int 11)) (.var 6))) (.con (.int 7))) (.con (.int 2147483647)))) (.cons (.asg 8 (.bin .mod (.bin .add (.bin .add (.bin .mul (.var 7) (.var 7)) (.bin .mul (.con (.int 69621)) (.var 6))) (.con (.int 5))) (.con (.int 2147483629)))) (.cons (.drop (.mut .append 5 (.cons (.bin .mod (.bin .fdiv (.var 8) (.con (.int 64))) (.var 3)) .nil))) .nil)))) (.cons (.ret (.var 5)) .nil))))))⟩
def dPick : Def := ⟨[true], 1, (.cons (.iff (.tr (.cmp .eq (.blt .len (.cons (.var 0) .nil)) (.con (.int 0)))) (.cons (.ret (.con (.int 0))) .nil) .nil) (.cons (.ret (.mut .pop 0 .nil)) .nil))⟩
def dPicks (i : Nat) : Def := ⟨[false, false, false], 4, (.cons (.asg 3 (.call i (.cons (.var 0) (.cons (.var 1) (.cons (.var 2) (.cons (.con (.int 5040)) .nil)))))) (.cons (.drop (.mut .reverse 3 .nil)) (.cons (.ret (.var 3)) .nil)))⟩
def encI (ns : List Int) : D := .list (ns.map PyData.int)
theorem pick_ok {T : List Def} {i : Nat} (h : T[i]? = some dPick) (n : Nat) (ps : List Int) : call T (n + 1) i [encI ps] = some (.ok (.val (.int (ps.getLast?.getD 0)), [encI ps.dropLast])) := by
  rw [call_at h]
  rcases List.eq_nil_or_concat ps with rfl | ⟨qs, q, rfl⟩
  · simp [dPick, encI, runDef, startE, evSs, evS, evt, ev, evf, evos, eva, evx, evi, evoOf, evlOf, evrOf, rdo, rdAll, lentOf, ownAll, tempOk, backIn, setSl, setSls, tgS, outsOf, Sl.d, rt, lift, opt, bd, bltD, one, lenD, sumD, absD, binD, cmpD, eqD, eqOk, truD, idxD, PyData.eqv, SeqAt.shaped, PyData.canLay0, PyData.depth, mutD, mutTy, tyD]
  · have hq : ¬ ((qs.length : Int) + 1 = 0) := by omega
    simp [dPick, encI, runDef, startE, evSs, evS, evt, ev, evf, evos, eva, evx, evi, evoOf, evlOf, evrOf, rdo, rdAll, lentOf, ownAll, tempOk, backIn, setSl, setSls, tgS, outsOf, Sl.d, rt, lift, opt, bd, bltD, one, lenD, sumD, absD, binD, cmpD, eqD, eqOk, truD, idxD, PyData.eqv, SeqAt.shaped, PyData.canLay0, PyData.depth, mutD, mutTy, tyD, hq]
theorem intsD_map (ns : List Int) : intsD (ns.map PyData.int) = some ns := by
  induction ns with
  | nil => rfl
  | cons n ns ih => simp [intsD, ih]
theorem atD_nat (xs : List D) (k : Nat) : atD xs (k : Int) = xs[k]? := by
  unfold atD L2.atI L2.ixN
  by_cases h : k < xs.length
  · rw [if_pos (by omega), if_pos (by omega)]
    simp
  · rw [if_pos (by omega), if_neg (by omega)]
    rw [List.getElem?_eq_none (by omega)]; rfl
theorem number_ok {T : List Def} {i : Nat} (h : T[i]? = some dNumber) (n : Nat) (ns : List Int) (k : Nat) : ∃ m : Int, 0 ≤ m ∧ call T (n + 1) i [encI ns, .int k] = some (.ok (.val (.int m), [])) := by
  rw [call_at h]
  have h31 : (31 : Int).natAbs < 2 ^ 64 := by decide
  have h33 : (1000003 : Int).natAbs < 2 ^ 64 := by decide
  by_cases hk : k < ns.length
  · have hk' : (k : Int) < ns.length := by omega
    have ha : atD (ns.map PyData.int) (k : Int) = some (.int ns[k]) := by
      rw [atD_nat, List.getElem?_map, List.getElem?_eq_getElem hk]; rfl
    refine ⟨if ns[k] < 0 then -ns[k] else ns[k], by split <;> omega, ?_⟩
    simp [dNumber, encI, runDef, startE, evSs, evS, evt, ev, evf, evos, eva, evx, evi, evoOf, evlOf, evrOf, rdo, rdAll, lentOf, ownAll, tempOk, backIn, setSl, setSls, tgS, outsOf, Sl.d, rt, lift, opt, bd, bltD, one, lenD, sumD, absD, binD, cmpD, eqD, eqOk, truD, idxD, PyData.eqv, SeqAt.shaped, PyData.canLay0, PyData.depth, mutD, mutTy, tyD, intsD_map, hk', ha]
  · have hk' : ¬ (k : Int) < ns.length := by omega
    refine ⟨if ns.sum * 31 + 1000003 * ((k : Int) + 1) < 0 then -(ns.sum * 31 + 1000003 * ((k : Int) + 1)) else ns.sum * 31 + 1000003 * ((k : Int) + 1), by split <;> omega, ?_⟩
    simp [dNumber, encI, runDef, startE, evSs, evS, evt, ev, evf, evos, eva, evx, evi, evoOf, evlOf, evrOf, rdo, rdAll, lentOf, ownAll, tempOk, backIn, setSl, setSls, tgS, outsOf, Sl.d, rt, lift, opt, bd, bltD, one, lenD, sumD, absD, binD, cmpD, eqD, eqOk, truD, idxD, PyData.eqv, SeqAt.shaped, PyData.canLay0, PyData.depth, mutD, mutTy, tyD, intsD_map, hk']
theorem append_map (xs : List Int) (x : Int) : xs.map PyData.int ++ [PyData.int x] = (xs ++ [x]).map PyData.int := by simp
theorem draws_ok {T : List Def} {i j : Nat} (h : T[i]? = some (dDraws j)) (hj : T[j]? = some dNumber) (n : Nat) (ns : List Int) (k count : Nat) (many : Int) (hc : count ≤ 1000) (h0 : 0 < many) (h1 : many < 1073741824) :
    ∃ xs : List Int, xs.length = count ∧ (∀ x ∈ xs, 0 ≤ x ∧ x < many) ∧ call T (n + 2) i [encI ns, .int k, .int count, .int many] = some (.ok (.own false (encI xs), [])) := by
  obtain ⟨m, hm, e⟩ := number_ok hj n ns k
  rw [call_at h]
  have fj : flagsOf T j = [false, false] := flags_at hj
  have hz : (count : Int) ≤ sizeLine ∧ (-1000000000 : Int) ≤ count := by rw [sizeLine_eq]; constructor <;> omega
  have hio : (iotaD 0 count).length = count := by rw [iotaD_eq]; simp
  have hii : ∀ x ∈ iotaD 0 count, ∃ i : Int, x = .int i := by rw [iotaD_eq]; simp
  generalize hfl : flagsOf T = fl at *
  generalize hcc : call T (n + 1) = c at *
  by_cases hb : (1000000000000000000 : Int) ≤ m
  · obtain ⟨f, e2, m', xs, v, rfl, hx, hlen⟩ : ∃ f, flp (turn fl c (.name 6) (.cons (.drop (.mut .append 5 (.cons (.bin .mod (.var 4) (.var 3)) .nil))) (.cons (.asg 4 (.bin .fdiv (.var 4) (.var 3))) .nil))) (iotaD 0 count)
        [some (.val (encI ns)), some (.val (.int k)), some (.val (.int count)), some (.val (.int many)), some (.val (.int (m - 1000000000000000000))), some (.own false (encI [])), none, none, none] = some (.ok f) ∧
        (∃ (m' : Int) (xs : List Int) (v : Option D), f = .nx [some (.val (encI ns)), some (.val (.int k)), some (.val (.int count)), some (.val (.int many)), some (.val (.int m')), some (.own false (encI xs)), v.map Sl.val, none, none] ∧ (∀ x ∈ xs, 0 ≤ x ∧ x < many) ∧ xs.length = count) := by
      refine flp_run (fun rest ρ => ∃ (m' : Int) (xs : List Int) (v : Option D), ρ = [some (.val (encI ns)), some (.val (.int k)), some (.val (.int count)), some (.val (.int many)), some (.val (.int m')), some (.own false (encI xs)), v.map Sl.val, none, none] ∧ (∀ x ∈ xs, 0 ≤ x ∧ x < many) ∧ xs.length + rest.length = count) _ ?_ ?_ _ _ ⟨_, [], none, rfl, by simp, by rw [hio]; simp⟩
      · rintro ρ ⟨m', xs, v, rfl, hx, hlen⟩
        exact ⟨m', xs, v, rfl, hx, hlen⟩
      rintro x rest ρ ⟨m', xs, v, rfl, hx, hlen⟩
      have hs : xs.length < sizeLine := by rw [sizeLine_eq]; simp at hlen; omega
      refine .inl ⟨[some (.val (encI ns)), some (.val (.int k)), some (.val (.int count)), some (.val (.int many)), some (.val (.int (m' / many))), some (.own false (encI (xs ++ [m' % many]))), some (.val x), none, none], .inl ?_, m' / many, xs ++ [m' % many], some x, rfl, ?_, ?_⟩
      · cases v <;> simp [turn, encI, runDef, startE, evSs, evS, evt, ev, evf, evos, eva, evx, evi, evoOf, evlOf, evrOf, rdo, rdAll, lentOf, ownAll, tempOk, backIn, setSl, setSls, tgS, outsOf, Sl.d, rt, lift, opt, bd, bltD, one, lenD, sumD, absD, binD, cmpD, eqD, eqOk, truD, idxD, PyData.eqv, SeqAt.shaped, PyData.canLay0, PyData.depth, mutD, mutTy, tyD, h0, h1, hs]
      · intro y hy
        rcases List.mem_append.mp hy with hy | hy
        · exact hx y hy
        · have e : y = m' % many := by simpa using hy
          rw [e]
          exact ⟨Int.emod_nonneg _ (by omega), Int.emod_lt_of_pos _ h0⟩
      · simp at hlen ⊢; omega
    refine ⟨xs, hlen, hx, ?_⟩
    refine run_rt rfl (ss_step (ρ' := [some (.val (encI ns)), some (.val (.int k)), some (.val (.int count)), some (.val (.int many)), some (.val (.int m)), none, none, none, none]) ?_
      (ss_step (ρ' := [some (.val (encI ns)), some (.val (.int k)), some (.val (.int count)), some (.val (.int many)), some (.val (.int m)), some (.own false (encI [])), none, none, none]) ?_ (ss_ret (s_ifs true ?_ (ss_step (ρ' := [some (.val (encI ns)), some (.val (.int k)), some (.val (.int count)), some (.val (.int many)), some (.val (.int (m - 1000000000000000000))), some (.own false (encI [])), none, none, none]) ?_ (ss_step (s_for ?_ e2) (ss_one rfl))))))) ?_
    · simp [dDraws, runDef, startE, evSs, evS, evt, ev, evf, evos, eva, evx, evi, evoOf, evlOf, evrOf, rdo, rdAll, lentOf, ownAll, tempOk, backIn, setSl, setSls, tgS, outsOf, Sl.d, rt, lift, opt, bd, bltD, one, lenD, sumD, absD, binD, cmpD, eqD, eqOk, truD, idxD, PyData.eqv, SeqAt.shaped, PyData.canLay0, PyData.depth, mutD, mutTy, tyD, fj, e]
    · simp [runDef, startE, evSs, evS, evt, ev, evf, evos, eva, evx, evi, evoOf, evlOf, evrOf, rdo, rdAll, lentOf, ownAll, tempOk, backIn, setSl, setSls, tgS, outsOf, Sl.d, rt, lift, opt, bd, bltD, one, lenD, sumD, absD, binD, cmpD, eqD, eqOk, truD, idxD, PyData.eqv, SeqAt.shaped, PyData.canLay0, PyData.depth, mutD, mutTy, tyD, encI]
    · simp [runDef, startE, evSs, evS, evt, ev, evf, evos, eva, evx, evi, evoOf, evlOf, evrOf, rdo, rdAll, lentOf, ownAll, tempOk, backIn, setSl, setSls, tgS, outsOf, Sl.d, rt, lift, opt, bd, bltD, one, lenD, sumD, absD, binD, cmpD, eqD, eqOk, truD, idxD, PyData.eqv, SeqAt.shaped, PyData.canLay0, PyData.depth, mutD, mutTy, tyD, hb]
    · simp [runDef, startE, evSs, evS, evt, ev, evf, evos, eva, evx, evi, evoOf, evlOf, evrOf, rdo, rdAll, lentOf, ownAll, tempOk, backIn, setSl, setSls, tgS, outsOf, Sl.d, rt, lift, opt, bd, bltD, one, lenD, sumD, absD, binD, cmpD, eqD, eqOk, truD, idxD, PyData.eqv, SeqAt.shaped, PyData.canLay0, PyData.depth, mutD, mutTy, tyD]
    · simp [runDef, startE, evSs, evS, evt, ev, evf, evos, eva, evx, evi, evoOf, evlOf, evrOf, rdo, rdAll, lentOf, ownAll, tempOk, backIn, setSl, setSls, tgS, outsOf, Sl.d, rt, lift, opt, bd, bltD, one, lenD, sumD, absD, binD, cmpD, eqD, eqOk, truD, idxD, PyData.eqv, SeqAt.shaped, PyData.canLay0, PyData.depth, mutD, mutTy, tyD, hz]
    · rfl
  · obtain ⟨f, e2, s', xs, v, u, rfl, hx, hlen⟩ : ∃ f, flp (turn fl c (.name 6) (.cons (.asg 7 (.bin .mod (.bin .add (.bin .add (.bin .mul (.var 7) (.con (.int 48271))) (.bin .mul (.con (.int 11)) (.var 6))) (.con (.int 7))) (.con (.int 2147483647)))) (.cons (.asg 8 (.bin .mod (.bin .add (.bin .add (.bin .mul (.var 7) (.var 7)) (.bin .mul (.con (.int 69621)) (.var 6))) (.con (.int 5))) (.con (.int 2147483629)))) (.cons (.drop (.mut .append 5 (.cons (.bin .mod (.bin .fdiv (.var 8) (.con (.int 64))) (.var 3)) .nil))) .nil)))) (iotaD 0 count)
        [some (.val (encI ns)), some (.val (.int k)), some (.val (.int count)), some (.val (.int many)), some (.val (.int m)), some (.own false (encI [])), none, some (.val (.int (m % 2147483647 + 1))), none] = some (.ok f) ∧
        (∃ (s' : Int) (xs : List Int) (v u : Option D), f = .nx [some (.val (encI ns)), some (.val (.int k)), some (.val (.int count)), some (.val (.int many)), some (.val (.int m)), some (.own false (encI xs)), v.map Sl.val, some (.val (.int s')), u.map Sl.val] ∧ (∀ x ∈ xs, 0 ≤ x ∧ x < many) ∧ xs.length = count) := by
      refine flp_run (fun rest ρ => ∃ (s' : Int) (xs : List Int) (v u : Option D), ρ = [some (.val (encI ns)), some (.val (.int k)), some (.val (.int count)), some (.val (.int many)), some (.val (.int m)), some (.own false (encI xs)), v.map Sl.val, some (.val (.int s')), u.map Sl.val] ∧ (∀ x ∈ xs, 0 ≤ x ∧ x < many) ∧ xs.length + rest.length = count ∧ ∀ x ∈ rest, ∃ i : Int, x = .int i) _ ?_ ?_ _ _ ⟨_, [], none, none, rfl, by simp, by rw [hio]; simp, hii⟩
      · rintro ρ ⟨s', xs, v, u, rfl, hx, hlen, _⟩
        exact ⟨s', xs, v, u, rfl, hx, hlen⟩
      rintro x rest ρ ⟨s', xs, v, u, rfl, hx, hlen, hi⟩
      obtain ⟨a, rfl⟩ := hi x List.mem_cons_self
      have hs : xs.length < sizeLine := by rw [sizeLine_eq]; simp at hlen; omega
      obtain ⟨t, ht⟩ : ∃ t, t = (s' * 48271 + 11 * a + 7) % 2147483647 := ⟨_, rfl⟩
      have t0 : 0 ≤ t := by rw [ht]; omega
      have t1 : t < 2147483647 := by rw [ht]; omega
      have tn : t.natAbs < 18446744073709551616 := by omega
      obtain ⟨y, hy⟩ : ∃ y, y = (t * t + 69621 * a + 5) % 2147483629 / 64 % many := ⟨_, rfl⟩
      refine .inl ⟨[some (.val (encI ns)), some (.val (.int k)), some (.val (.int count)), some (.val (.int many)), some (.val (.int m)), some (.own false (encI (xs ++ [y]))), some (.val (.int a)), some (.val (.int t)), some (.val (.int ((t * t + 69621 * a + 5) % 2147483629)))], .inl ?_, t, xs ++ [y], some (.int a), some (.int ((t * t + 69621 * a + 5) % 2147483629)), rfl, ?_, ?_, fun z hz => hi z (List.mem_cons_of_mem _ hz)⟩
      · cases v <;> cases u <;> simp [turn, encI, runDef, startE, evSs, evS, evt, ev, evf, evos, eva, evx, evi, evoOf, evlOf, evrOf, rdo, rdAll, lentOf, ownAll, tempOk, backIn, setSl, setSls, tgS, outsOf, Sl.d, rt, lift, opt, bd, bltD, one, lenD, sumD, absD, binD, cmpD, eqD, eqOk, truD, idxD, PyData.eqv, SeqAt.shaped, PyData.canLay0, PyData.depth, mutD, mutTy, tyD, h0, h1, hs, ← ht, tn, ← hy]
      · intro z hz
        rcases List.mem_append.mp hz with hz | hz
        · exact hx z hz
        · have e : z = y := by simpa using hz
          rw [e, hy]
          exact ⟨Int.emod_nonneg _ (by omega), Int.emod_lt_of_pos _ h0⟩
      · simp at hlen ⊢; omega
    refine ⟨xs, hlen, hx, ?_⟩
    refine run_rt rfl (ss_step (ρ' := [some (.val (encI ns)), some (.val (.int k)), some (.val (.int count)), some (.val (.int many)), some (.val (.int m)), none, none, none, none]) ?_
      (ss_step (ρ' := [some (.val (encI ns)), some (.val (.int k)), some (.val (.int count)), some (.val (.int many)), some (.val (.int m)), some (.own false (encI [])), none, none, none]) ?_ (ss_step (s_ifs false ?_ rfl) (ss_step (ρ' := [some (.val (encI ns)), some (.val (.int k)), some (.val (.int count)), some (.val (.int many)), some (.val (.int m)), some (.own false (encI [])), none, some (.val (.int (m % 2147483647 + 1))), none]) ?_ (ss_step (s_for ?_ e2) (ss_one rfl)))))) ?_
    · simp [dDraws, runDef, startE, evSs, evS, evt, ev, evf, evos, eva, evx, evi, evoOf, evlOf, evrOf, rdo, rdAll, lentOf, ownAll, tempOk, backIn, setSl, setSls, tgS, outsOf, Sl.d, rt, lift, opt, bd, bltD, one, lenD, sumD, absD, binD, cmpD, eqD, eqOk, truD, idxD, PyData.eqv, SeqAt.shaped, PyData.canLay0, PyData.depth, mutD, mutTy, tyD, fj, e]
    · simp [runDef, startE, evSs, evS, evt, ev, evf, evos, eva, evx, evi, evoOf, evlOf, evrOf, rdo, rdAll, lentOf, ownAll, tempOk, backIn, setSl, setSls, tgS, outsOf, Sl.d, rt, lift, opt, bd, bltD, one, lenD, sumD, absD, binD, cmpD, eqD, eqOk, truD, idxD, PyData.eqv, SeqAt.shaped, PyData.canLay0, PyData.depth, mutD, mutTy, tyD, encI]
    · simp [runDef, startE, evSs, evS, evt, ev, evf, evos, eva, evx, evi, evoOf, evlOf, evrOf, rdo, rdAll, lentOf, ownAll, tempOk, backIn, setSl, setSls, tgS, outsOf, Sl.d, rt, lift, opt, bd, bltD, one, lenD, sumD, absD, binD, cmpD, eqD, eqOk, truD, idxD, PyData.eqv, SeqAt.shaped, PyData.canLay0, PyData.depth, mutD, mutTy, tyD, hb]
    · simp [runDef, startE, evSs, evS, evt, ev, evf, evos, eva, evx, evi, evoOf, evlOf, evrOf, rdo, rdAll, lentOf, ownAll, tempOk, backIn, setSl, setSls, tgS, outsOf, Sl.d, rt, lift, opt, bd, bltD, one, lenD, sumD, absD, binD, cmpD, eqD, eqOk, truD, idxD, PyData.eqv, SeqAt.shaped, PyData.canLay0, PyData.depth, mutD, mutTy, tyD]
    · simp [runDef, startE, evSs, evS, evt, ev, evf, evos, eva, evx, evi, evoOf, evlOf, evrOf, rdo, rdAll, lentOf, ownAll, tempOk, backIn, setSl, setSls, tgS, outsOf, Sl.d, rt, lift, opt, bd, bltD, one, lenD, sumD, absD, binD, cmpD, eqD, eqOk, truD, idxD, PyData.eqv, SeqAt.shaped, PyData.canLay0, PyData.depth, mutD, mutTy, tyD, hz]
    · rfl
theorem picks_ok {T : List Def} {i j l : Nat} (h : T[i]? = some (dPicks j)) (hj : T[j]? = some (dDraws l)) (hl : T[l]? = some dNumber) (n : Nat) (ns : List Int) (k count : Nat) (hc : count ≤ 1000) :
    ∃ xs : List Int, xs.length = count ∧ (∀ x ∈ xs, 0 ≤ x ∧ x < 5040) ∧ call T (n + 3) i [encI ns, .int k, .int count] = some (.ok (.own false (encI xs), [])) := by
  obtain ⟨xs, h1, h2, e⟩ := draws_ok hj hl n ns k count 5040 hc (by decide) (by decide)
  have fj : flagsOf T j = [false, false, false, false] := flags_at hj
  rw [call_at h]
  refine ⟨xs.reverse, by simpa using h1, fun x hx => h2 x (by simpa using hx), ?_⟩
  simp only [encI] at e
  simp [dPicks, encI, runDef, startE, evSs, evS, evt, ev, evf, evos, eva, evx, evi, evoOf, evlOf, evrOf, rdo, rdAll, lentOf, ownAll, tempOk, backIn, setSl, setSls, tgS, outsOf, Sl.d, rt, lift, opt, bd, bltD, one, lenD, sumD, absD, binD, cmpD, eqD, eqOk, truD, idxD, PyData.eqv, SeqAt.shaped, PyData.canLay0, PyData.depth, mutD, mutTy, tyD, fj, e]
/-- data that _law_same can walk, m deep -/
def okS : Nat → D → Bool
  | _, .none => true
  | _, .bool _ => true
  | _, .int _ => true
  | _, .str x => PyData.strOk x
  | n + 1, .list ds => decide (ds.length ≤ sizeLine) && ds.all (okS n)
  | n + 1, .tuple ds => decide (ds.length ≤ sizeLine) && ds.all (okS n)
  | _, _ => false
theorem iotaD_cons {k n : Nat} (h : k < n) : iotaD (k : Int) (n - k) = .int k :: iotaD ((k + 1 : Nat) : Int) (n - (k + 1)) := by
  have e : n - k = (n - (k + 1)) + 1 := by omega
  rw [e, iotaD]
  congr 1
theorem same_loop {T : List Def} {i : Nat} {d : D} {ds : List D} (h : T[i]? = some (dSame i)) (n : Nat) (hd : d = .list ds ∨ d = .tuple ds) (ih : ∀ x ∈ ds, call T n i [x, x] = some (.ok (.val (.bool true), []))) :
    ∃ f, flp (turn (flagsOf T) (call T n) (.name 2) (.cons (.iff (.not (.tr (.call i (.cons (.idx (.var 0) (.var 2)) (.cons (.idx (.var 1) (.var 2)) .nil))))) (.cons (.ret (.con (.bool false))) .nil) .nil) .nil)) (iotaD 0 ds.length) [some (.val d), some (.val d), none] = some (.ok f) ∧ ∃ v : Option D, f = .nx [some (.val d), some (.val d), v.map Sl.val] := by
  have fj : flagsOf T i = [false, false] := flags_at h
  refine flp_run (fun rest ρ => ∃ (k : Nat) (v : Option D), k ≤ ds.length ∧ rest = iotaD k (ds.length - k) ∧ ρ = [some (.val d), some (.val d), v.map Sl.val]) _ ?_ ?_ _ _ ⟨0, none, Nat.zero_le _, rfl, rfl⟩
  · rintro ρ ⟨k, v, _, _, rfl⟩
    exact ⟨v, rfl⟩
  · rintro x rest ρ ⟨k, v, hk, hr, rfl⟩
    have hlt : k < ds.length := by
      by_cases z : k < ds.length
      · exact z
      · have e : ds.length - k = 0 := by omega
        rw [e] at hr; cases hr
    rw [iotaD_cons hlt] at hr
    cases hr
    refine .inl ⟨[some (.val d), some (.val d), some (.val (.int k))], .inl ?_, k + 1, some (.int k), hlt, rfl, rfl⟩
    have ix : idxD d (.int k) = some ds[k] := by
      rcases hd with rfl | rfl <;> exact (atD_nat ds k).trans (List.getElem?_eq_getElem hlt)
    have e := ih ds[k] (List.getElem_mem hlt)
    obtain ⟨g, hg⟩ : ∃ g, g = idxD := ⟨_, rfl⟩
    rw [← hg] at ix
    cases v <;> simp [turn, runDef, startE, evSs, evS, evt, ev, evf, evos, eva, evx, evi, evoOf, evlOf, evrOf, rdo, rdAll, lentOf, ownAll, tempOk, backIn, setSl, setSls, tgS, outsOf, Sl.d, rt, lift, opt, bd, truD, fj, e, ← hg, ix]
theorem same_ok {T : List Def} {i : Nat} (h : T[i]? = some (dSame i)) : ∀ (m : Nat) (d : D), okS m d = true → ∀ n, m < n → call T n i [d, d] = some (.ok (.val (.bool true), []))
  | m, .none, _, n + 1, _ => by
    rw [call_at h]
    simp [dSame, isiD, runDef, startE, evSs, evS, evt, ev, evf, evos, eva, evx, evi, evoOf, evlOf, evrOf, rdo, rdAll, lentOf, ownAll, tempOk, backIn, setSl, setSls, tgS, outsOf, Sl.d, rt, lift, opt, bd, bltD, one, lenD, sumD, absD, binD, cmpD, eqD, eqOk, truD, idxD, PyData.eqv, SeqAt.shaped, PyData.canLay0, PyData.depth, mutD, mutTy, tyD]
  | m, .bool b, _, n + 1, _ => by
    rw [call_at h]
    simp [dSame, isiD, runDef, startE, evSs, evS, evt, ev, evf, evos, eva, evx, evi, evoOf, evlOf, evrOf, rdo, rdAll, lentOf, ownAll, tempOk, backIn, setSl, setSls, tgS, outsOf, Sl.d, rt, lift, opt, bd, bltD, one, lenD, sumD, absD, binD, cmpD, eqD, eqOk, truD, idxD, PyData.eqv, SeqAt.shaped, PyData.canLay0, PyData.depth, mutD, mutTy, tyD]
  | m, .int b, _, n + 1, _ => by
    rw [call_at h]
    simp [dSame, isiD, runDef, startE, evSs, evS, evt, ev, evf, evos, eva, evx, evi, evoOf, evlOf, evrOf, rdo, rdAll, lentOf, ownAll, tempOk, backIn, setSl, setSls, tgS, outsOf, Sl.d, rt, lift, opt, bd, bltD, one, lenD, sumD, absD, binD, cmpD, eqD, eqOk, truD, idxD, PyData.eqv, SeqAt.shaped, PyData.canLay0, PyData.depth, mutD, mutTy, tyD]
  | m, .str b, hs, n + 1, _ => by
    have hs' : PyData.strOk b = true := by cases m <;> simpa [okS] using hs
    rw [call_at h]
    simp [dSame, isiD, runDef, startE, evSs, evS, evt, ev, evf, evos, eva, evx, evi, evoOf, evlOf, evrOf, rdo, rdAll, lentOf, ownAll, tempOk, backIn, setSl, setSls, tgS, outsOf, Sl.d, rt, lift, opt, bd, bltD, one, lenD, sumD, absD, binD, cmpD, eqD, eqOk, truD, idxD, PyData.eqv, SeqAt.shaped, PyData.canLay0, PyData.depth, mutD, mutTy, tyD, hs']
  | m + 1, .list ds, hs, n + 1, hn => by
    simp only [okS, Bool.and_eq_true, decide_eq_true_eq] at hs
    obtain ⟨f, e, v, rfl⟩ := same_loop (d := .list ds) (ds := ds) h n (.inl rfl) fun x hx => same_ok h m x (List.all_eq_true.mp hs.2 x hx) n (by omega)
    rw [call_at h]
    refine run_rt (ρ' := [some (.val (.list ds)), some (.val (.list ds)), v.map Sl.val]) rfl (ss_step (s_ifs false ?_ rfl) (ss_step (s_ifs false ?_ rfl) (ss_step (s_ifs false ?_ rfl) (ss_step (s_ifs false ?_ rfl) (ss_step (s_ifs false ?_ rfl) (ss_step (s_for ?_ e) (ss_one rfl))))))) rfl
    · simp [dSame, isiD, runDef, startE, evSs, evS, evt, ev, evf, evos, eva, evx, evi, evoOf, evlOf, evrOf, rdo, rdAll, lentOf, ownAll, tempOk, backIn, setSl, setSls, tgS, outsOf, Sl.d, rt, lift, opt, bd, bltD, one, lenD, sumD, absD, binD, cmpD, eqD, eqOk, truD, idxD, PyData.eqv, SeqAt.shaped, PyData.canLay0, PyData.depth, mutD, mutTy, tyD]
    · simp [dSame, isiD, runDef, startE, evSs, evS, evt, ev, evf, evos, eva, evx, evi, evoOf, evlOf, evrOf, rdo, rdAll, lentOf, ownAll, tempOk, backIn, setSl, setSls, tgS, outsOf, Sl.d, rt, lift, opt, bd, bltD, one, lenD, sumD, absD, binD, cmpD, eqD, eqOk, truD, idxD, PyData.eqv, SeqAt.shaped, PyData.canLay0, PyData.depth, mutD, mutTy, tyD]
    · simp [dSame, isiD, runDef, startE, evSs, evS, evt, ev, evf, evos, eva, evx, evi, evoOf, evlOf, evrOf, rdo, rdAll, lentOf, ownAll, tempOk, backIn, setSl, setSls, tgS, outsOf, Sl.d, rt, lift, opt, bd, bltD, one, lenD, sumD, absD, binD, cmpD, eqD, eqOk, truD, idxD, PyData.eqv, SeqAt.shaped, PyData.canLay0, PyData.depth, mutD, mutTy, tyD]
    · simp [dSame, isiD, runDef, startE, evSs, evS, evt, ev, evf, evos, eva, evx, evi, evoOf, evlOf, evrOf, rdo, rdAll, lentOf, ownAll, tempOk, backIn, setSl, setSls, tgS, outsOf, Sl.d, rt, lift, opt, bd, bltD, one, lenD, sumD, absD, binD, cmpD, eqD, eqOk, truD, idxD, PyData.eqv, SeqAt.shaped, PyData.canLay0, PyData.depth, mutD, mutTy, tyD]
    · simp [dSame, isiD, runDef, startE, evSs, evS, evt, ev, evf, evos, eva, evx, evi, evoOf, evlOf, evrOf, rdo, rdAll, lentOf, ownAll, tempOk, backIn, setSl, setSls, tgS, outsOf, Sl.d, rt, lift, opt, bd, bltD, one, lenD, sumD, absD, binD, cmpD, eqD, eqOk, truD, idxD, PyData.eqv, SeqAt.shaped, PyData.canLay0, PyData.depth, mutD, mutTy, tyD]
    · have hz : (ds.length : Int) ≤ sizeLine := by omega
      have hz2 : (-1000000000 : Int) ≤ ds.length := by omega
      simp [dSame, isiD, runDef, startE, evSs, evS, evt, ev, evf, evos, eva, evx, evi, evoOf, evlOf, evrOf, rdo, rdAll, lentOf, ownAll, tempOk, backIn, setSl, setSls, tgS, outsOf, Sl.d, rt, lift, opt, bd, bltD, one, lenD, sumD, absD, binD, cmpD, eqD, eqOk, truD, idxD, PyData.eqv, SeqAt.shaped, PyData.canLay0, PyData.depth, mutD, mutTy, tyD, hz, hz2]
  | m + 1, .tuple ds, hs, n + 1, hn => by
    simp only [okS, Bool.and_eq_true, decide_eq_true_eq] at hs
    obtain ⟨f, e, v, rfl⟩ := same_loop (d := .tuple ds) (ds := ds) h n (.inr rfl) fun x hx => same_ok h m x (List.all_eq_true.mp hs.2 x hx) n (by omega)
    rw [call_at h]
    refine run_rt (ρ' := [some (.val (.tuple ds)), some (.val (.tuple ds)), v.map Sl.val]) rfl (ss_step (s_ifs false ?_ rfl) (ss_step (s_ifs false ?_ rfl) (ss_step (s_ifs false ?_ rfl) (ss_step (s_ifs false ?_ rfl) (ss_step (s_ifs false ?_ rfl) (ss_step (s_for ?_ e) (ss_one rfl))))))) rfl
    · simp [dSame, isiD, runDef, startE, evSs, evS, evt, ev, evf, evos, eva, evx, evi, evoOf, evlOf, evrOf, rdo, rdAll, lentOf, ownAll, tempOk, backIn, setSl, setSls, tgS, outsOf, Sl.d, rt, lift, opt, bd, bltD, one, lenD, sumD, absD, binD, cmpD, eqD, eqOk, truD, idxD, PyData.eqv, SeqAt.shaped, PyData.canLay0, PyData.depth, mutD, mutTy, tyD]
    · simp [dSame, isiD, runDef, startE, evSs, evS, evt, ev, evf, evos, eva, evx, evi, evoOf, evlOf, evrOf, rdo, rdAll, lentOf, ownAll, tempOk, backIn, setSl, setSls, tgS, outsOf, Sl.d, rt, lift, opt, bd, bltD, one, lenD, sumD, absD, binD, cmpD, eqD, eqOk, truD, idxD, PyData.eqv, SeqAt.shaped, PyData.canLay0, PyData.depth, mutD, mutTy, tyD]
    · simp [dSame, isiD, runDef, startE, evSs, evS, evt, ev, evf, evos, eva, evx, evi, evoOf, evlOf, evrOf, rdo, rdAll, lentOf, ownAll, tempOk, backIn, setSl, setSls, tgS, outsOf, Sl.d, rt, lift, opt, bd, bltD, one, lenD, sumD, absD, binD, cmpD, eqD, eqOk, truD, idxD, PyData.eqv, SeqAt.shaped, PyData.canLay0, PyData.depth, mutD, mutTy, tyD]
    · simp [dSame, isiD, runDef, startE, evSs, evS, evt, ev, evf, evos, eva, evx, evi, evoOf, evlOf, evrOf, rdo, rdAll, lentOf, ownAll, tempOk, backIn, setSl, setSls, tgS, outsOf, Sl.d, rt, lift, opt, bd, bltD, one, lenD, sumD, absD, binD, cmpD, eqD, eqOk, truD, idxD, PyData.eqv, SeqAt.shaped, PyData.canLay0, PyData.depth, mutD, mutTy, tyD]
    · simp [dSame, isiD, runDef, startE, evSs, evS, evt, ev, evf, evos, eva, evx, evi, evoOf, evlOf, evrOf, rdo, rdAll, lentOf, ownAll, tempOk, backIn, setSl, setSls, tgS, outsOf, Sl.d, rt, lift, opt, bd, bltD, one, lenD, sumD, absD, binD, cmpD, eqD, eqOk, truD, idxD, PyData.eqv, SeqAt.shaped, PyData.canLay0, PyData.depth, mutD, mutTy, tyD]
    · have hz : (ds.length : Int) ≤ sizeLine := by omega
      have hz2 : (-1000000000 : Int) ≤ ds.length := by omega
      simp [dSame, isiD, runDef, startE, evSs, evS, evt, ev, evf, evos, eva, evx, evi, evoOf, evlOf, evrOf, rdo, rdAll, lentOf, ownAll, tempOk, backIn, setSl, setSls, tgS, outsOf, Sl.d, rt, lift, opt, bd, bltD, one, lenD, sumD, absD, binD, cmpD, eqD, eqOk, truD, idxD, PyData.eqv, SeqAt.shaped, PyData.canLay0, PyData.depth, mutD, mutTy, tyD, hz, hz2]
  | 0, .list ds, hs, _, _ => by simp [okS] at hs
  | 0, .tuple ds, hs, _, _ => by simp [okS] at hs
  | 0, .dict ds, hs, _, _ => by simp [okS] at hs
  | m + 1, .dict ds, hs, _, _ => by simp [okS] at hs
end Ev
end
section
set_option maxHeartbeats 200000
set_option maxRecDepth 100000
/-! Reckoning with the evaluator: steps of expressions and tests. -/
namespace Ev
open PySem
section
variable {fl : Flags} {c : CallF} {ρ ρ' ρ1 ρ2 : Env}
theorem v_val {i : Nat} {d : D} (h : ρ[i]? = some (some (.val d))) : ev fl c (.var i) ρ = some (.ok (.val d, ρ)) := by
  unfold ev; rw [h]
theorem v_own {i : Nat} {d : D} (h : ρ[i]? = some (some (.own false d))) : ev fl c (.var i) ρ = some (.ok (.val d, ρ.set i (some (.val d)))) := by
  unfold ev; rw [h]
theorem o_val {i : Nat} {d : D} {f : Env → M (Sl × Env)} (h : ρ[i]? = some (some (.val d))) : evoOf (.var i) f ρ = some (.ok (.d d, ρ)) := by
  simp only [evoOf, h]
theorem o_own {i : Nat} {l : Bool} {d : D} {f : Env → M (Sl × Env)} (h : ρ[i]? = some (some (.own l d))) : evoOf (.var i) f ρ = some (.ok (.s i, ρ)) := by
  simp only [evoOf, h]
theorem rdo_s {i : Nat} {s : Sl} (h : ρ[i]? = some (some s)) : rdo ρ (.s i) = some s.d := by
  simp only [rdo, h]
theorem v_idx {a b : Ex} {o : Opd} {r : Sl} {x y : D} (ha : evoOf a (ev fl c a) ρ = some (.ok (o, ρ1))) (hb : ev fl c b ρ1 = some (.ok (r, ρ'))) (hx : rdo ρ' o = some x) (hy : idxD x r.d = some y) : ev fl c (.idx a b) ρ = some (.ok (.val y, ρ')) := by
  show bd (evoOf a (ev fl c a) ρ) _ = _
  rw [ha, bd_some]
  show bd (ev fl c b ρ1) _ = _
  rw [hb, bd_some]
  simp only [hx, hy, lift, rt, Option.map_some]
theorem v_cmp {o : Cop} {a b : Ex} {oa ob : Opd} {x y : D} {k : Bool} (ha : evoOf a (ev fl c a) ρ = some (.ok (oa, ρ1))) (hb : evoOf b (ev fl c b) ρ1 = some (.ok (ob, ρ'))) (hx : rdo ρ' oa = some x) (hy : rdo ρ' ob = some y) (hr : cmpD o x y = some k) : ev fl c (.cmp o a b) ρ = some (.ok (.val (.bool k), ρ')) := by
  show bd (evoOf a (ev fl c a) ρ) _ = _
  rw [ha, bd_some]
  show bd (evoOf b (ev fl c b) ρ1) _ = _
  rw [hb, bd_some]
  simp only [hx, hy, hr, lift, rt, Option.map_some]
theorem v_sl {a : Ex} {lo hi : Ox} {o : Opd} {l h : Option Int} {x : D} {r : Sl} (ha : evoOf a (ev fl c a) ρ = some (.ok (o, ρ1))) (hl : evx fl c lo ρ1 = some (.ok (l, ρ2))) (hh : evx fl c hi ρ2 = some (.ok (h, ρ'))) (hx : rdo ρ' o = some x) (hy : slD x l h = some r) : ev fl c (.sl a lo hi) ρ = some (.ok (r, ρ')) := by
  show bd (evoOf a (ev fl c a) ρ) _ = _
  rw [ha, bd_some]
  show bd (evx fl c lo ρ1) _ = _
  rw [hl, bd_some]
  show bd (evx fl c hi ρ2) _ = _
  rw [hh, bd_some]
  simp only [hx, hy, lift, rt]
theorem x_som {e : Ex} {r : Sl} {i : Int} (h : ev fl c e ρ = some (.ok (r, ρ'))) (hi : r.d = .int i) : evx fl c (.som e) ρ = some (.ok (some i, ρ')) := by
  show bd (ev fl c e ρ) _ = _
  rw [h, bd_some]
  simp only [hi]
theorem x_non : evx fl c .non ρ = some (.ok (none, ρ)) := rfl
theorem a_nil : eva fl c [] .nil ρ = some (.ok ([], ρ)) := rfl
theorem a_in {bs : List Bool} {i : Nat} {l : Bool} {d : D} {es : Exs} {os : List Opd} (h : ρ[i]? = some (some (.own l d))) (h2 : eva fl c bs es ρ = some (.ok (os, ρ'))) : eva fl c (true :: bs) (.cons (.var i) es) ρ = some (.ok (.s i :: os, ρ')) := by
  show bd (evlOf (.var i) (ev fl c (.var i)) ρ) _ = _
  have e : evlOf (.var i) (ev fl c (.var i)) ρ = some (.ok (.s i, ρ)) := by simp only [evlOf, h]
  rw [e, bd_some]
  show bd (eva fl c bs es ρ) _ = _
  rw [h2]; rfl
theorem a_d {bs : List Bool} {e : Ex} {r : Sl} {es : Exs} {os : List Opd} (h : ev fl c e ρ = some (.ok (r, ρ1))) (h2 : eva fl c bs es ρ1 = some (.ok (os, ρ'))) : eva fl c (false :: bs) (.cons e es) ρ = some (.ok (.d r.d :: os, ρ')) := by
  show bd (ev fl c e ρ) _ = _
  rw [h, bd_some]
  show bd (eva fl c bs es ρ1) _ = _
  rw [h2]; rfl
theorem v_call {f : Nat} {bs : List Bool} {es : Exs} {os : List Opd} {ds outs : List D} {r : Sl} (hf : fl f = bs) (ha : eva fl c bs es ρ = some (.ok (os, ρ'))) (hd : rdAll ρ' os = some ds) (hl : (lentOf bs os).Nodup ∧ ownAll ρ' (lentOf bs os) = true ∧ tempOk bs os = true) (hc : c f ds = some (.ok (r, outs))) (hb : backIn bs os outs ρ' = some ρ2) : ev fl c (.call f es) ρ = some (.ok (r, ρ2)) := by
  unfold ev
  rw [hf, ha, bd_some]
  simp only [hd]
  rw [if_pos hl, hc, bd_some]
  simp only [hb]
theorem v_append {i : Nat} {e : Ex} {r : Sl} {l0 l : Bool} {xs0 xs : List D} (hi : ρ[i]? = some (some (.own l0 (.list xs0)))) (he : ev fl c e ρ = some (.ok (r, ρ'))) (h2 : ρ'[i]? = some (some (.own l (.list xs)))) (hs : xs.length < sizeLine) : ev fl c (.mut .append i (.cons e .nil)) ρ = some (.ok (.val .none, ρ'.set i (some (.own l (.list (xs ++ [r.d])))))) := by
  unfold ev
  rw [hi]
  have : tyD (.list xs0) = mutTy .append := rfl
  simp only [this, if_true]
  show bd (bd (ev fl c e ρ) _) _ = _
  rw [he, bd_some]
  simp only [evf, bd, rt, h2, mutD, if_pos hs]
theorem s_drop {e : Ex} {r : Sl} (h : ev fl c e ρ = some (.ok (r, ρ'))) : evS fl c (.drop e) ρ = some (.ok (.nx ρ')) := by
  show bd (ev fl c e ρ) _ = _
  rw [h]; rfl
theorem t_orF {a b : Tx} {k : Bool} (ha : evt fl c a ρ = some (.ok (false, ρ1))) (hb : evt fl c b ρ1 = some (.ok (k, ρ'))) : evt fl c (.or a b) ρ = some (.ok (k, ρ')) := by
  show bd (evt fl c a ρ) _ = _
  rw [ha]; exact hb
theorem t_orT {a b : Tx} (ha : evt fl c a ρ = some (.ok (true, ρ1))) : evt fl c (.or a b) ρ = some (.ok (true, ρ1)) := by
  show bd (evt fl c a ρ) _ = _
  rw [ha]; rfl
theorem t_andT {a b : Tx} {k : Bool} (ha : evt fl c a ρ = some (.ok (true, ρ1))) (hb : evt fl c b ρ1 = some (.ok (k, ρ'))) : evt fl c (.and a b) ρ = some (.ok (k, ρ')) := by
  show bd (evt fl c a ρ) _ = _
  rw [ha]; exact hb
theorem t_andF {a b : Tx} (ha : evt fl c a ρ = some (.ok (false, ρ1))) : evt fl c (.and a b) ρ = some (.ok (false, ρ1)) := by
  show bd (evt fl c a ρ) _ = _
  rw [ha]; rfl
theorem t_not {a : Tx} {k : Bool} (ha : evt fl c a ρ = some (.ok (k, ρ1))) : evt fl c (.not a) ρ = some (.ok (!k, ρ1)) := by
  show bd (evt fl c a ρ) _ = _
  rw [ha]; rfl
theorem t_tr {e : Ex} {o : Opd} {d : D} {k : Bool} (h : evoOf e (ev fl c e) ρ = some (.ok (o, ρ'))) (hd : rdo ρ' o = some d) (hk : truD d = some k) : evt fl c (.tr e) ρ = some (.ok (k, ρ')) := by
  show bd (evoOf e (ev fl c e) ρ) _ = _
  rw [h, bd_some]
  simp only [hd, hk, lift, rt]
theorem f_nil : evf fl c .nil ρ = some (.ok ([], ρ)) := rfl
theorem f_cons {e : Ex} {es : Exs} {r : Sl} {ds : List D} (h : ev fl c e ρ = some (.ok (r, ρ1))) (h2 : evf fl c es ρ1 = some (.ok (ds, ρ'))) : evf fl c (.cons e es) ρ = some (.ok (r.d :: ds, ρ')) := by
  show bd (ev fl c e ρ) _ = _
  rw [h, bd_some]
  show bd (evf fl c es ρ1) _ = _
  rw [h2]; rfl
theorem v_tup {es : Exs} {ds : List D} (h : evf fl c es ρ = some (.ok (ds, ρ'))) (hs : ds.length ≤ sizeLine) : ev fl c (.tup es) ρ = some (.ok (.val (.tuple ds), ρ')) := by
  show bd (evf fl c es ρ) _ = _
  rw [h, bd_some]
  exact if_pos hs
theorem v_lst {es : Exs} {ds : List D} (h : evf fl c es ρ = some (.ok (ds, ρ'))) (hs : ds.length ≤ sizeLine) : ev fl c (.lst es) ρ = some (.ok (.own false (.list ds), ρ')) := by
  show bd (evf fl c es ρ) _ = _
  rw [h, bd_some]
  exact if_pos hs
theorem i_seq {e : Ex} {r : Sl} {xs : List D} (h : ev fl c e ρ = some (.ok (r, ρ'))) (hx : itemsOf r.d = some xs) : evi fl c (.seq e) ρ = some (.ok (xs, ρ')) := by
  show bd (ev fl c e ρ) _ = _
  rw [h, bd_some]
  simp only [hx]
theorem i_rng {e : Ex} {r : Sl} {n : Nat} (h : ev fl c e ρ = some (.ok (r, ρ'))) (hx : r.d = .int (n : Int)) (hn : n ≤ 1000000) : evi fl c (.rng1 e) ρ = some (.ok (iotaD 0 n, ρ')) := by
  show bd (ev fl c e ρ) _ = _
  rw [h, bd_some]
  have hz : (n : Int) ≤ sizeLine ∧ (-1000000000 : Int) ≤ n := by rw [sizeLine_eq]; constructor <;> omega
  simp only [hx, if_pos hz, Int.toNat_natCast]
theorem c_yes {tg : Tg} {own : List Nat} {e : Env → M (Sl × Env)} {x : D} {r : Sl} (h : tgS tg x (wipeE ρ own) = some ρ2) (he : e ρ2 = some (.ok (r, ρ'))) : compTurn tg own (evt fl c .yes) e x ρ = some (.ok (some r.d, ρ')) := by
  unfold compTurn
  rw [h, opt_some, bd_some]
  have hy : evt fl c .yes ρ2 = some (.ok (true, ρ2)) := rfl
  rw [hy, bd_some, if_pos rfl, he]; rfl
theorem c_if {tg : Tg} {own : List Nat} {t : Tx} {e : Env → M (Sl × Env)} {x : D} {r : Sl} (h : tgS tg x (wipeE ρ own) = some ρ2) (ht : evt fl c t ρ2 = some (.ok (true, ρ1))) (he : e ρ1 = some (.ok (r, ρ'))) : compTurn tg own (evt fl c t) e x ρ = some (.ok (some r.d, ρ')) := by
  unfold compTurn
  rw [h, opt_some, bd_some, ht, bd_some, if_pos rfl, he]; rfl
theorem c_no {tg : Tg} {own : List Nat} {t : Tx} {e : Env → M (Sl × Env)} {x : D} (h : tgS tg x (wipeE ρ own) = some ρ2) (ht : evt fl c t ρ2 = some (.ok (false, ρ1))) : compTurn tg own (evt fl c t) e x ρ = some (.ok (none, ρ1)) := by
  unfold compTurn
  rw [h, opt_some, bd_some, ht, bd_some, if_neg (by simp)]
theorem l_cons {f : D → Env → M (Option D × Env)} {x d : D} {xs ys : List D} (h : f x ρ = some (.ok (some d, ρ1))) (h2 : clp f xs ρ1 = some (.ok (ys, ρ2))) : clp f (x :: xs) ρ = some (.ok (d :: ys, ρ2)) := by
  show bd (f x ρ) _ = _
  rw [h, bd_some, h2]; rfl
theorem l_skip {f : D → Env → M (Option D × Env)} {x : D} {xs ys : List D} (h : f x ρ = some (.ok (none, ρ1))) (h2 : clp f xs ρ1 = some (.ok (ys, ρ2))) : clp f (x :: xs) ρ = some (.ok (ys, ρ2)) := by
  show bd (f x ρ) _ = _
  rw [h, bd_some, h2]; rfl
end
end Ev
end
section
set_option maxRecDepth 100000
set_option maxHeartbeats 2000000
/-! Texts of small letters; own slots of comprehensions. -/
namespace Ev
open PySem
def LT : Str := "abcdefghijklmnopqrstuvwxyz"
def low (x : Str) : Bool := x.cps.toList.all fun q => decide (q ∈ LT.cps.toList)
theorem toList_app (a b : Str) : (a ++ b).cps.toList = a.cps.toList ++ b.cps.toList := by
  rw [Str.cps_append, Array.toList_append]
theorem low_app (a b : Str) : low (a ++ b) = (low a && low b) := by
  unfold low
  rw [toList_app, List.all_append]
theorem low_ok {x : Str} (h : low x = true) : PyData.strOk x = true := by
  unfold low at h
  have hh : ∀ q ∈ LT.cps.toList, q < 0x110000 := by decide +kernel
  show x.cps.all (fun q => decide (q < 0x110000)) = true
  rw [← Array.all_toList, List.all_eq_true]
  intro q hq
  have := List.all_eq_true.mp h q hq
  simpa using hh q (by simpa using this)
theorem len_app (a b : Str) : (a ++ b).length = a.length + b.length := Str.length_append a b
theorem low_join : ∀ {ys : List Str}, (∀ y ∈ ys, low y = true) → low (Str.join Str.empty ys) = true
  | [], _ => rfl
  | [x], h => h x (by simp)
  | x :: y :: r, h => by
    show low (x ++ Str.empty ++ Str.join Str.empty (y :: r)) = true
    rw [low_app, low_app, h x (by simp), low_join (ys := y :: r) (fun z hz => h z (List.mem_cons_of_mem _ hz))]
    rfl
theorem len_join : ∀ {ys : List Str}, (∀ y ∈ ys, y.length = 1) → (Str.join Str.empty ys).length = ys.length
  | [], _ => rfl
  | [x], h => h x (by simp)
  | x :: y :: r, h => by
    show (x ++ Str.empty ++ Str.join Str.empty (y :: r)).length = _
    rw [len_app, len_app, h x (by simp), len_join (ys := y :: r) (fun z hz => h z (List.mem_cons_of_mem _ hz))]
    show 1 + 0 + _ = _
    simp only [List.length_cons]; omega
def chr (q : Nat) : D := .str ⟨#[q]⟩
section
variable {fl : Flags} {c : CallF}
theorem back_one {ρ : Env} {j : Nat} (h : j < ρ.length) (w : Option Sl) : backE ρ (ρ.set j w) [j] = ρ := by
  show (ρ.set j w).set j (ρ[j]?.getD none) = ρ
  rw [List.set_set, List.getElem?_eq_getElem h, Option.getD_some, List.set_getElem_self]
theorem tg_one {ρ : Env} {j : Nat} (h : j < ρ.length) (d : D) : tgS (.name j) d (wipeE ρ [j]) = some (ρ.set j (some (.val d))) := by
  show setSl ((wipeE ρ []).set j none) j (.val d) = _
  unfold setSl
  show (match (ρ.set j none)[j]? with
    | some (some (.own true _)) => none
    | some _ => some ((ρ.set j none).set j (some (.val d)))
    | none => none) = _
  rw [List.getElem?_set_self h]
  simp only [List.set_set]
/-- the signs that are no letters -/
theorem chars_in (LEX : Ex) (hL : ∀ ρ, evoOf LEX (ev fl c LEX) ρ = some (.ok (.d (.str LT), ρ))) (j : Nat) : ∀ (cs : List Nat) (ρ : Env), j < ρ.length →
    ∃ w, clp (compTurn (.name j) [j] (evt fl c (.tr (.cmp .notin (.var j) LEX))) (ev fl c (.var j))) (cs.map chr) ρ = some (.ok ((cs.filter fun q => !decide (q ∈ LT.cps.toList)).map chr, ρ.set j w))
  | [], ρ, h => ⟨ρ[j]?.getD none, by
    rw [List.getElem?_eq_getElem h, Option.getD_some, List.set_getElem_self]; rfl⟩
  | q :: cs, ρ, h => by
    obtain ⟨w, e⟩ := chars_in LEX hL j cs (ρ.set j (some (.val (chr q)))) (by rw [List.length_set]; exact h)
    rw [List.set_set] at e
    have g : (ρ.set j (some (.val (chr q))))[j]? = some (some (.val (chr q))) := by rw [List.getElem?_set_self h]
    have hc : cmpD .notin (chr q) (.str LT) = some (!decide (q ∈ LT.cps.toList)) := rfl
    have ht : evt fl c (.tr (.cmp .notin (.var j) LEX)) (ρ.set j (some (.val (chr q)))) = some (.ok (!decide (q ∈ LT.cps.toList), ρ.set j (some (.val (chr q))))) :=
      t_tr (o := .d (.bool _)) (o_ex (v_cmp (o_val g) (hL _) rfl rfl hc) rfl) rfl rfl
    refine ⟨w, ?_⟩
    rw [List.map_cons]
    by_cases hq : q ∈ LT.cps.toList
    · rw [List.filter_cons_of_neg (by simp [hq])]
      refine l_skip (c_no (tg_one h _) ?_) e
      rw [ht]; simp [hq]
    · rw [List.filter_cons_of_pos (by simp [hq]), List.map_cons]
      refine l_cons (d := chr q) (c_if (r := .val (chr q)) (tg_one h _) ?_ (v_val g)) e
      rw [ht]; simp [hq]
theorem bad_len {cs : List Nat} : (cs.filter fun q => !decide (q ∈ LT.cps.toList)).length = 0 ↔ (cs.all fun q => decide (q ∈ LT.cps.toList)) = true := by
  rw [List.length_eq_zero_iff, List.filter_eq_nil_iff, List.all_eq_true]
  simp
/-- len([sign for sign in x if sign not in letters]) -/
theorem bad_ok (LEX : Ex) (hL : ∀ ρ, evoOf LEX (ev fl c LEX) ρ = some (.ok (.d (.str LT), ρ))) {i j : Nat} {ρ : Env} {x : Str} (gi : ρ[i]? = some (some (.val (.str x)))) (hj : j < ρ.length) (hx : x.length ≤ 1000) :
    ∃ b : Nat, (b = 0 ↔ low x = true) ∧ ev fl c (.blt .len (.cons (.comp [j] (.var j) (.name j) (.seq (.var i)) (.tr (.cmp .notin (.var j) LEX))) .nil)) ρ = some (.ok (.val (.int b), ρ)) := by
  obtain ⟨w, e⟩ := chars_in LEX hL j x.cps.toList ρ hj
  have hi : evi fl c (.seq (.var i)) ρ = some (.ok (x.cps.toList.map chr, ρ)) := i_seq (v_val gi) (by
    show (if x.length ≤ sizeLine then _ else _) = _
    rw [if_pos (by rw [sizeLine_eq]; omega)]; rfl)
  have hc := e_comp (own := [j]) hi e
  rw [back_one hj] at hc
  refine ⟨_, bad_len (cs := x.cps.toList), v_blt1 (o_ex hc rfl) rfl ?_⟩
  show some (Sl.val (.int _)) = _
  simp [Sl.d]
theorem v_andT {a b : Ex} {r : Sl} {ρ ρ1 : Env} {o : M (Sl × Env)} (ha : ev fl c a ρ = some (.ok (r, ρ1))) (hr : r.d = .bool true) (hb : ev fl c b ρ1 = o) : ev fl c (.and a b) ρ = o := by
  show bd (ev fl c a ρ) _ = _
  rw [ha, bd_some]
  simp only [hr]
  exact hb
theorem v_isi {a : Ex} {t : Ty} {o : Opd} {d : D} {k : Bool} {ρ ρ1 : Env} (ha : evoOf a (ev fl c a) ρ = some (.ok (o, ρ1))) (hd : rdo ρ1 o = some d) (hk : isiD t d = some k) : ev fl c (.isi a t) ρ = some (.ok (.val (.bool k), ρ1)) := by
  show bd (evoOf a (ev fl c a) ρ) _ = _
  rw [ha, bd_some]
  simp only [hd, hk, lift, rt, Option.map_some]
theorem t_isi {a : Ex} {t : Ty} {o : Opd} {d : D} {k : Bool} {ρ ρ1 : Env} (ha : evoOf a (ev fl c a) ρ = some (.ok (o, ρ1))) (hd : rdo ρ1 o = some d) (hk : isiD t d = some k) : evt fl c (.tr (.isi a t)) ρ = some (.ok (k, ρ1)) :=
  t_tr (o := .d (.bool k)) (o_ex (v_isi ha hd hk) rfl) rfl rfl
theorem t_cmp {o : Cop} {a b : Ex} {oa ob : Opd} {x y : D} {k : Bool} {ρ ρ1 ρ' : Env} (ha : evoOf a (ev fl c a) ρ = some (.ok (oa, ρ1))) (hb : evoOf b (ev fl c b) ρ1 = some (.ok (ob, ρ'))) (hx : rdo ρ' oa = some x) (hy : rdo ρ' ob = some y) (hr : cmpD o x y = some k) : evt fl c (.tr (.cmp o a b)) ρ = some (.ok (k, ρ')) :=
  t_tr (o := .d (.bool k)) (o_ex (v_cmp ha hb hx hy hr) rfl) rfl rfl
theorem ne_int (a b : Int) : cmpD .ne (.int a) (.int b) = some (!decide (a = b)) := by
  simp [cmpD, eqD, eqOk, PyData.eqv, SeqAt.shaped, PyData.canLay0, PyData.depth]
  rw [Bool.eq_iff_iff]; simp
theorem eq_int (a b : Int) : cmpD .eq (.int a) (.int b) = some (decide (a = b)) := by
  simp [cmpD, eqD, eqOk, PyData.eqv, SeqAt.shaped, PyData.canLay0, PyData.depth]
  rw [Bool.eq_iff_iff]; simp
theorem gt_int (a b : Int) : cmpD .gt (.int a) (.int b) = some (decide (b < a)) := rfl
theorem len_tup (xs : List D) : bltD .len [.tuple xs] = some (.val (.int xs.length)) := rfl
theorem len_lst (xs : List D) : bltD .len [.list xs] = some (.val (.int xs.length)) := rfl
/-- len of a frozen tuple in a slot -/
theorem o_len {i : Nat} {xs : List D} {ρ : Env} (g : ρ[i]? = some (some (.val (.tuple xs)))) : evoOf (.blt .len (.cons (.var i) .nil)) (ev fl c (.blt .len (.cons (.var i) .nil))) ρ = some (.ok (.d (.int xs.length), ρ)) := by
  have h : ev fl c (.blt .len (.cons (.var i) .nil)) ρ = some (.ok (.val (.int xs.length), ρ)) := v_blt1 (o_val g) rfl (len_tup xs)
  exact o_ex h rfl
theorem idx_tup {xs : List D} {k : Nat} (h : k < xs.length) : idxD (.tuple xs) (.int (k : Int)) = some xs[k] := by
  show atD xs (k : Int) = _
  unfold atD L2.atI L2.ixN
  rw [if_pos (by omega), if_pos (by omega)]
  simp
theorem v_mth {m : Mth} {e : Ex} {es : Exs} {o : Opd} {x0 x : D} {ds : List D} {r : Sl} {ρ ρ1 ρ' : Env} (ho : evoOf e (ev fl c e) ρ = some (.ok (o, ρ1))) (h0 : rdo ρ1 o = some x0) (ht : tyD x0 = mthTy m) (hs : evf fl c es ρ1 = some (.ok (ds, ρ'))) (hx : rdo ρ' o = some x) (hr : mthD m x ds = some r) : ev fl c (.mth m e es) ρ = some (.ok (r, ρ')) := by
  show bd (evoOf e (ev fl c e) ρ) _ = _
  rw [ho, bd_some]
  simp only [h0]
  rw [if_pos ht]
  show bd (evf fl c es ρ1) _ = _
  rw [hs, bd_some]
  simp only [hx, hr, lift, rt]
theorem v_ite {t : Tx} {a b : Ex} {k : Bool} {o : M (Sl × Env)} {ρ ρ1 : Env} (ht : evt fl c t ρ = some (.ok (k, ρ1))) (h : ev fl c (if k then a else b) ρ1 = o) : ev fl c (.ite t a b) ρ = o := by
  show bd (evt fl c t ρ) _ = _
  rw [ht, bd_some]
  cases k <;> exact h
def cutL {α : Type} (xs : List α) (lo hi : Option Int) : List α := (xs.drop (HT.sIx xs.length 0 lo)).take (HT.sIx xs.length xs.length hi - HT.sIx xs.length 0 lo)
theorem cutD_map {α : Type} (f : α → D) (xs : List α) (lo hi : Option Int) : cutD (xs.map f) lo hi = (cutL xs lo hi).map f := by
  unfold cutD cutL
  rw [List.length_map, List.map_take, List.map_drop]
theorem cutL_mem {α : Type} {xs : List α} {lo hi : Option Int} {x : α} (h : x ∈ cutL xs lo hi) : x ∈ xs := List.mem_of_mem_drop (List.mem_of_mem_take h)
theorem cutL_len {α : Type} {xs : List α} {lo hi : Option Int} : (cutL xs lo hi).length ≤ xs.length := by
  unfold cutL
  rw [List.length_take, List.length_drop]; omega
theorem cutS_len (z : Str) (lo hi : Option Int) : (L2.cutS z lo hi).length ≤ z.length := by
  unfold L2.cutS Str.length
  rw [List.size_toArray, List.length_take, List.length_drop, Array.length_toList]; omega
theorem v_cut {α : Type} {f : α → D} {xs : List α} {A : Ex} {lo hi : Ox} {l h : Option Int} {ρ : Env} (ha : evoOf A (ev fl c A) ρ = some (.ok (.d (.tuple (xs.map f)), ρ))) (hl : evx fl c lo ρ = some (.ok (l, ρ))) (hh : evx fl c hi ρ = some (.ok (h, ρ))) : ev fl c (.sl A lo hi) ρ = some (.ok (.val (.tuple ((cutL xs l h).map f)), ρ)) :=
  v_sl ha hl hh rfl (by
    show some (Sl.val (.tuple (cutD _ _ _))) = _
    rw [cutD_map])
theorem v_cat {α : Type} {f : α → D} {xs ys : List α} {A B : Ex} {ρ : Env} (ha : evoOf A (ev fl c A) ρ = some (.ok (.d (.tuple (xs.map f)), ρ))) (hb : evoOf B (ev fl c B) ρ = some (.ok (.d (.tuple (ys.map f)), ρ))) (hz : xs.length + ys.length ≤ 1000) : ev fl c (.bin .add A B) ρ = some (.ok (.val (.tuple ((xs ++ ys).map f)), ρ)) :=
  v_bin ha hb rfl rfl (by
    show (if _ then _ else _) = _
    rw [if_pos (by rw [List.length_map, List.length_map, sizeLine_eq]; omega), ← List.map_append])
theorem add_str {a b : Str} (h : a.length + b.length ≤ 100000) : binD .add (.str a) (.str b) = some (.val (.str (a ++ b))) := by
  show (if _ then _ else _) = _
  rw [if_pos (by rw [sizeLine_eq]; omega)]
theorem mod_pos {i j : Int} (h : 0 < j) : binD .mod (.int i) (.int j) = some (.val (.int (i % j))) := by
  show (if 0 < j then _ else _) = _
  rw [if_pos h]
theorem idx_chr {z : Str} (hz : z.length ≤ 1000) {k : Nat} (h : k < z.length) : ∃ q ∈ z.cps.toList, idxD (.str z) (.int (k : Int)) = some (chr q) := by
  have h' : k < z.cps.toList.length := by rw [Array.length_toList]; exact h
  refine ⟨z.cps.toList[k], List.getElem_mem h', ?_⟩
  show (if z.length ≤ sizeLine then _ else _) = _
  rw [if_pos (by rw [sizeLine_eq]; omega)]
  unfold L2.atI L2.ixN
  rw [if_pos (by omega), if_pos (by omega)]
  simp [chr]
theorem i_rng2 {a b : Ex} {r1 r2 : Sl} {i j : Int} {ρ ρ1 ρ2 : Env} (ha : ev fl c a ρ = some (.ok (r1, ρ1))) (h1 : r1.d = .int i) (hb : ev fl c b ρ1 = some (.ok (r2, ρ2))) (h2 : r2.d = .int j) (hi : 0 ≤ i ∧ i ≤ 1000) (hj : 0 ≤ j ∧ j ≤ 1000) : evi fl c (.rng2 a b) ρ = some (.ok (iotaD i (j - i).toNat, ρ2)) := by
  unfold evi
  rw [ha, bd_some, hb, bd_some]
  simp only [h1, h2]
  rw [if_pos (by rw [sizeLine_eq]; omega)]
end
end Ev
end
section
set_option maxHeartbeats 200000
set_option maxRecDepth 100000
/-! Steps with errors; steps of any outcome. -/
namespace Ev
open PySem
theorem bd_err {α β : Type} (x : Exn) (f : α → M β) : bd (some (.error x)) f = some (.error x) := rfl
section
variable {fl : Flags} {c : CallF} {ρ ρ' ρ1 ρ2 : Env} {o : M Fl}
theorem ss_go {s s2 : St} {ss : Sts} (h : evS fl c s ρ = some (.ok (.nx ρ'))) (h2 : evSs fl c (.cons s2 ss) ρ' = o) : evSs fl c (.cons s (.cons s2 ss)) ρ = o := by
  show bd (evS fl c s ρ) _ = _
  rw [h]
  exact h2
theorem ss_err {s : St} {ss : Sts} {x : Exn} (h : evS fl c s ρ = some (.error x)) : evSs fl c (.cons s ss) ρ = some (.error x) := by
  cases ss with
  | nil => exact h
  | cons s2 ss =>
    show bd (evS fl c s ρ) _ = _
    rw [h]; rfl
theorem ss_rt {s : St} {ss : Sts} {r : Sl} (h : evS fl c s ρ = some (.ok (.rt r ρ'))) : evSs fl c (.cons s ss) ρ = some (.ok (.rt r ρ')) := by
  cases ss with
  | nil => exact h
  | cons s2 ss => exact ss_ret h
theorem ss_1 {s : St} (h : evS fl c s ρ = o) : evSs fl c (.cons s .nil) ρ = o := h
theorem s_ifo {t : Tx} {a b : Sts} {k : Bool} (h : evt fl c t ρ = some (.ok (k, ρ'))) (h2 : evSs fl c (if k then a else b) ρ' = o) : evS fl c (.iff t a b) ρ = o := by
  show bd (evt fl c t ρ) _ = _
  rw [h]
  cases k <;> exact h2
theorem s_fro {tg : Tg} {it : Ix} {body : Sts} {xs : List D} (h : evi fl c it ρ = some (.ok (xs, ρ'))) (h2 : flp (turn fl c tg body) xs ρ' = o) : evS fl c (.fr tg it body) ρ = o := by
  show bd (evi fl c it ρ) _ = _
  rw [h]
  exact h2
theorem turn_o {tg : Tg} {body : Sts} {x : D} {ρ2 : Env} (h : tgS tg x ρ = some ρ2) (h2 : evSs fl c body ρ2 = o) : turn fl c tg body x ρ = o := by
  unfold turn
  rw [h, opt_some, bd_some]
  exact h2
theorem flp_err {body : D → Env → M Fl} {x : D} {xs : List D} {ρ : Env} {e : Exn} (h : body x ρ = some (.error e)) : flp body (x :: xs) ρ = some (.error e) := by
  show bd (body x ρ) _ = _
  rw [h]; rfl
theorem flp_ct {body : D → Env → M Fl} {x : D} {xs : List D} {ρ ρ' : Env} (h : body x ρ = some (.ok (.ct ρ'))) : flp body (x :: xs) ρ = flp body xs ρ' := by
  show bd (body x ρ) _ = _
  rw [h]; rfl
theorem run_err {d : Def} {ds : List D} {x : Exn} (hl : ds.length = d.flags.length) (h : evSs fl c d.body (startE d ds) = some (.error x)) : runDef fl c d ds = some (.error x) := by
  unfold runDef
  rw [if_pos hl, h]; rfl
theorem s_rse {k : Nat} {fs : List Str} {es : Exs} {ds : List D} (h : evf fl c es ρ = some (.ok (ds, ρ'))) (hl : ds.length = fs.length) : evS fl c (.rse k fs es) ρ = some (.error ⟨k, fs.zip ds⟩) := by
  show bd (evf fl c es ρ) _ = _
  rw [h, bd_some]
  exact if_pos hl
theorem s_tri {body : Sts} {hs : Hds} {f : Fl} (h : evSs fl c body ρ = some (.ok f)) : evS fl c (.tri body hs) ρ = some (.ok f) := by
  show (match evSs fl c body ρ with
    | some (.error x) => hdsv x (poison ρ) hs
    | out => out) = _
  rw [h]
theorem s_trx {body : Sts} {hs : Hds} {x : Exn} (h : evSs fl c body ρ = some (.error x)) (h2 : hdsv x (poison ρ) hs = o) : evS fl c (.tri body hs) ρ = o := by
  show (match evSs fl c body ρ with
    | some (.error x) => hdsv x (poison ρ) hs
    | out => out) = _
  rw [h]; exact h2
theorem v_callX {f : Nat} {bs : List Bool} {es : Exs} {os : List Opd} {ds : List D} {x : Exn} (hf : fl f = bs) (ha : eva fl c bs es ρ = some (.ok (os, ρ'))) (hd : rdAll ρ' os = some ds) (hl : (lentOf bs os).Nodup ∧ ownAll ρ' (lentOf bs os) = true ∧ tempOk bs os = true) (hc : c f ds = some (.error x)) : ev fl c (.call f es) ρ = some (.error x) := by
  unfold ev
  rw [hf, ha, bd_some]
  simp only [hd]
  rw [if_pos hl, hc]; rfl
theorem s_retX {e : Ex} {x : Exn} (h : ev fl c e ρ = some (.error x)) (hv : evrOf e (ev fl c e) ρ = ev fl c e ρ) : evS fl c (.ret e) ρ = some (.error x) := by
  show bd (evrOf e (ev fl c e) ρ) _ = _
  rw [hv, h]; rfl
theorem s_asgX {i : Nat} {e : Ex} {x : Exn} (h : ev fl c e ρ = some (.error x)) : evS fl c (.asg i e) ρ = some (.error x) := by
  show bd (ev fl c e ρ) _ = _
  rw [h]; rfl
theorem s_asgT {is : List Nat} {e : Ex} {r : Sl} (h : ev fl c e ρ = some (.ok (r, ρ1))) (h2 : tgS (.tup is) r.d ρ1 = some ρ') : evS fl c (.asgT is e) ρ = some (.ok (.nx ρ')) := by
  show bd (ev fl c e ρ) _ = _
  rw [h, bd_some, h2]; rfl
theorem v_mxd {least : Bool} {a : Ex} {i : Int} {op : Opd} {x : D} {r : Sl} (h : evoOf a (ev fl c a) ρ = some (.ok (op, ρ'))) (hx : rdo ρ' op = some x) (hr : mxdD least i x = some r) : ev fl c (.mxd least a i) ρ = some (.ok (r, ρ')) := by
  show bd (evoOf a (ev fl c a) ρ) _ = _
  rw [h, bd_some]
  simp only [hx, hr, lift, rt]
theorem v_isn {neg : Bool} {a : Ex} {op : Opd} {d : D} (h : evoOf a (ev fl c a) ρ = some (.ok (op, ρ'))) (hd : rdo ρ' op = some d) : ∃ k, ev fl c (.isn neg a) ρ = some (.ok (.val (.bool k), ρ')) ∧ (k = true ↔ ((d = .none) ↔ neg = false)) := by
  have e : ev fl c (.isn neg a) ρ = bd (evoOf a (ev fl c a) ρ) fun p => match rdo p.2 p.1 with
    | some .none => rt (.val (.bool (!neg)), p.2)
    | some _ => rt (.val (.bool neg), p.2)
    | none => none := rfl
  rw [e, h, bd_some]
  simp only [hd]
  cases d <;> cases neg <;> simp [rt]
/-- is None -/
def isNo : D → Bool
  | .none => true
  | _ => false
theorem t_isn {neg : Bool} {a : Ex} {op : Opd} {d : D} (h : evoOf a (ev fl c a) ρ = some (.ok (op, ρ'))) (hd : rdo ρ' op = some d) : evt fl c (.tr (.isn neg a)) ρ = some (.ok (isNo d != neg, ρ')) := by
  have e : ev fl c (.isn neg a) ρ = bd (evoOf a (ev fl c a) ρ) fun p => match rdo p.2 p.1 with
    | some .none => rt (.val (.bool (!neg)), p.2)
    | some _ => rt (.val (.bool neg), p.2)
    | none => none := rfl
  have e2 : ev fl c (.isn neg a) ρ = some (.ok (.val (.bool (isNo d != neg)), ρ')) := by
    rw [e, h, bd_some]
    simp only [hd]
    cases d <;> cases neg <;> rfl
  exact t_tr (o := .d (.bool (isNo d != neg))) (o_ex e2 rfl) rfl rfl
end
end Ev
end
section
set_option maxHeartbeats 200000
set_option maxRecDepth 100000
/-! Data that _law_same can walk is like itself. -/
namespace Ev
open PySem
theorem lay_all {m : Nat} : ∀ {ds : List D}, (∀ d ∈ ds, d.canLay0 = true ∧ d.depth ≤ m) → PyData.canLayAll0 ds = true ∧ PyData.depthAll ds ≤ m
  | [], _ => ⟨rfl, by simp [PyData.depthAll]⟩
  | d :: ds, h => by
    obtain ⟨h1, h2⟩ := h d List.mem_cons_self
    obtain ⟨h3, h4⟩ := lay_all (m := m) (ds := ds) fun x hx => h x (List.mem_cons_of_mem _ hx)
    exact ⟨by simp [PyData.canLayAll0, h1, h3], by simp [PyData.depthAll]; omega⟩
theorem okS_lay : ∀ (m : Nat) (d : D), okS m d = true → d.canLay0 = true ∧ d.depth ≤ m
  | _, .none, _ => ⟨rfl, by simp [PyData.depth]⟩
  | _, .bool _, _ => ⟨rfl, by simp [PyData.depth]⟩
  | _, .int _, _ => ⟨rfl, by simp [PyData.depth]⟩
  | m, .str x, h => by
    have h' : PyData.strOk x = true := by cases m <;> simpa [okS] using h
    exact ⟨by simp [PyData.canLay0, h'], by simp [PyData.depth]⟩
  | m + 1, .list ds, h => by
    simp only [okS, Bool.and_eq_true, decide_eq_true_eq] at h
    obtain ⟨h1, h2⟩ := lay_all (m := m) fun x hx => okS_lay m x (List.all_eq_true.mp h.2 x hx)
    exact ⟨by simp [PyData.canLay0, h1], by simp [PyData.depth]; omega⟩
  | m + 1, .tuple ds, h => by
    simp only [okS, Bool.and_eq_true, decide_eq_true_eq] at h
    obtain ⟨h1, h2⟩ := lay_all (m := m) fun x hx => okS_lay m x (List.all_eq_true.mp h.2 x hx)
    exact ⟨by simp [PyData.canLay0, h1], by simp [PyData.depth]; omega⟩
  | 0, .list ds, h => by simp [okS] at h
  | 0, .tuple ds, h => by simp [okS] at h
  | 0, .dict ds, h => by simp [okS] at h
  | m + 1, .dict ds, h => by simp [okS] at h
theorem okS_eqOk {m : Nat} {d : D} (h : okS m d = true) (hm : m ≤ 64) : eqOk d = true := by
  obtain ⟨h1, h2⟩ := okS_lay m d h
  unfold eqOk SeqAt.shaped
  simp [h1]; omega
theorem eqv_self {m : Nat} {d : D} (h : okS m d = true) : PyData.eqv d d = true := SeqAt.eqv_refl d (okS_lay m d h).1
theorem eq_self {m : Nat} {d : D} (h : okS m d = true) (hm : m ≤ 64) : cmpD .eq d d = some true := by
  have e := okS_eqOk h hm
  show (if eqOk d && eqOk d then some (PyData.eqv d d) else none) = _
  rw [e, eqv_self h]; rfl
theorem ne_self {m : Nat} {d : D} (h : okS m d = true) (hm : m ≤ 64) : cmpD .ne d d = some false := by
  have := eq_self h hm
  show (cmpD .eq d d).map (!·) = _
  rw [this]; rfl
theorem in_self {m : Nat} {d : D} {ds : List D} (h : okS m d = true) (hl : okS m (.list ds) = true) (hm : m ≤ 64) : cmpD .isin d (.list ds) = some (ds.any fun x => PyData.eqv x d) := by
  show (if eqOk d && eqOk (.list ds) then some (ds.any fun x => PyData.eqv x d) else none) = _
  rw [okS_eqOk h hm, okS_eqOk hl hm]; rfl
end Ev
end
section
set_option maxHeartbeats 200000
set_option maxRecDepth 100000
/-! Reckoning by itself: rules whose outcome is found by going from the left. -/
namespace Ev
open PySem
/-- a list of slots with another one at i -/
inductive SetAt : Env → Nat → Option Sl → Env → Prop
  | zero {a x : Option Sl} {l : Env} : SetAt (a :: l) 0 x (x :: l)
  | succ {a x : Option Sl} {l l' : Env} {i : Nat} : SetAt l i x l' → SetAt (a :: l) (i + 1) x (a :: l')
theorem SetAt.eq {ρ ρ' : Env} {i : Nat} {x : Option Sl} (h : SetAt ρ i x ρ') : i < ρ.length ∧ ρ.set i x = ρ' := by
  induction h with
  | zero => exact ⟨by simp, rfl⟩
  | succ _ ih => exact ⟨by simp; omega, by rw [List.set_cons_succ, ih.2]⟩
def free : Option (Option Sl) → Bool
  | some (some (.own true _)) => false
  | some _ => true
  | none => false
theorem free_map {v : Option D} : free (some (Option.map Sl.val v)) = true := by cases v <;> rfl
theorem setSl_at {ρ ρ' : Env} {i : Nat} {r : Sl} (hf : free ρ[i]? = true) (hs : SetAt ρ i (some r) ρ') : setSl ρ i r = some ρ' := by
  obtain ⟨_, e⟩ := hs.eq
  unfold setSl
  rw [← e]
  split
  · rename_i h; rw [h] at hf; cases hf
  · rfl
  · rename_i h; rw [h] at hf; cases hf
def pick {α : Type} (k : Bool) (x y : α) : α := if k = true then x else y
theorem pk_T {α : Type} {k : Bool} {x y o : α} (hk : k = true) (h : x = o) : pick k x y = o := by rw [hk]; exact h
theorem pk_F {α : Type} {k : Bool} {x y o : α} (hk : k = false) (h : y = o) : pick k x y = o := by rw [hk]; exact h
theorem ndT {p : Prop} {i : Decidable p} (h : ¬p) : (!@decide p i) = true := by rw [decide_eq_false h]; rfl
theorem ndF {p : Prop} {i : Decidable p} (h : p) : (!@decide p i) = false := by rw [decide_eq_true h]; rfl
theorem nnT {k : Bool} (h : k = false) : (!k) = true := by rw [h]; rfl
theorem nnF {k : Bool} (h : k = true) : (!k) = false := by rw [h]; rfl
theorem dv {d : D} : (Sl.val d).d = d := rfl
theorem dw {l : Bool} {d : D} : (Sl.own l d).d = d := rfl
theorem sz {ds : List D} (h : Nat.ble ds.length 1000 = true) : ds.length ≤ sizeLine := by
  have := Nat.le_of_ble_eq_true h
  rw [sizeLine_eq]; omega
theorem sz' {n : Nat} (h : n ≤ 1000000) : n ≤ sizeLine := by rw [sizeLine_eq]; omega
/-! shapes -/
theorem asP {p : Prop} (h : p) : p := h
theorem X_bin {o : Bop} {x y : D} {r : Option Sl} (h : binD o x y = r) : binD o x y = r := h
theorem X_cmp {o : Cop} {x y : D} {r : Option Bool} (h : cmpD o x y = r) : cmpD o x y = r := h
theorem X_blt {b : Blt} {x : List D} {r : Option Sl} (h : bltD b x = r) : bltD b x = r := h
theorem X_idx {x y : D} {r : Option D} (h : idxD x y = r) : idxD x y = r := h
theorem X_sl {x : D} {l h : Option Int} {r : Option Sl} (e : slD x l h = r) : slD x l h = r := e
theorem X_mth {m : Mth} {x : D} {ds : List D} {r : Option Sl} (e : mthD m x ds = r) : mthD m x ds = r := e
theorem X_mut {m : Mut} {x : D} {ds : List D} {r : Option (D × D)} (e : mutD m x ds = r) : mutD m x ds = r := e
theorem X_tru {x : D} {r : Option Bool} (e : truD x = r) : truD x = r := e
theorem X_itm {x : D} {r : Option (List D)} (e : itemsOf x = r) : itemsOf x = r := e
theorem X_isi {t : Ty} {x : D} {r : Option Bool} (e : isiD t x = r) : isiD t x = r := e
theorem X_ty {x : D} {r : Option Ty} (e : tyD x = r) : tyD x = r := e
theorem X_free {x : Option (Option Sl)} {r : Bool} (e : free x = r) : free x = r := e
theorem X_get {ρ : Env} {i : Nat} {r : Option (Option Sl)} (e : ρ[i]? = r) : ρ[i]? = r := e
theorem X_set {x y z : D} {r : Option D} (e : setD x y z = r) : setD x y z = r := e
theorem X_fl {T : List Def} {f : Nat} {r : List Bool} (e : flagsOf T f = r) : flagsOf T f = r := e
theorem X_outs {bs : List Bool} {ρ : Env} {r : Option (List D)} (e : outsOf bs ρ = r) : outsOf bs ρ = r := e
theorem X_lent {bs : List Bool} {os : List Opd} {r : List Nat} (e : lentOf bs os = r) : lentOf bs os = r := e
theorem X_own {ρ : Env} {is : List Nat} {r : Bool} (e : ownAll ρ is = r) : ownAll ρ is = r := e
theorem X_temp {bs : List Bool} {os : List Opd} {r : Bool} (e : tempOk bs os = r) : tempOk bs os = r := e
theorem X_d {s : Sl} {r : D} (e : s.d = r) : s.d = r := e
theorem G_set {ρ ρ' : Env} {i : Nat} {x : Option Sl} (h : SetAt ρ i x ρ') : SetAt ρ i x ρ' := h
theorem G_o {e : Ex} {f : Env → M (Sl × Env)} {ρ : Env} {o : M (Opd × Env)} (h : evoOf e f ρ = o) : evoOf e f ρ = o := h
theorem G_ev {fl : Flags} {c : CallF} {e : Ex} {ρ : Env} {o : M (Sl × Env)} (h : ev fl c e ρ = o) : ev fl c e ρ = o := h
theorem G_rdo {ρ : Env} {x : Opd} {o : Option D} (h : rdo ρ x = o) : rdo ρ x = o := h
theorem G_a {fl : Flags} {c : CallF} {bs : List Bool} {es : Exs} {ρ : Env} {o : M (List Opd × Env)} (h : eva fl c bs es ρ = o) : eva fl c bs es ρ = o := h
theorem G_rda {ρ : Env} {os : List Opd} {o : Option (List D)} (h : rdAll ρ os = o) : rdAll ρ os = o := h
theorem G_f {fl : Flags} {c : CallF} {es : Exs} {ρ : Env} {o : M (List D × Env)} (h : evf fl c es ρ = o) : evf fl c es ρ = o := h
theorem G_os {fl : Flags} {c : CallF} {es : Exs} {ρ : Env} {o : M (List Opd × Env)} (h : evos fl c es ρ = o) : evos fl c es ρ = o := h
theorem G_t {fl : Flags} {c : CallF} {e : Tx} {ρ : Env} {o : M (Bool × Env)} (h : evt fl c e ρ = o) : evt fl c e ρ = o := h
theorem G_pick {α : Type} {k : Bool} {x y o : α} (h : pick k x y = o) : pick k x y = o := h
theorem G_Ss {fl : Flags} {c : CallF} {ss : Sts} {ρ : Env} {o : M Fl} (h : evSs fl c ss ρ = o) : evSs fl c ss ρ = o := h
theorem G_S {fl : Flags} {c : CallF} {s : St} {ρ : Env} {o : M Fl} (h : evS fl c s ρ = o) : evS fl c s ρ = o := h
theorem G_lent {bs : List Bool} {os : List Opd} {ρ : Env} (h : (lentOf bs os).Nodup ∧ ownAll ρ (lentOf bs os) = true ∧ tempOk bs os = true) : (lentOf bs os).Nodup ∧ ownAll ρ (lentOf bs os) = true ∧ tempOk bs os = true := h
theorem G_back {bs : List Bool} {os : List Opd} {outs : List D} {ρ : Env} {o : Option Env} (h : backIn bs os outs ρ = o) : backIn bs os outs ρ = o := h
theorem G_call {T : List Def} {n f : Nat} {ds : List D} {o : M (Sl × List D)} (h : call T n f ds = o) : call T n f ds = o := h
theorem G_i {fl : Flags} {c : CallF} {e : Ix} {ρ : Env} {o : M (List D × Env)} (h : evi fl c e ρ = o) : evi fl c e ρ = o := h
theorem G_x {fl : Flags} {c : CallF} {e : Ox} {ρ : Env} {o : M (Option Int × Env)} (h : evx fl c e ρ = o) : evx fl c e ρ = o := h
theorem G_flp {f : D → Env → M Fl} {xs : List D} {ρ : Env} {o : M Fl} (h : flp f xs ρ = o) : flp f xs ρ = o := h
theorem G_tg {tg : Tg} {d : D} {ρ : Env} {o : Option Env} (h : tgS tg d ρ = o) : tgS tg d ρ = o := h
theorem G_sls {is : List Nat} {ds : List D} {ρ : Env} {o : Option Env} (h : setSls ρ is ds = o) : setSls ρ is ds = o := h
theorem G_sz {n : Nat} (h : n ≤ sizeLine) : n ≤ sizeLine := h
theorem G_turn {fl : Flags} {c : CallF} {tg : Tg} {b : Sts} {x : D} {ρ : Env} {o : M Fl} (h : turn fl c tg b x ρ = o) : turn fl c tg b x ρ = o := h
/-! data -/
theorem mul_r {a b : Int} (h : b.natAbs < 2 ^ 64) : binD .mul (.int a) (.int b) = some (.val (.int (a * b))) := by
  show (if _ then _ else _) = _
  rw [if_pos (by rw [decide_eq_true h]; simp)]
theorem mul_l {a b : Int} (h : a.natAbs < 2 ^ 64) : binD .mul (.int a) (.int b) = some (.val (.int (a * b))) := by
  show (if _ then _ else _) = _
  rw [if_pos (by rw [decide_eq_true h]; simp)]
theorem fdiv_pos {a b : Int} (h : 0 < b ∧ b < 1073741824) : binD .fdiv (.int a) (.int b) = some (.val (.int (a / b))) := if_pos h
theorem add_tup {xs ys : List D} (h : xs.length + ys.length ≤ 1000000) : binD .add (.tuple xs) (.tuple ys) = some (.val (.tuple (xs ++ ys))) := if_pos (sz' h)
theorem add_lst {xs ys : List D} (h : xs.length + ys.length ≤ 1000000) : binD .add (.list xs) (.list ys) = some (.own false (.list (xs ++ ys))) := if_pos (sz' h)
theorem mut_app {xs : List D} {d : D} (h : xs.length < 1000000) : mutD .append (.list xs) [d] = some (.none, .list (xs ++ [d])) := if_pos (by rw [sizeLine_eq]; omega)
theorem idxL {xs : List D} {k : Nat} {x : D} (h : xs[k]? = some x) : idxD (.list xs) (.int (OfNat.ofNat k)) = some x := by
  show atD xs (k : Int) = _
  rw [atD_nat, h]
theorem idxT {xs : List D} {k : Nat} {x : D} (h : xs[k]? = some x) : idxD (.tuple xs) (.int (OfNat.ofNat k)) = some x := by
  show atD xs (k : Int) = _
  rw [atD_nat, h]
theorem tru_b {k : Bool} : truD (.bool k) = some k := rfl
section
variable {fl : Flags} {c : CallF} {ρ ρ' ρ1 ρ2 : Env}
theorem w_own {i : Nat} {d : D} (h : ρ[i]? = some (some (.own false d))) (hs : SetAt ρ i (some (.val d)) ρ') : ev fl c (.var i) ρ = some (.ok (.val d, ρ')) := by rw [v_own h, hs.eq.2]
theorem w_con {d : D} : ev fl c (.con d) ρ = some (.ok (.val d, ρ)) := rfl
theorem w_glo {x : Str} {d : D} : ev fl c (.glo x d) ρ = some (.ok (.val d, ρ)) := rfl
theorem w_dct : ev fl c (.dct .nil) ρ = some (.ok (.own false (.dict []), ρ)) := rfl
theorem w_f {e : Ex} {es : Exs} {r : Sl} {d : D} {ds : List D} (h : ev fl c e ρ = some (.ok (r, ρ1))) (hd : r.d = d) (h2 : evf fl c es ρ1 = some (.ok (ds, ρ'))) : evf fl c (.cons e es) ρ = some (.ok (d :: ds, ρ')) := by rw [← hd]; exact f_cons h h2
theorem w_o {e : Ex} {r : Sl} {d : D} (hv : evoOf e (ev fl c e) ρ = bd (ev fl c e ρ) fun p => rt (.d p.1.d, p.2)) (h : ev fl c e ρ = some (.ok (r, ρ'))) (hd : r.d = d) : evoOf e (ev fl c e) ρ = some (.ok (.d d, ρ')) := by rw [← hd]; exact o_ex h hv
theorem w_idx {a b : Ex} {o : Opd} {r : Sl} {x y z : D} (ha : evoOf a (ev fl c a) ρ = some (.ok (o, ρ1))) (hb : ev fl c b ρ1 = some (.ok (r, ρ'))) (hx : rdo ρ' o = some x) (hr : r.d = y) (hy : idxD x y = some z) : ev fl c (.idx a b) ρ = some (.ok (.val z, ρ')) := v_idx ha hb hx (by rw [hr]; exact hy)
theorem w_neg {a : Ex} {r : Sl} {i : Int} (h : ev fl c a ρ = some (.ok (r, ρ'))) (hd : r.d = .int i) : ev fl c (.neg a) ρ = some (.ok (.val (.int (-i)), ρ')) := by
  show bd (ev fl c a ρ) _ = _
  rw [h, bd_some]
  simp only [hd]
theorem w_isn {neg : Bool} {a : Ex} {op : Opd} {d : D} (h : evoOf a (ev fl c a) ρ = some (.ok (op, ρ'))) (hd : rdo ρ' op = some d) : ev fl c (.isn neg a) ρ = some (.ok (.val (.bool (isNo d != neg)), ρ')) := by
  show bd (evoOf a (ev fl c a) ρ) _ = _
  rw [h, bd_some]
  cases d <;> simp only [hd, isNo] <;> cases neg <;> rfl
theorem w_isb {neg b k : Bool} {a : Ex} {r : Sl} (h : ev fl c a ρ = some (.ok (r, ρ'))) (hd : r.d = .bool k) : ev fl c (.isb neg b a) ρ = some (.ok (.val (.bool ((k == b) != neg)), ρ')) := by
  show bd (ev fl c a ρ) _ = _
  rw [h, bd_some]
  simp only [hd]
theorem w_and {a b : Ex} {r : Sl} {k : Bool} {o : M (Sl × Env)} (ha : ev fl c a ρ = some (.ok (r, ρ1))) (hr : r.d = .bool k) (hb : pick k (ev fl c b ρ1) (some (.ok (.val (.bool false), ρ1))) = o) : ev fl c (.and a b) ρ = o := by
  show bd (ev fl c a ρ) _ = _
  rw [ha, bd_some]
  cases k <;> simp only [hr] <;> exact hb
theorem w_or {a b : Ex} {r : Sl} {k : Bool} {o : M (Sl × Env)} (ha : ev fl c a ρ = some (.ok (r, ρ1))) (hr : r.d = .bool k) (hb : pick k (some (.ok (.val (.bool true), ρ1))) (ev fl c b ρ1) = o) : ev fl c (.or a b) ρ = o := by
  show bd (ev fl c a ρ) _ = _
  rw [ha, bd_some]
  cases k <;> simp only [hr] <;> exact hb
theorem w_not {a : Ex} {r : Sl} {k : Bool} (ha : ev fl c a ρ = some (.ok (r, ρ1))) (hr : r.d = .bool k) : ev fl c (.not a) ρ = some (.ok (.val (.bool (!k)), ρ1)) := by
  show bd (ev fl c a ρ) _ = _
  rw [ha, bd_some]
  simp only [hr]
theorem w_ite {t : Tx} {a b : Ex} {k : Bool} {o : M (Sl × Env)} (ht : evt fl c t ρ = some (.ok (k, ρ1))) (h : pick k (ev fl c a ρ1) (ev fl c b ρ1) = o) : ev fl c (.ite t a b) ρ = o := by
  show bd (evt fl c t ρ) _ = _
  rw [ht, bd_some]
  cases k <;> exact h
theorem w_chn {o o' : Cop} {a b e : Ex} {r s t : Sl} {x y z : D} {k : Bool} {u : M (Sl × Env)} (ha : ev fl c a ρ = some (.ok (r, ρ1))) (hx : r.d = x) (hb : ev fl c b ρ1 = some (.ok (s, ρ2))) (hy : s.d = y) (hk : cmpD o x y = some k) (h : pick k (bd (ev fl c e ρ2) fun r => lift ((cmpD o' y r.1.d).map fun b => Sl.val (.bool b)) r.2) (some (.ok (.val (.bool false), ρ2))) = u) : ev fl c (.chn o o' a b e) ρ = u := by
  show bd (ev fl c a ρ) _ = _
  rw [ha, bd_some]
  show bd (ev fl c b ρ1) _ = _
  rw [hb, bd_some]
  cases k <;> simp only [hx, hy, hk] <;> exact h
theorem w_chn2 {o' : Cop} {e : Ex} {y z : D} {t : Sl} {k : Bool} (he : ev fl c e ρ = some (.ok (t, ρ'))) (hz : t.d = z) (hk : cmpD o' y z = some k) : (bd (ev fl c e ρ) fun r => lift ((cmpD o' y r.1.d).map fun b => Sl.val (.bool b)) r.2) = some (.ok (.val (.bool k), ρ')) := by
  rw [he, bd_some]
  show lift ((cmpD o' y t.d).map _) ρ' = _
  rw [hz, hk]; rfl
theorem G_chn2 {o' : Cop} {e : Ex} {y : D} {u : M (Sl × Env)} (h : (bd (ev fl c e ρ) fun r => lift ((cmpD o' y r.1.d).map fun b => Sl.val (.bool b)) r.2) = u) : (bd (ev fl c e ρ) fun r => lift ((cmpD o' y r.1.d).map fun b => Sl.val (.bool b)) r.2) = u := h
theorem s_nil : evos fl c .nil ρ = some (.ok ([], ρ)) := rfl
theorem s_cons {e : Ex} {es : Exs} {o : Opd} {os : List Opd} (h : evoOf e (ev fl c e) ρ = some (.ok (o, ρ1))) (h2 : evos fl c es ρ1 = some (.ok (os, ρ'))) : evos fl c (.cons e es) ρ = some (.ok (o :: os, ρ')) := by
  show bd (evoOf e (ev fl c e) ρ) _ = _
  rw [h, bd_some]
  show bd (evos fl c es ρ1) _ = _
  rw [h2]; rfl
theorem w_blt {b : Blt} {es : Exs} {os : List Opd} {ds : List D} {r : Sl} (h : evos fl c es ρ = some (.ok (os, ρ'))) (hd : rdAll ρ' os = some ds) (hr : bltD b ds = some r) : ev fl c (.blt b es) ρ = some (.ok (r, ρ')) := by
  show bd (evos fl c es ρ) _ = _
  rw [h, bd_some]
  simp only [hd, hr, lift, rt]
theorem r_nil : rdAll ρ [] = some [] := rfl
theorem r_cons {o : Opd} {os : List Opd} {d : D} {ds : List D} (h : rdo ρ o = some d) (h2 : rdAll ρ os = some ds) : rdAll ρ (o :: os) = some (d :: ds) := by
  show (rdo ρ o).bind _ = _
  rw [h, Option.bind_some, h2]; rfl
theorem rdo_d {d : D} : rdo ρ (.d d) = some d := rfl
theorem rdo_t {d : D} : rdo ρ (.t d) = some d := rfl
theorem rdo_sv {i : Nat} {d : D} (h : ρ[i]? = some (some (.val d))) : rdo ρ (.s i) = some d := rdo_s h
theorem rdo_so {i : Nat} {l : Bool} {d : D} (h : ρ[i]? = some (some (.own l d))) : rdo ρ (.s i) = some d := rdo_s h
theorem w_an {bs0 : List Bool} (hb : bs0 = []) : eva fl c bs0 .nil ρ = some (.ok ([], ρ)) := by rw [hb]; rfl
theorem w_ai {bs0 bs : List Bool} {i : Nat} {l : Bool} {d : D} {es : Exs} {os : List Opd} (hb : bs0 = true :: bs) (h : ρ[i]? = some (some (.own l d))) (h2 : eva fl c bs es ρ = some (.ok (os, ρ'))) : eva fl c bs0 (.cons (.var i) es) ρ = some (.ok (.s i :: os, ρ')) := by rw [hb]; exact a_in h h2
theorem w_ad {bs0 bs : List Bool} {e : Ex} {r : Sl} {d : D} {es : Exs} {os : List Opd} (hb : bs0 = false :: bs) (h : ev fl c e ρ = some (.ok (r, ρ1))) (hd : r.d = d) (h2 : eva fl c bs es ρ1 = some (.ok (os, ρ'))) : eva fl c bs0 (.cons e es) ρ = some (.ok (.d d :: os, ρ')) := by rw [hb, ← hd]; exact a_d h h2
theorem w_at {bs0 bs : List Bool} {e : Ex} {d : D} {es : Exs} {os : List Opd} (hb : bs0 = true :: bs) (hv : evlOf e (ev fl c e) ρ = bd (ev fl c e ρ) fun p => match p.1 with
    | .own false d => rt (.t d, p.2)
    | _ => none) (h : ev fl c e ρ = some (.ok (.own false d, ρ1))) (h2 : eva fl c bs es ρ1 = some (.ok (os, ρ'))) : eva fl c bs0 (.cons e es) ρ = some (.ok (.t d :: os, ρ')) := by
  rw [hb]
  show bd (evlOf e (ev fl c e) ρ) _ = _
  rw [hv, h, bd_some]
  show bd (rt (Opd.t d, ρ1)) _ = _
  rw [bd_rt]
  show bd (eva fl c bs es ρ1) _ = _
  rw [h2]; rfl
theorem l_0 {bs : List Bool} {os : List Opd} (h : lentOf bs os = []) (ht : tempOk bs os = true) : (lentOf bs os).Nodup ∧ ownAll ρ (lentOf bs os) = true ∧ tempOk bs os = true := by rw [h]; exact ⟨List.nodup_nil, rfl, ht⟩
theorem l_1 {bs : List Bool} {os : List Opd} {i : Nat} (h : lentOf bs os = [i]) (ho : ownAll ρ [i] = true) (ht : tempOk bs os = true) : (lentOf bs os).Nodup ∧ ownAll ρ (lentOf bs os) = true ∧ tempOk bs os = true := by rw [h]; exact ⟨by simp, ho, ht⟩
theorem b_nil : backIn [] [] [] ρ = some ρ := rfl
theorem b_n {bs0 : List Bool} {r : Option Env} (hb : bs0 = []) (h : some ρ = r) : backIn bs0 [] [] ρ = r := by rw [hb]; exact h
theorem b_f {bs0 bs : List Bool} {o : Opd} {os : List Opd} {outs : List D} {r : Option Env} (hb : bs0 = false :: bs) (h : backIn bs os outs ρ = r) : backIn bs0 (o :: os) outs ρ = r := by rw [hb, ← h]; cases o <;> cases outs <;> rfl
theorem b_t {bs0 bs : List Bool} {i : Nat} {os : List Opd} {l : Bool} {d0 d : D} {outs : List D} {r : Option Env} (hb : bs0 = true :: bs) (hg : ρ[i]? = some (some (.own l d0))) (hs : SetAt ρ i (some (.own l d)) ρ1) (h : backIn bs os outs ρ1 = r) : backIn bs0 (.s i :: os) (d :: outs) ρ = r := by
  rw [hb]
  show (match ρ[i]? with
    | some (some (.own l _)) => _
    | _ => _) = _
  rw [hg, ← h, ← hs.eq.2]
theorem b_tt {bs0 bs : List Bool} {os : List Opd} {d0 d : D} {outs : List D} {r : Option Env} (hb : bs0 = true :: bs) (h : backIn bs os outs ρ = r) : backIn bs0 (.t d0 :: os) (d :: outs) ρ = r := by rw [hb]; exact h
theorem w_call {f : Nat} {es : Exs} {os : List Opd} {ds outs : List D} {r : Sl} (ha : eva fl c (fl f) es ρ = some (.ok (os, ρ'))) (hd : rdAll ρ' os = some ds) (hl : (lentOf (fl f) os).Nodup ∧ ownAll ρ' (lentOf (fl f) os) = true ∧ tempOk (fl f) os = true) (hc : c f ds = some (.ok (r, outs))) (hb : backIn (fl f) os outs ρ' = some ρ2) : ev fl c (.call f es) ρ = some (.ok (r, ρ2)) := v_call rfl ha hd hl hc hb
theorem w_mut {m : Mut} {i : Nat} {es : Exs} {l0 l : Bool} {d0 d d' r : D} {ds : List D} (hi : ρ[i]? = some (some (.own l0 d0))) (ht : tyD d0 = mutTy m) (he : evf fl c es ρ = some (.ok (ds, ρ'))) (h2 : ρ'[i]? = some (some (.own l d))) (hm : mutD m d ds = some (r, d')) (hs : SetAt ρ' i (some (.own l d')) ρ2) : ev fl c (.mut m i es) ρ = some (.ok (.val r, ρ2)) := by
  show (match ρ[i]? with
    | some (some (.own _ d0)) => _
    | _ => _) = _
  rw [hi]
  show (if tyD d0 = mutTy m then _ else _) = _
  rw [if_pos ht, he, bd_some]
  show (match ρ'[i]? with
    | some (some (.own l d)) => _
    | _ => _) = _
  rw [h2]
  show (match mutD m d ds with
    | some (r, d') => _
    | none => _) = _
  rw [hm, ← hs.eq.2]
theorem w_som {e : Ex} {r : Sl} {i : Int} (h : ev fl c e ρ = some (.ok (r, ρ'))) (hi : r.d = .int i) : evx fl c (.som e) ρ = some (.ok (some i, ρ')) := x_som h hi
theorem w_seq {e : Ex} {r : Sl} {d : D} {xs : List D} (h : ev fl c e ρ = some (.ok (r, ρ'))) (hd : r.d = d) (hx : itemsOf d = some xs) : evi fl c (.seq e) ρ = some (.ok (xs, ρ')) := i_seq h (by rw [hd]; exact hx)
theorem w_rngL {e : Ex} {r : Sl} {n : Nat} (h : ev fl c e ρ = some (.ok (r, ρ'))) (hx : r.d = .int (OfNat.ofNat n)) (hn : Nat.ble n 1000000 = true) : evi fl c (.rng1 e) ρ = some (.ok (iotaD 0 n, ρ')) := i_rng h hx (Nat.le_of_ble_eq_true hn)
def RngN (z : Int) (n : Nat) : Prop := z = (n : Int) ∧ n ≤ 1000000
theorem G_rngn {z : Int} {n : Nat} (h : RngN z n) : RngN z n := h
theorem rn_cast {n : Nat} (h : n ≤ 1000000) : RngN (n : Int) n := ⟨rfl, h⟩
theorem rn_lit {n : Nat} (h : Nat.ble n 1000000 = true) : RngN (OfNat.ofNat n) n := ⟨rfl, Nat.le_of_ble_eq_true h⟩
theorem w_rng {e : Ex} {r : Sl} {z : Int} {n : Nat} (h : ev fl c e ρ = some (.ok (r, ρ'))) (hx : r.d = .int z) (hn : RngN z n) : evi fl c (.rng1 e) ρ = some (.ok (iotaD 0 n, ρ')) := i_rng h (by rw [hx, hn.1]) hn.2
def Bnd (i : Int) : Prop := 0 ≤ i ∧ i ≤ 1000
theorem G_bnd {i : Int} (h : Bnd i) : Bnd i := h
theorem bnd {i : Int} (h : 0 ≤ i) (h2 : i ≤ 1000) : Bnd i := ⟨h, h2⟩
theorem w_rng2 {a b : Ex} {r1 r2 : Sl} {i j : Int} (ha : ev fl c a ρ = some (.ok (r1, ρ1))) (h1 : r1.d = .int i) (hb : ev fl c b ρ1 = some (.ok (r2, ρ2))) (h2 : r2.d = .int j) (hi : Bnd i) (hj : Bnd j) : evi fl c (.rng2 a b) ρ = some (.ok (iotaD i (j - i).toNat, ρ2)) := i_rng2 ha h1 hb h2 hi hj
theorem w_tand {a b : Tx} {k : Bool} {o : M (Bool × Env)} (ha : evt fl c a ρ = some (.ok (k, ρ1))) (hb : pick k (evt fl c b ρ1) (some (.ok (false, ρ1))) = o) : evt fl c (.and a b) ρ = o := by
  show bd (evt fl c a ρ) _ = _
  rw [ha, bd_some]
  cases k <;> exact hb
theorem w_tor {a b : Tx} {k : Bool} {o : M (Bool × Env)} (ha : evt fl c a ρ = some (.ok (k, ρ1))) (hb : pick k (some (.ok (true, ρ1))) (evt fl c b ρ1) = o) : evt fl c (.or a b) ρ = o := by
  show bd (evt fl c a ρ) _ = _
  rw [ha, bd_some]
  cases k <;> exact hb
theorem w_tite {t a b : Tx} {k : Bool} {o : M (Bool × Env)} (ht : evt fl c t ρ = some (.ok (k, ρ1))) (h : pick k (evt fl c a ρ1) (evt fl c b ρ1) = o) : evt fl c (.ite t a b) ρ = o := by
  show bd (evt fl c t ρ) _ = _
  rw [ht, bd_some]
  cases k <;> exact h
theorem w_tyes : evt fl c .yes ρ = some (.ok (true, ρ)) := rfl
/-! statements -/
def contS (fl : Flags) (c : CallF) (m : M Fl) (ss : Sts) : M Fl := bd m fun f => match f with
    | .nx ρ' => evSs fl c ss ρ'
    | f => rt f
theorem G_cont {m : M Fl} {ss : Sts} {o : M Fl} (h : contS fl c m ss = o) : contS fl c m ss = o := h
theorem ss_any {s s2 : St} {ss : Sts} {m o : M Fl} (h : evS fl c s ρ = m) (h2 : contS fl c m (.cons s2 ss) = o) : evSs fl c (.cons s (.cons s2 ss)) ρ = o := by
  rw [← h2, ← h]; rfl
theorem c_nx {ss : Sts} {o : M Fl} (h : evSs fl c ss ρ = o) : contS fl c (some (.ok (.nx ρ))) ss = o := h
theorem c_rt {ss : Sts} {r : Sl} : contS fl c (some (.ok (.rt r ρ))) ss = some (.ok (.rt r ρ)) := rfl
theorem c_bk {ss : Sts} : contS fl c (some (.ok (.bk ρ))) ss = some (.ok (.bk ρ)) := rfl
theorem c_ct {ss : Sts} : contS fl c (some (.ok (.ct ρ))) ss = some (.ok (.ct ρ)) := rfl
theorem c_er {ss : Sts} {x : Exn} : contS fl c (some (.error x)) ss = some (.error x) := rfl
theorem w_ss0 : evSs fl c .nil ρ = some (.ok (.nx ρ)) := rfl
theorem w_iff {t : Tx} {a b : Sts} {k : Bool} {o : M Fl} (h : evt fl c t ρ = some (.ok (k, ρ'))) (h2 : pick k (evSs fl c a ρ') (evSs fl c b ρ') = o) : evS fl c (.iff t a b) ρ = o := by
  show bd (evt fl c t ρ) _ = _
  rw [h, bd_some]
  cases k <;> exact h2
theorem w_asg {i : Nat} {e : Ex} {r : Sl} (h : ev fl c e ρ = some (.ok (r, ρ1))) (hf : free ρ1[i]? = true) (hs : SetAt ρ1 i (some r) ρ') : evS fl c (.asg i e) ρ = some (.ok (.nx ρ')) := s_asg h (setSl_at hf hs)
theorem w_asgT {is : List Nat} {e : Ex} {r : Sl} {d : D} (h : ev fl c e ρ = some (.ok (r, ρ1))) (hd : r.d = d) (h2 : tgS (.tup is) d ρ1 = some ρ') : evS fl c (.asgT is e) ρ = some (.ok (.nx ρ')) := s_asgT h (by rw [hd]; exact h2)
theorem g_name {i : Nat} {d : D} (hf : free ρ[i]? = true) (hs : SetAt ρ i (some (.val d)) ρ') : tgS (.name i) d ρ = some ρ' := setSl_at hf hs
theorem g_tup {is : List Nat} {ds : List D} {o : Option Env} (h : setSls ρ is ds = o) : tgS (.tup is) (.tuple ds) ρ = o := h
theorem g_nil : setSls ρ [] [] = some ρ := rfl
theorem g_cons {i : Nat} {is : List Nat} {d : D} {ds : List D} {o : Option Env} (hf : free ρ[i]? = true) (hs : SetAt ρ i (some (.val d)) ρ1) (h : setSls ρ1 is ds = o) : setSls ρ (i :: is) (d :: ds) = o := by
  show (setSl ρ i (.val d)).bind _ = _
  rw [setSl_at hf hs, Option.bind_some]; exact h
theorem w_rv {i : Nat} {d : D} (h : ρ[i]? = some (some (.val d))) : evS fl c (.ret (.var i)) ρ = some (.ok (.rt (.val d) ρ)) := by
  show bd (evrOf (.var i) _ ρ) _ = _
  simp only [evrOf, h, bd_rt, rt]
theorem w_ro {i : Nat} {d : D} (h : ρ[i]? = some (some (.own false d))) (hs : SetAt ρ i none ρ') : evS fl c (.ret (.var i)) ρ = some (.ok (.rt (.own false d) ρ')) := by
  show bd (evrOf (.var i) _ ρ) _ = _
  simp only [evrOf, h, bd_rt, rt, hs.eq.2]
theorem w_rx {e : Ex} {r : Sl} (hv : evrOf e (ev fl c e) ρ = ev fl c e ρ) (h : ev fl c e ρ = some (.ok (r, ρ'))) : evS fl c (.ret e) ρ = some (.ok (.rt r ρ')) := s_ret h hv
theorem w_rN : evS fl c .retN ρ = some (.ok (.rt (.val .none) ρ)) := rfl
theorem w_brk : evS fl c .brk ρ = some (.ok (.bk ρ)) := rfl
theorem w_cnt : evS fl c .cnt ρ = some (.ok (.ct ρ)) := rfl
theorem w_pas : evS fl c .pas ρ = some (.ok (.nx ρ)) := rfl
theorem w_sto {i : Nat} {k v : Ex} {l : Bool} {r s : Sl} {x y d d' : D} (hv : ev fl c v ρ = some (.ok (r, ρ1))) (hr : r.d = x) (ho : ownAll ρ1 [i] = true) (hk : ev fl c k ρ1 = some (.ok (s, ρ2))) (hs : s.d = y) (hg : ρ2[i]? = some (some (.own l d))) (hd : setD d y x = some d') (ha : SetAt ρ2 i (some (.own l d')) ρ') : evS fl c (.sto i k v) ρ = some (.ok (.nx ρ')) := by
  show bd (ev fl c v ρ) _ = _
  rw [hv, bd_some]
  show (if ownAll ρ1 [i] = true then _ else _) = _
  rw [if_pos ho, hk, bd_some]
  show (match ρ2[i]? with
    | some (some (.own l d)) => _
    | _ => _) = _
  rw [hg]
  show (match setD d s.d r.d with
    | some d' => _
    | none => _) = _
  rw [hr, hs, hd, ← ha.eq.2]
theorem w_turn {tg : Tg} {body : Sts} {x : D} {o : M Fl} (h : tgS tg x ρ = some ρ2) (h2 : evSs fl c body ρ2 = o) : turn fl c tg body x ρ = o := turn_o h h2
def runOf (bs : List Bool) (m : M Fl) : M (Sl × List D) := bd m fun f => match f with
    | .nx ρ => (match outsOf bs ρ with
      | some os => rt (.val .none, os)
      | none => none)
    | .rt r ρ => (match outsOf bs ρ with
      | some os => rt (r, os)
      | none => none)
    | _ => none
theorem call_go {T : List Def} {n f : Nat} {d : Def} {ds : List D} {B : Sts} {bs : List Bool} {E : Env} {o : M (Sl × List D)} (h : T[f]? = some d) (hl : ds.length = d.flags.length) (hB : d.body = B) (hb : d.flags = bs) (hE : startE d ds = E) (hr : runOf bs (evSs (flagsOf T) (call T n) B E) = o) : call T (n + 1) f ds = o := by
  rw [call_at h]
  unfold runDef
  rw [if_pos hl, hB, hE, hb]
  exact hr
theorem ro_rt {bs : List Bool} {m : M Fl} {r : Sl} {os : List D} (h : m = some (.ok (.rt r ρ))) (ho : outsOf bs ρ = some os) : runOf bs m = some (.ok (r, os)) := by
  rw [h]
  show (match outsOf bs ρ with
      | some os => _
      | none => _) = _
  rw [ho]
theorem ro_nx {bs : List Bool} {m : M Fl} {os : List D} (h : m = some (.ok (.nx ρ))) (ho : outsOf bs ρ = some os) : runOf bs m = some (.ok (.val .none, os)) := by
  rw [h]
  show (match outsOf bs ρ with
      | some os => _
      | none => _) = _
  rw [ho]
theorem ro_er {bs : List Bool} {m : M Fl} {x : Exn} (h : m = some (.error x)) : runOf bs m = some (.error x) := by rw [h]; rfl
end
end Ev
end
section
set_option maxHeartbeats 200000
set_option maxRecDepth 100000
/-! How the calls begin: written by wip/mk_j.py. -/
namespace EvM
open PySem Ev
abbrev b_is_tree_of : Sts := (.cons (.iff (.or (.not (.tr (.isi (.var 2) .tuple))) (.or (.tr (.cmp .eq (.blt .len (.cons (.var 2) .nil)) (.con (.int 0)))) (.not (.tr (.isi (.idx (.var 2) (.con (.int 0))) .str))))) (.cons (.ret (.con (.bool false))) .nil) .nil) (.cons (.fr (.tup [3, 4, 5]) (.seq (.var 0)) (.cons (.iff (.tr (.cmp .eq (.var 3) (.idx (.var 2) (.con (.int 0))))) (.cons (.iff (.or (.and (.tr (.isn true (.var 1))) (.tr (.cmp .ne (.var 4) (.var 1)))) (.tr (.cmp .ne (.blt .len (.cons (.var 5) .nil)) (.bin .sub (.blt .len (.cons (.var 2) .nil)) (.con (.int 1)))))) (.cons (.ret (.con (.bool false))) .nil) .nil) (.cons (.fr (.name 6) (.rng1 (.blt .len (.cons (.var 5) .nil))) (.cons (.iff (.not (.tr (.call 0 (.cons (.var 0) (.cons (.idx (.var 5) (.var 6)) (.cons (.idx (.var 2) (.bin .add (.var 6) (.con (.int 1)))) .nil)))))) (.cons (.ret (.con (.bool false))) .nil) .nil) .nil)) (.cons (.ret (.con (.bool true))) .nil))) .nil) .nil)) (.cons (.ret (.con (.bool false))) .nil)))
theorem go_is_tree_of {n : Nat} {x0 x1 x2 : D} {o : M (Sl × List D)} (h : runOf [false, false, false] (evSs (flagsOf tab) (call tab n) b_is_tree_of [some (.val x0), some (.val x1), some (.val x2), none, none, none, none]) = o) : call tab (n + 1) 0 [x0, x1, x2] = o := call_go (d := d_is_tree_of) rfl rfl rfl rfl rfl h
abbrev b_is_tree : Sts := (.cons (.ret (.call 0 (.cons (.var 0) (.cons (.con .none) (.cons (.var 1) .nil))))) .nil)
theorem go_is_tree {n : Nat} {x0 x1 : D} {o : M (Sl × List D)} (h : runOf [false, false] (evSs (flagsOf tab) (call tab n) b_is_tree [some (.val x0), some (.val x1)]) = o) : call tab (n + 1) 1 [x0, x1] = o := call_go (d := d_is_tree) rfl rfl rfl rfl rfl h
abbrev b_sort_of : Sts := (.cons (.fr (.tup [2, 3, 4]) (.seq (.var 0)) (.cons (.iff (.tr (.cmp .eq (.var 2) (.idx (.var 1) (.con (.int 0))))) (.cons (.ret (.var 3)) .nil) .nil) .nil)) (.cons (.ret (.con .none)) .nil))
theorem go_sort_of {n : Nat} {x0 x1 : D} {o : M (Sl × List D)} (h : runOf [false, false] (evSs (flagsOf tab) (call tab n) b_sort_of [some (.val x0), some (.val x1), none, none, none]) = o) : call tab (n + 1) 2 [x0, x1] = o := call_go (d := d_sort_of) rfl rfl rfl rfl rfl h
abbrev b_size : Sts := (.cons (.ret (.bin .add (.con (.int 1)) (.blt .sum (.cons (.comp [1] (.call 3 (.cons (.var 1) .nil)) (.name 1) (.seq (.sl (.var 0) (.som (.con (.int 1))) .non)) .yes) .nil)))) .nil)
theorem go_size {n : Nat} {x0 : D} {o : M (Sl × List D)} (h : runOf [false] (evSs (flagsOf tab) (call tab n) b_size [some (.val x0), none]) = o) : call tab (n + 1) 3 [x0] = o := call_go (d := d_size) rfl rfl rfl rfl rfl h
abbrev b_depth : Sts := (.cons (.ret (.bin .add (.con (.int 1)) (.mxd false (.comp [1] (.call 4 (.cons (.var 1) .nil)) (.name 1) (.seq (.sl (.var 0) (.som (.con (.int 1))) .non)) .yes) 0))) .nil)
theorem go_depth {n : Nat} {x0 : D} {o : M (Sl × List D)} (h : runOf [false] (evSs (flagsOf tab) (call tab n) b_depth [some (.val x0), none]) = o) : call tab (n + 1) 4 [x0] = o := call_go (d := d_depth) rfl rfl rfl rfl rfl h
abbrev b_paths : Sts := (.cons (.asg 1 (.lst (.cons (.tup .nil) .nil))) (.cons (.fr (.name 2) (.rng2 (.con (.int 1)) (.blt .len (.cons (.var 0) .nil))) (.cons (.fr (.name 3) (.seq (.call 5 (.cons (.idx (.var 0) (.var 2)) .nil))) (.cons (.drop (.mut .append 1 (.cons (.bin .add (.tup (.cons (.var 2) .nil)) (.var 3)) .nil))) .nil)) .nil)) (.cons (.ret (.var 1)) .nil)))
theorem go_paths {n : Nat} {x0 : D} {o : M (Sl × List D)} (h : runOf [false] (evSs (flagsOf tab) (call tab n) b_paths [some (.val x0), none, none, none]) = o) : call tab (n + 1) 5 [x0] = o := call_go (d := d_paths) rfl rfl rfl rfl rfl h
abbrev b_part_at : Sts := (.cons (.asg 2 (.var 0)) (.cons (.fr (.name 3) (.seq (.var 1)) (.cons (.iff (.not (.tr (.chn .le .lt (.con (.int 1)) (.var 3) (.blt .len (.cons (.var 2) .nil))))) (.cons (.rse 1 ["path"] (.cons (.var 1) .nil)) .nil) .nil) (.cons (.asg 2 (.idx (.var 2) (.var 3))) .nil))) (.cons (.ret (.var 2)) .nil)))
theorem go_part_at {n : Nat} {x0 x1 : D} {o : M (Sl × List D)} (h : runOf [false, false] (evSs (flagsOf tab) (call tab n) b_part_at [some (.val x0), some (.val x1), none, none]) = o) : call tab (n + 1) 6 [x0, x1] = o := call_go (d := d_part_at) rfl rfl rfl rfl rfl h
abbrev b_with_part : Sts := (.cons (.asg 4 (.call 6 (.cons (.var 1) (.cons (.var 2) .nil)))) (.cons (.iff (.tr (.cmp .ne (.call 2 (.cons (.var 0) (.cons (.var 4) .nil))) (.call 2 (.cons (.var 0) (.cons (.var 3) .nil))))) (.cons (.rse 2 [] .nil) .nil) .nil) (.cons (.ret (.call 8 (.cons (.var 1) (.cons (.var 2) (.cons (.var 3) .nil))))) .nil)))
theorem go_with_part {n : Nat} {x0 x1 x2 x3 : D} {o : M (Sl × List D)} (h : runOf [false, false, false, false] (evSs (flagsOf tab) (call tab n) b_with_part [some (.val x0), some (.val x1), some (.val x2), some (.val x3), none]) = o) : call tab (n + 1) 7 [x0, x1, x2, x3] = o := call_go (d := d_with_part) rfl rfl rfl rfl rfl h
abbrev b_exchanged_part : Sts := (.cons (.iff (.tr (.cmp .eq (.blt .len (.cons (.var 1) .nil)) (.con (.int 0)))) (.cons (.ret (.var 2)) .nil) .nil) (.cons (.asg 3 (.idx (.var 1) (.con (.int 0)))) (.cons (.ret (.bin .add (.bin .add (.sl (.var 0) .non (.som (.var 3))) (.tup (.cons (.call 8 (.cons (.idx (.var 0) (.var 3)) (.cons (.sl (.var 1) (.som (.con (.int 1))) .non) (.cons (.var 2) .nil)))) .nil))) (.sl (.var 0) (.som (.bin .add (.var 3) (.con (.int 1)))) .non))) .nil)))
theorem go_exchanged_part {n : Nat} {x0 x1 x2 : D} {o : M (Sl × List D)} (h : runOf [false, false, false] (evSs (flagsOf tab) (call tab n) b_exchanged_part [some (.val x0), some (.val x1), some (.val x2), none]) = o) : call tab (n + 1) 8 [x0, x1, x2] = o := call_go (d := d_exchanged_part) rfl rfl rfl rfl rfl h
abbrev b_law_same : Sts := (.cons (.iff (.or (.tr (.isi (.var 1) .bool)) (.tr (.isi (.var 0) .bool))) (.cons (.ret (.and (.isi (.var 1) .bool) (.and (.isi (.var 0) .bool) (.cmp .eq (.var 0) (.var 1))))) .nil) .nil) (.cons (.iff (.or (.tr (.isn false (.var 1))) (.tr (.isi (.var 1) .int))) (.cons (.ret (.and (.cmp .eq (.var 0) (.var 1)) (.or (.isn false (.var 1)) (.isi (.var 0) .int)))) .nil) .nil) (.cons (.iff (.tr (.isi (.var 1) .str)) (.cons (.ret (.and (.isi (.var 0) .str) (.cmp .eq (.var 0) (.var 1)))) .nil) .nil) (.cons (.iff (.or (.tr (.cmp .ne (.isi (.var 1) .list) (.isi (.var 0) .list))) (.tr (.cmp .ne (.isi (.var 1) .tuple) (.isi (.var 0) .tuple)))) (.cons (.ret (.con (.bool false))) .nil) .nil) (.cons (.iff (.tr (.cmp .ne (.blt .len (.cons (.var 0) .nil)) (.blt .len (.cons (.var 1) .nil)))) (.cons (.ret (.con (.bool false))) .nil) .nil) (.cons (.fr (.name 2) (.rng1 (.blt .len (.cons (.var 1) .nil))) (.cons (.iff (.not (.tr (.call 9 (.cons (.idx (.var 0) (.var 2)) (.cons (.idx (.var 1) (.var 2)) .nil))))) (.cons (.ret (.con (.bool false))) .nil) .nil) .nil)) (.cons (.ret (.con (.bool true))) .nil)))))))
theorem go_law_same {n : Nat} {x0 x1 : D} {o : M (Sl × List D)} (h : runOf [false, false] (evSs (flagsOf tab) (call tab n) b_law_same [some (.val x0), some (.val x1), none]) = o) : call tab (n + 1) 9 [x0, x1] = o := call_go (d := d_law_same) rfl rfl rfl rfl rfl h
abbrev b_law_number : Sts := (.cons (.asg 2 (.bin .add (.bin .mul (.blt .sum (.cons (.var 0) .nil)) (.con (.int 31))) (.bin .mul (.con (.int 1000003)) (.bin .add (.var 1) (.con (.int 1)))))) (.cons (.iff (.tr (.cmp .lt (.var 1) (.blt .len (.cons (.var 0) .nil)))) (.cons (.asg 2 (.idx (.var 0) (.var 1))) .nil) .nil) (.cons (.ret (.blt .abs (.cons (.var 2) .nil))) .nil)))
theorem go_law_number {n : Nat} {x0 x1 : D} {o : M (Sl × List D)} (h : runOf [false, false] (evSs (flagsOf tab) (call tab n) b_law_number [some (.val x0), some (.val x1), none]) = o) : call tab (n + 1) 10 [x0, x1] = o := call_go (d := d_law_number) rfl rfl rfl rfl rfl h
abbrev b_law_draws : Sts := (.cons (.asg 4 (.call 10 (.cons (.var 0) (.cons (.var 1) .nil)))) (.cons (.asg 5 (.lst .nil)) (.cons (.iff (.tr (.cmp .ge (.var 4) (.bin .pow (.con (.int 10)) (.con (.int 18))))) (.cons (.asg 4 (.bin .sub (.var 4) (.bin .pow (.con (.int 10)) (.con (.int 18))))) (.cons (.fr (.name 6) (.rng1 (.var 2)) (.cons (.drop (.mut .append 5 (.cons (.bin .mod (.var 4) (.var 3)) .nil))) (.cons (.asg 4 (.bin .fdiv (.var 4) (.var 3))) .nil))) (.cons (.ret (.var 5)) .nil))) .nil) (.cons (.asg 7 (.bin .add (.bin .mod (.var 4) (.con (.int 2147483647))) (.con (.int 1)))) (.cons (.fr (.name 6) (.rng1 (.var 2)) (.cons (.asg 7 (.bin .mod (.bin .add (.bin .add (.bin .mul (.var 7) (.con (.int 48271))) (.bin .mul (.con (.int 11)) (.var 6))) (.con (.int 7))) (.con (.int 2147483647)))) (.cons (.asg 8 (.bin .mod (.bin .add (.bin .add (.bin .mul (.var 7) (.var 7)) (.bin .mul (.con (.int 69621)) (.var 6))) (.con (.int 5))) (.con (.int 2147483629)))) (.cons (.drop (.mut .append 5 (.cons (.bin .mod (.bin .fdiv (.var 8) (.con (.int 64))) (.var 3)) .nil))) .nil)))) (.cons (.ret (.var 5)) .nil))))))
theorem go_law_draws {n : Nat} {x0 x1 x2 x3 : D} {o : M (Sl × List D)} (h : runOf [false, false, false, false] (evSs (flagsOf tab) (call tab n) b_law_draws [some (.val x0), some (.val x1), some (.val x2), some (.val x3), none, none, none, none, none]) = o) : call tab (n + 1) 11 [x0, x1, x2, x3] = o := call_go (d := d_law_draws) rfl rfl rfl rfl rfl h
abbrev b_law_pick : Sts := (.cons (.iff (.tr (.cmp .eq (.blt .len (.cons (.var 0) .nil)) (.con (.int 0)))) (.cons (.ret (.con (.int 0))) .nil) .nil) (.cons (.ret (.mut .pop 0 .nil)) .nil))
theorem go_law_pick {n : Nat} {x0 : D} {o : M (Sl × List D)} (h : runOf [true] (evSs (flagsOf tab) (call tab n) b_law_pick [some (.own true x0)]) = o) : call tab (n + 1) 12 [x0] = o := call_go (d := d_law_pick) rfl rfl rfl rfl rfl h
abbrev b_law_picks : Sts := (.cons (.asg 3 (.call 11 (.cons (.var 0) (.cons (.var 1) (.cons (.var 2) (.cons (.con (.int 5040)) .nil)))))) (.cons (.drop (.mut .reverse 3 .nil)) (.cons (.ret (.var 3)) .nil)))
theorem go_law_picks {n : Nat} {x0 x1 x2 : D} {o : M (Sl × List D)} (h : runOf [false, false, false] (evSs (flagsOf tab) (call tab n) b_law_picks [some (.val x0), some (.val x1), some (.val x2), none]) = o) : call tab (n + 1) 13 [x0, x1, x2] = o := call_go (d := d_law_picks) rfl rfl rfl rfl rfl h
abbrev b_law_sorts : Sts := (.cons (.ret (.blt .tuple (.cons (.blt .dict (.cons (.comp [1] (.tup (.cons (.idx (.var 1) (.con (.int 1))) (.cons (.con (.int 0)) .nil))) (.name 1) (.seq (.var 0)) .yes) .nil)) .nil))) .nil)
theorem go_law_sorts {n : Nat} {x0 : D} {o : M (Sl × List D)} (h : runOf [false] (evSs (flagsOf tab) (call tab n) b_law_sorts [some (.val x0), none]) = o) : call tab (n + 1) 14 [x0] = o := call_go (d := d_law_sorts) rfl rfl rfl rfl rfl h
abbrev b_law_stock : Sts := (.cons (.asg 3 (.sl (.tup (.cons (.con (.str "s")) (.cons (.con (.str "t")) (.cons (.con (.str "u")) (.cons (.con (.str "w")) .nil))))) .non (.som (.var 1)))) (.cons (.asg 4 (.comp [5] (.tup (.cons (.bin .add (.con (.str "e")) (.blt .str (.cons (.var 5) .nil))) (.cons (.idx (.var 3) (.var 5)) (.cons (.tup .nil) .nil)))) (.name 5) (.rng1 (.var 1)) .yes)) (.cons (.asg 6 (.lst .nil)) (.cons (.fr (.name 5) (.rng1 (.bin .mod (.call 12 (.cons (.var 0) .nil)) (.bin .add (.var 2) (.con (.int 1))))) (.cons (.asg 7 (.blt .tuple (.cons (.comp [8] (.idx (.var 3) (.bin .mod (.call 12 (.cons (.var 0) .nil)) (.var 1))) (.name 8) (.rng1 (.bin .add (.con (.int 1)) (.bin .mod (.call 12 (.cons (.var 0) .nil)) (.con (.int 2))))) .yes) .nil))) (.cons (.drop (.mut .append 6 (.cons (.tup (.cons (.bin .add (.con (.str "m")) (.blt .str (.cons (.var 5) .nil))) (.cons (.idx (.var 3) (.bin .mod (.call 12 (.cons (.var 0) .nil)) (.var 1))) (.cons (.var 7) .nil)))) .nil))) .nil))) (.cons (.iff (.tr (.cmp .eq (.bin .mod (.call 12 (.cons (.var 0) .nil)) (.con (.int 2))) (.con (.int 0)))) (.cons (.ret (.blt .tuple (.cons (.bin .add (.var 4) (.var 6)) .nil))) .nil) .nil) (.cons (.ret (.blt .tuple (.cons (.bin .add (.var 6) (.var 4)) .nil))) .nil))))))
theorem go_law_stock {n : Nat} {x0 x1 x2 : D} {o : M (Sl × List D)} (h : runOf [true, false, false] (evSs (flagsOf tab) (call tab n) b_law_stock [some (.own true x0), some (.val x1), some (.val x2), none, none, none, none, none, none]) = o) : call tab (n + 1) 15 [x0, x1, x2] = o := call_go (d := d_law_stock) rfl rfl rfl rfl rfl h
abbrev b_law_maker : Sts := (.cons (.ret (.idx (.comp [2] (.var 2) (.name 2) (.rng1 (.blt .len (.cons (.var 0) .nil))) (.tr (.cmp .eq (.idx (.idx (.var 0) (.var 2)) (.con (.int 0))) (.var 1)))) (.con (.int 0)))) .nil)
theorem go_law_maker {n : Nat} {x0 x1 : D} {o : M (Sl × List D)} (h : runOf [false, false] (evSs (flagsOf tab) (call tab n) b_law_maker [some (.val x0), some (.val x1), none]) = o) : call tab (n + 1) 16 [x0, x1] = o := call_go (d := d_law_maker) rfl rfl rfl rfl rfl h
abbrev b_law_sort : Sts := (.cons (.ret (.idx (.idx (.var 0) (.call 16 (.cons (.var 0) (.cons (.idx (.var 1) (.con (.int 0))) .nil)))) (.con (.int 1)))) .nil)
theorem go_law_sort {n : Nat} {x0 x1 : D} {o : M (Sl × List D)} (h : runOf [false, false] (evSs (flagsOf tab) (call tab n) b_law_sort [some (.val x0), some (.val x1)]) = o) : call tab (n + 1) 17 [x0, x1] = o := call_go (d := d_law_sort) rfl rfl rfl rfl rfl h
abbrev b_law_knots : Sts := (.cons (.asg 1 (.lst (.cons (.tup (.cons (.tup .nil) (.cons (.var 0) .nil))) .nil))) (.cons (.fr (.name 2) (.rng2 (.con (.int 1)) (.blt .len (.cons (.var 0) .nil))) (.cons (.asg 1 (.bin .add (.var 1) (.comp [3, 4] (.tup (.cons (.bin .add (.tup (.cons (.var 2) .nil)) (.var 3)) (.cons (.var 4) .nil))) (.tup [3, 4]) (.seq (.call 18 (.cons (.idx (.var 0) (.var 2)) .nil))) .yes))) .nil)) (.cons (.ret (.var 1)) .nil)))
theorem go_law_knots {n : Nat} {x0 : D} {o : M (Sl × List D)} (h : runOf [false] (evSs (flagsOf tab) (call tab n) b_law_knots [some (.val x0), none, none, none, none]) = o) : call tab (n + 1) 18 [x0] = o := call_go (d := d_law_knots) rfl rfl rfl rfl rfl h
abbrev b_law_size : Sts := (.cons (.ret (.bin .add (.con (.int 1)) (.blt .sum (.cons (.comp [1] (.call 19 (.cons (.var 1) .nil)) (.name 1) (.seq (.sl (.var 0) (.som (.con (.int 1))) .non)) .yes) .nil)))) .nil)
theorem go_law_size {n : Nat} {x0 : D} {o : M (Sl × List D)} (h : runOf [false] (evSs (flagsOf tab) (call tab n) b_law_size [some (.val x0), none]) = o) : call tab (n + 1) 19 [x0] = o := call_go (d := d_law_size) rfl rfl rfl rfl rfl h
abbrev b_law_tree : Sts := (.cons (.asg 4 (.comp [5] (.var 5) (.name 5) (.seq (.var 1)) (.and (.tr (.cmp .eq (.idx (.var 5) (.con (.int 1))) (.var 2))) (.or (.tr (.cmp .gt (.var 3) (.con (.int 0)))) (.tr (.cmp .eq (.idx (.var 5) (.con (.int 2))) (.tup .nil))))))) (.cons (.asg 5 (.idx (.var 4) (.bin .mod (.call 12 (.cons (.var 0) .nil)) (.blt .len (.cons (.var 4) .nil))))) (.cons (.ret (.bin .add (.tup (.cons (.idx (.var 5) (.con (.int 0))) .nil)) (.blt .tuple (.cons (.comp [6] (.call 20 (.cons (.var 0) (.cons (.var 1) (.cons (.var 6) (.cons (.bin .sub (.var 3) (.con (.int 1))) .nil))))) (.name 6) (.seq (.idx (.var 5) (.con (.int 2)))) .yes) .nil)))) .nil)))
theorem go_law_tree {n : Nat} {x0 x1 x2 x3 : D} {o : M (Sl × List D)} (h : runOf [true, false, false, false] (evSs (flagsOf tab) (call tab n) b_law_tree [some (.own true x0), some (.val x1), some (.val x2), some (.val x3), none, none, none]) = o) : call tab (n + 1) 20 [x0, x1, x2, x3] = o := call_go (d := d_law_tree) rfl rfl rfl rfl rfl h
abbrev b_law_small_tree : Sts := (.cons (.asg 5 (.call 20 (.cons (.var 0) (.cons (.var 1) (.cons (.var 2) (.cons (.var 3) .nil)))))) (.cons (.iff (.tr (.cmp .le (.call 19 (.cons (.var 5) .nil)) (.var 4))) (.cons (.ret (.var 5)) .nil) .nil) (.cons (.ret (.call 20 (.cons (.var 0) (.cons (.var 1) (.cons (.var 2) (.cons (.con (.int 0)) .nil)))))) .nil)))
theorem go_law_small_tree {n : Nat} {x0 x1 x2 x3 x4 : D} {o : M (Sl × List D)} (h : runOf [true, false, false, false, false] (evSs (flagsOf tab) (call tab n) b_law_small_tree [some (.own true x0), some (.val x1), some (.val x2), some (.val x3), some (.val x4), none]) = o) : call tab (n + 1) 21 [x0, x1, x2, x3, x4] = o := call_go (d := d_law_small_tree) rfl rfl rfl rfl rfl h
abbrev b_law_is_tree : Sts := (.cons (.iff (.or (.not (.tr (.isi (.var 2) .tuple))) (.or (.tr (.cmp .eq (.blt .len (.cons (.var 2) .nil)) (.con (.int 0)))) (.not (.tr (.isi (.idx (.var 2) (.con (.int 0))) .str))))) (.cons (.ret (.con (.bool false))) .nil) .nil) (.cons (.asg 3 (.comp [4] (.var 4) (.name 4) (.seq (.var 0)) (.and (.tr (.cmp .eq (.idx (.var 4) (.con (.int 0))) (.idx (.var 2) (.con (.int 0))))) (.or (.tr (.isn false (.var 1))) (.tr (.cmp .eq (.idx (.var 4) (.con (.int 1))) (.var 1))))))) (.cons (.iff (.or (.tr (.cmp .eq (.blt .len (.cons (.var 3) .nil)) (.con (.int 0)))) (.tr (.cmp .ne (.blt .len (.cons (.idx (.idx (.var 3) (.con (.int 0))) (.con (.int 2))) .nil)) (.bin .sub (.blt .len (.cons (.var 2) .nil)) (.con (.int 1)))))) (.cons (.ret (.con (.bool false))) .nil) .nil) (.cons (.asg 5 (.comp [6] (.call 22 (.cons (.var 0) (.cons (.idx (.idx (.idx (.var 3) (.con (.int 0))) (.con (.int 2))) (.var 6)) (.cons (.idx (.var 2) (.bin .add (.var 6) (.con (.int 1)))) .nil)))) (.name 6) (.rng1 (.bin .sub (.blt .len (.cons (.var 2) .nil)) (.con (.int 1)))) .yes)) (.cons (.ret (.cmp .notin (.con (.bool false)) (.var 5))) .nil)))))
theorem go_law_is_tree {n : Nat} {x0 x1 x2 : D} {o : M (Sl × List D)} (h : runOf [false, false, false] (evSs (flagsOf tab) (call tab n) b_law_is_tree [some (.val x0), some (.val x1), some (.val x2), none, none, none, none]) = o) : call tab (n + 1) 22 [x0, x1, x2] = o := call_go (d := d_law_is_tree) rfl rfl rfl rfl rfl h
abbrev b_law_depth : Sts := (.cons (.ret (.bin .add (.con (.int 1)) (.blt .max (.cons (.bin .add (.comp [1] (.call 23 (.cons (.var 1) .nil)) (.name 1) (.seq (.sl (.var 0) (.som (.con (.int 1))) .non)) .yes) (.lst (.cons (.con (.int 0)) .nil))) .nil)))) .nil)
theorem go_law_depth {n : Nat} {x0 : D} {o : M (Sl × List D)} (h : runOf [false] (evSs (flagsOf tab) (call tab n) b_law_depth [some (.val x0), none]) = o) : call tab (n + 1) 23 [x0] = o := call_go (d := d_law_depth) rfl rfl rfl rfl rfl h
abbrev b_law_put : Sts := (.cons (.iff (.tr (.cmp .eq (.var 1) (.tup .nil))) (.cons (.ret (.var 2)) .nil) .nil) (.cons (.ret (.blt .tuple (.cons (.comp [3] (.ite (.tr (.cmp .eq (.var 3) (.idx (.var 1) (.con (.int 0))))) (.call 24 (.cons (.idx (.var 0) (.var 3)) (.cons (.sl (.var 1) (.som (.con (.int 1))) .non) (.cons (.var 2) .nil)))) (.idx (.var 0) (.var 3))) (.name 3) (.rng1 (.blt .len (.cons (.var 0) .nil))) .yes) .nil))) .nil))
theorem go_law_put {n : Nat} {x0 x1 x2 : D} {o : M (Sl × List D)} (h : runOf [false, false, false] (evSs (flagsOf tab) (call tab n) b_law_put [some (.val x0), some (.val x1), some (.val x2), none]) = o) : call tab (n + 1) 24 [x0, x1, x2] = o := call_go (d := d_law_put) rfl rfl rfl rfl rfl h
abbrev b_law_part : Sts := (.cons (.tri (.cons (.ret (.call 6 (.cons (.var 0) (.cons (.var 1) .nil)))) .nil) (.cons 1 [1] (some 2) (.ret (.lst (.cons (.con (.str "path")) (.cons (.fld "path") (.cons (.ise 0 [0, 1, 2]) (.cons (.ise 2 [2]) .nil)))))) .nil)) .nil)
theorem go_law_part {n : Nat} {x0 x1 : D} {o : M (Sl × List D)} (h : runOf [false, false] (evSs (flagsOf tab) (call tab n) b_law_part [some (.val x0), some (.val x1), none]) = o) : call tab (n + 1) 25 [x0, x1] = o := call_go (d := d_law_part) rfl rfl rfl rfl rfl h
abbrev b_law_exchanged : Sts := (.cons (.tri (.cons (.ret (.call 7 (.cons (.var 0) (.cons (.var 1) (.cons (.var 2) (.cons (.var 3) .nil)))))) .nil) (.cons 1 [1] (some 4) (.ret (.lst (.cons (.con (.str "path")) (.cons (.fld "path") .nil)))) (.cons 2 [2] (some 4) (.ret (.lst (.cons (.con (.str "sorts")) (.cons (.ise 1 [1]) .nil)))) .nil))) .nil)
theorem go_law_exchanged {n : Nat} {x0 x1 x2 x3 : D} {o : M (Sl × List D)} (h : runOf [false, false, false, false] (evSs (flagsOf tab) (call tab n) b_law_exchanged [some (.val x0), some (.val x1), some (.val x2), some (.val x3), none]) = o) : call tab (n + 1) 26 [x0, x1, x2, x3] = o := call_go (d := d_law_exchanged) rfl rfl rfl rfl rfl h
abbrev b_law : Sts := (.cons (.asg 1 (.call 11 (.cons (.var 0) (.cons (.con (.int 0)) (.cons (.con (.int 4)) (.cons (.con (.int 720)) .nil)))))) (.cons (.asg 2 (.call 13 (.cons (.var 0) (.cons (.con (.int 1)) (.cons (.con (.int 60)) .nil))))) (.cons (.asg 3 (.call 15 (.cons (.var 2) (.cons (.bin .add (.con (.int 1)) (.bin .mod (.idx (.var 1) (.con (.int 0))) (.con (.int 3)))) (.cons (.con (.int 4)) .nil))))) (.cons (.asg 4 (.call 14 (.cons (.var 3) .nil))) (.cons (.asg 2 (.call 13 (.cons (.var 0) (.cons (.con (.int 2)) (.cons (.con (.int 60)) .nil))))) (.cons (.asg 5 (.call 21 (.cons (.var 2) (.cons (.var 3) (.cons (.idx (.var 4) (.bin .mod (.idx (.var 1) (.con (.int 1))) (.blt .len (.cons (.var 4) .nil)))) (.cons (.con (.int 4)) (.cons (.con (.int 20)) .nil))))))) (.cons (.asg 6 (.call 18 (.cons (.var 5) .nil))) (.cons (.iff (.or (.tr (.isb true true (.call 1 (.cons (.var 3) (.cons (.var 5) .nil))))) (.not (.tr (.call 9 (.cons (.call 5 (.cons (.var 5) .nil)) (.cons (.comp [7, 8] (.var 7) (.tup [7, 8]) (.seq (.var 6)) .yes) .nil)))))) (.cons (.ret (.con (.bool false))) .nil) .nil) (.cons (.iff (.not (.tr (.call 9 (.cons (.lst (.cons (.call 3 (.cons (.var 5) .nil)) (.cons (.call 4 (.cons (.var 5) .nil)) (.cons (.call 2 (.cons (.var 3) (.cons (.var 5) .nil))) .nil)))) (.cons (.lst (.cons (.blt .len (.cons (.var 6) .nil)) (.cons (.call 23 (.cons (.var 5) .nil)) (.cons (.call 17 (.cons (.var 3) (.cons (.var 5) .nil))) .nil)))) .nil))))) (.cons (.ret (.con (.bool false))) .nil) .nil) (.cons (.fr (.tup [7, 8]) (.seq (.var 6)) (.cons (.iff (.not (.tr (.call 9 (.cons (.call 25 (.cons (.var 5) (.cons (.var 7) .nil))) (.cons (.var 8) .nil))))) (.cons (.ret (.con (.bool false))) .nil) .nil) .nil)) (.cons (.asg 2 (.call 13 (.cons (.var 0) (.cons (.con (.int 3)) (.cons (.con (.int 60)) .nil))))) (.cons (.asgT [9, 10] (.idx (.var 6) (.bin .mod (.idx (.var 1) (.con (.int 2))) (.blt .len (.cons (.var 6) .nil))))) (.cons (.asg 11 (.call 21 (.cons (.var 2) (.cons (.var 3) (.cons (.idx (.var 4) (.bin .mod (.idx (.var 1) (.con (.int 3))) (.blt .len (.cons (.var 4) .nil)))) (.cons (.con (.int 2)) (.cons (.con (.int 9)) .nil))))))) (.cons (.asg 12 (.lst (.cons (.con (.str "sorts")) (.cons (.con (.bool false)) .nil)))) (.cons (.iff (.tr (.cmp .eq (.call 17 (.cons (.var 3) (.cons (.var 10) .nil))) (.call 17 (.cons (.var 3) (.cons (.var 11) .nil))))) (.cons (.asg 12 (.call 24 (.cons (.var 5) (.cons (.var 9) (.cons (.var 11) .nil))))) .nil) .nil) (.cons (.iff (.or (.not (.tr (.call 9 (.cons (.call 26 (.cons (.var 3) (.cons (.var 5) (.cons (.var 9) (.cons (.var 11) .nil))))) (.cons (.var 12) .nil))))) (.tr (.cmp .ne (.call 18 (.cons (.var 5) .nil)) (.var 6)))) (.cons (.ret (.con (.bool false))) .nil) .nil) (.cons (.fr (.name 13) (.seq (.lst (.cons (.bin .add (.var 9) (.tup (.cons (.con (.int 3)) .nil))) (.cons (.bin .add (.var 9) (.tup (.cons (.con (.int 0)) .nil))) (.cons (.bin .add (.var 9) (.tup (.cons (.blt .len (.cons (.var 10) .nil)) .nil))) (.cons (.tup (.cons (.bin .sub (.con (.int 0)) (.con (.int 1))) .nil)) (.cons (.tup (.cons (.con (.int 1)) (.cons (.con (.int 2)) (.cons (.con (.int 1)) (.cons (.con (.int 2)) (.cons (.con (.int 1)) (.cons (.con (.int 2)) .nil))))))) .nil))))))) (.cons (.iff (.tr (.cmp .isin (.var 13) (.comp [7, 8] (.var 7) (.tup [7, 8]) (.seq (.var 6)) .yes))) (.cons .cnt .nil) .nil) (.cons (.iff (.or (.not (.tr (.call 9 (.cons (.call 25 (.cons (.var 5) (.cons (.var 13) .nil))) (.cons (.lst (.cons (.con (.str "path")) (.cons (.var 13) (.cons (.con (.bool true)) (.cons (.con (.bool false)) .nil))))) .nil))))) (.not (.tr (.call 9 (.cons (.call 26 (.cons (.var 3) (.cons (.var 5) (.cons (.var 13) (.cons (.var 11) .nil))))) (.cons (.lst (.cons (.con (.str "path")) (.cons (.var 13) .nil))) .nil)))))) (.cons (.ret (.con (.bool false))) .nil) .nil) .nil))) (.cons (.asg 14 (.lst (.cons (.call 24 (.cons (.var 5) (.cons (.var 9) (.cons (.bin .add (.var 10) (.tup (.cons (.var 11) .nil))) .nil)))) (.cons (.call 24 (.cons (.var 5) (.cons (.var 9) (.cons (.sl (.var 10) .non (.som (.neg (.con (.int 1))))) .nil)))) (.cons (.call 24 (.cons (.var 5) (.cons (.var 9) (.cons (.bin .add (.tup (.cons (.con (.str "zz")) .nil)) (.sl (.var 10) (.som (.con (.int 1))) .non)) .nil)))) (.cons (.call 24 (.cons (.var 5) (.cons (.var 9) (.cons (.var 11) .nil)))) .nil)))))) (.cons (.asg 14 (.bin .add (.var 14) (.lst (.cons (.call 24 (.cons (.var 5) (.cons (.var 9) (.cons (.bin .add (.tup (.cons (.idx (.var 1) (.con (.int 0))) .nil)) (.sl (.var 10) (.som (.con (.int 1))) .non)) .nil)))) (.cons (.call 24 (.cons (.var 5) (.cons (.var 9) (.cons (.con (.str "e0")) .nil)))) (.cons (.call 24 (.cons (.var 5) (.cons (.var 9) (.cons (.tup .nil) .nil)))) (.cons (.call 24 (.cons (.var 5) (.cons (.var 9) (.cons (.con .none) .nil)))) .nil))))))) (.cons (.fr (.name 15) (.seq (.var 14)) (.cons (.iff (.not (.tr (.call 9 (.cons (.call 1 (.cons (.var 3) (.cons (.var 15) .nil))) (.cons (.call 22 (.cons (.var 3) (.cons (.con .none) (.cons (.var 15) .nil)))) .nil))))) (.cons (.ret (.con (.bool false))) .nil) .nil) .nil)) (.cons (.ret (.con (.bool true))) .nil)))))))))))))))))))))
theorem go_law {n : Nat} {x0 : D} {o : M (Sl × List D)} (h : runOf [false] (evSs (flagsOf tab) (call tab n) b_law [some (.val x0), none, none, none, none, none, none, none, none, none, none, none, none, none, none, none]) = o) : call tab (n + 1) 27 [x0] = o := call_go (d := d_law) rfl rfl rfl rfl rfl h
end EvM
end
section
set_option maxRecDepth 100000
set_option maxHeartbeats 2000000
/-! k01: makers, trees, rows. -/
namespace EvM
open PySem Ev
structure Mk where
  name : Str
  sort : Str
  places : List Str
def encM (m : Mk) : D := .tuple [.str m.name, .str m.sort, .tuple (m.places.map PyData.str)]
def encS (s : List Mk) : D := .tuple (s.map encM)
inductive Tr where
  | node (name : Str) (parts : List Tr)
mutual
def encT : Tr → D
  | .node a ps => .tuple (.str a :: encTs ps)
def encTs : List Tr → List D
  | [] => []
  | t :: ts => encT t :: encTs ts
end
mutual
/-- the names, from the top -/
def pre : Tr → List Str
  | .node a ps => a :: pres ps
def pres : List Tr → List Str
  | [] => []
  | t :: ts => pre t ++ pres ts
end
/-- a maker's number -/
def numOf : List Mk → Str → Nat
  | [], _ => 0
  | m :: r, a => if m.name = a then 0 else numOf r a + 1
theorem numOf_lt : ∀ {s : List Mk} {a : Str}, a ∈ s.map (·.name) → numOf s a < s.length
  | m :: r, a, h => by
    unfold numOf
    by_cases e : m.name = a
    · rw [if_pos e]; simp
    · rw [if_neg e]
      have := numOf_lt (s := r) (a := a) (by
        rcases List.mem_cons.mp h with h | h
        · exact absurd h.symm e
        · exact h)
      simp; omega
theorem numOf_at : ∀ {s : List Mk} {a : Str} (h : a ∈ s.map (·.name)), ∃ m, s[numOf s a]? = some m ∧ m.name = a
  | m :: r, a, h => by
    unfold numOf
    by_cases e : m.name = a
    · rw [if_pos e]; exact ⟨m, rfl, e⟩
    · rw [if_neg e]
      exact numOf_at (s := r) (a := a) (by
        rcases List.mem_cons.mp h with h | h
        · exact absurd h.symm e
        · exact h)
theorem numOf_least : ∀ {s : List Mk} {a : Str} {k : Nat} {m : Mk}, k < numOf s a → s[k]? = some m → m.name ≠ a
  | m0 :: r, a, k, m, h, e => by
    unfold numOf at h
    by_cases e0 : m0.name = a
    · rw [if_pos e0] at h; omega
    · rw [if_neg e0] at h
      cases k with
      | zero =>
        have : m0 = m := by simpa using e
        rw [← this]; exact e0
      | succ k => exact numOf_least (s := r) (a := a) (k := k) (by omega) (by simpa using e)
theorem idx_stock {s : List Mk} {k : Nat} {m : Mk} (h : s[k]? = some m) : idxD (encS s) (.int k) = some (encM m) := by
  show atD (s.map encM) (k : Int) = _
  rw [atD_nat, List.getElem?_map, h]; rfl
theorem lmaker_ok (n : Nat) (s : List Mk) (a : Str) (h : a ∈ s.map (·.name)) (hs : ∀ m ∈ s, PyData.strOk m.name = true) (ha : PyData.strOk a = true) (hl : s.length ≤ 1000) : call tab (n + 1) 16 [encS s, .str a] = some (.ok (.val (.int (numOf s a)), [])) := by
  rw [call_at (d := d_law_maker) rfl]
  have hz : (s.length : Int) ≤ sizeLine := by rw [sizeLine_eq]; omega
  have hz2 : (-1000000000 : Int) ≤ s.length := by omega
  have hN := numOf_lt h
  obtain ⟨ys, ρ2, e, k, v, h1, h2, h3, h4⟩ := clp_run (f := Ev.compTurn (.name 2) [2] (evt (flagsOf tab) (call tab n) (.tr (.cmp .eq (.idx (.idx (.var 0) (.var 2)) (.con (.int 0))) (.var 1)))) (ev (flagsOf tab) (call tab n) (.var 2)))
    (fun acc rest ρ => ∃ (k : Nat) (v : Option D), k ≤ s.length ∧ rest = iotaD k (s.length - k) ∧ ρ = [some (.val (encS s)), some (.val (.str a)), v.map Sl.val] ∧ (if numOf s a < k then acc[0]? = some (.int (numOf s a)) else acc = [])) (by
      rintro acc x rest ρ ⟨k, v, hk, hr, rfl, hacc⟩
      have hlt : k < s.length := by
        by_cases z : k < s.length
        · exact z
        · have e : s.length - k = 0 := by omega
          rw [e] at hr; cases hr
      rw [iotaD_cons hlt] at hr
      cases hr
      have hg : s[k]? = some s[k] := List.getElem?_eq_getElem hlt
      have ix := idx_stock hg
      have ok := hs s[k] (List.getElem_mem hlt)
      have i0 : idxD (encM s[k]) (.int 0) = some (.str s[k].name) := rfl
      generalize hgi : idxD = g at ix i0
      by_cases en : s[k].name = a
      · refine ⟨some (.int k), [some (.val (encS s)), some (.val (.str a)), some (.val (.int k))], ?_, k + 1, some (.int k), hlt, rfl, rfl, ?_⟩
        · cases v <;> simp [Ev.compTurn, wipeE, evt, ev, evoOf, rdo, setSl, tgS, Sl.d, rt, lift, opt, bd, truD, cmpD, eqD, eqOk, PyData.eqv, SeqAt.shaped, PyData.canLay0, PyData.depth, hgi, ix, i0, ok, ha, en]
        · by_cases z : numOf s a < k
          · rw [if_pos z] at hacc
            rw [if_pos (by omega)]
            cases acc with
            | nil => cases hacc
            | cons y ys => exact hacc
          · rw [if_neg z] at hacc
            have : k = numOf s a := by
              by_cases z2 : k < numOf s a
              · exact absurd en (numOf_least z2 hg)
              · omega
            rw [if_pos (by omega), hacc, this]
            rfl
      · refine ⟨none, [some (.val (encS s)), some (.val (.str a)), some (.val (.int k))], ?_, k + 1, some (.int k), hlt, rfl, rfl, ?_⟩
        · cases v <;> simp [Ev.compTurn, wipeE, evt, ev, evoOf, rdo, setSl, tgS, Sl.d, rt, lift, opt, bd, truD, cmpD, eqD, eqOk, PyData.eqv, SeqAt.shaped, PyData.canLay0, PyData.depth, hgi, ix, i0, ok, ha, en]
        · rw [Option.toList_none, List.append_nil]
          by_cases z : numOf s a < k
          · rw [if_pos z] at hacc
            rw [if_pos (by omega)]; exact hacc
          · rw [if_neg z] at hacc
            have : k ≠ numOf s a := fun z2 => by
              obtain ⟨m, g1, g2⟩ := numOf_at h
              rw [← z2, hg] at g1
              cases g1
              exact en g2
            rw [if_neg (by omega)]; exact hacc) (iotaD 0 s.length) [] [some (.val (encS s)), some (.val (.str a)), none] ⟨0, none, Nat.zero_le _, rfl, rfl, by simp⟩
  have hk : k = s.length := by
    by_cases z : k < s.length
    · rw [iotaD_cons z] at h2; cases h2
    · omega
  rw [hk, if_pos hN, List.nil_append] at h4
  have hc : ev (flagsOf tab) (call tab n) (.comp [2] (.var 2) (.name 2) (.rng1 (.blt .len (.cons (.var 0) .nil))) (.tr (.cmp .eq (.idx (.idx (.var 0) (.var 2)) (.con (.int 0))) (.var 1)))) [some (.val (encS s)), some (.val (.str a)), none] = _ :=
    e_comp (ρ' := [some (.val (encS s)), some (.val (.str a)), none]) (by simp [encS, runDef, startE, evSs, evS, evt, ev, evf, evos, eva, evx, evi, evoOf, evlOf, evrOf, rdo, rdAll, lentOf, ownAll, tempOk, backIn, setSl, setSls, tgS, outsOf, Sl.d, rt, lift, opt, bd, bltD, one, lenD, sumD, absD, binD, cmpD, eqD, eqOk, truD, idxD, PyData.eqv, SeqAt.shaped, PyData.canLay0, PyData.depth, mutD, mutTy, tyD, hz, hz2]) e
  have i0 : idxD (.list ys) (.int 0) = some (.int (numOf s a)) := by
    show atD ys ((0 : Nat) : Int) = _
    rw [atD_nat]; exact h4
  subst h3
  refine run_rt (ρ' := [some (.val (encS s)), some (.val (.str a)), none]) rfl (ss_one ?_) rfl
  show bd (evrOf (.idx _ _) (ev (flagsOf tab) (call tab n) (.idx (.comp [2] (.var 2) (.name 2) (.rng1 (.blt .len (.cons (.var 0) .nil))) (.tr (.cmp .eq (.idx (.idx (.var 0) (.var 2)) (.con (.int 0))) (.var 1)))) (.con (.int 0)))) _) _ = _
  unfold evrOf
  unfold ev
  unfold evoOf
  show bd (bd (bd (ev (flagsOf tab) (call tab n) (.comp [2] (.var 2) (.name 2) (.rng1 (.blt .len (.cons (.var 0) .nil))) (.tr (.cmp .eq (.idx (.idx (.var 0) (.var 2)) (.con (.int 0))) (.var 1)))) [some (.val (encS s)), some (.val (.str a)), none]) _) _) _ = _
  rw [hc]
  generalize hgi : idxD = g at i0
  simp [bd, ev, rdo, lift, rt, Sl.d, backE, i0, hgi]

end EvM
end
section
set_option maxRecDepth 100000
set_option maxHeartbeats 2000000
/-! k01: knots, rows. -/
namespace EvM
open PySem Ev
mutual
def ht : Tr → Nat
  | .node _ ps => hts ps
def hts : List Tr → Nat
  | [] => 0
  | t :: ts => max (ht t + 1) (hts ts)
end
theorem encTs_len : ∀ ts : List Tr, (encTs ts).length = ts.length
  | [] => rfl
  | t :: ts => by simp [encTs, encTs_len ts]
theorem encTs_at : ∀ {ts : List Tr} {k : Nat} {t : Tr}, ts[k]? = some t → (encTs ts)[k]? = some (encT t)
  | t0 :: ts, 0, t, h => by
    have e : t0 = t := by simpa using h
    rw [e]; rfl
  | t0 :: ts, k + 1, t, h => by
    have := encTs_at (ts := ts) (k := k) (t := t) (by simpa using h)
    simpa [encTs] using this
theorem hts_at : ∀ {ts : List Tr} {k : Nat} {t : Tr}, ts[k]? = some t → ht t + 1 ≤ hts ts
  | t0 :: ts, 0, t, h => by
    have e : t0 = t := by simpa using h
    rw [e]; simp only [hts]; omega
  | t0 :: ts, k + 1, t, h => by
    have := hts_at (ts := ts) (k := k) (t := t) (by simpa using h)
    simp only [hts]; omega
theorem pres_take : ∀ {ts : List Tr} {k : Nat} {t : Tr}, ts[k]? = some t → pres (ts.take (k + 1)) = pres (ts.take k) ++ pre t
  | t0 :: ts, 0, t, h => by
    have e : t0 = t := by simpa using h
    rw [e]; simp [pres]
  | t0 :: ts, k + 1, t, h => by
    have := pres_take (ts := ts) (k := k) (t := t) (by simpa using h)
    rw [List.take_succ_cons, pres, this, List.take_succ_cons, pres, List.append_assoc]
theorem pres_le : ∀ {ts : List Tr} {k : Nat}, (pres (ts.take k)).length ≤ (pres ts).length
  | [], k => by simp [pres]
  | t :: ts, 0 => by simp [pres]
  | t :: ts, k + 1 => by
    have := pres_le (ts := ts) (k := k)
    simp only [List.take_succ_cons, pres, List.length_append]
    omega
theorem pre_at : ∀ {ts : List Tr} {k : Nat} {t : Tr}, ts[k]? = some t → ∀ a ∈ pre t, a ∈ pres ts
  | t0 :: ts, 0, t, h, a, ha => by
    have e : t0 = t := by simpa using h
    rw [e]; simp only [pres]; exact List.mem_append_left _ ha
  | t0 :: ts, k + 1, t, h, a, ha => by
    have := pre_at (ts := ts) (k := k) (t := t) (by simpa using h) a ha
    simp only [pres]; exact List.mem_append_right _ this
theorem pre_len : ∀ {ts : List Tr} {k : Nat} {t : Tr}, ts[k]? = some t → (pre t).length ≤ (pres ts).length
  | t0 :: ts, 0, t, h => by
    have e : t0 = t := by simpa using h
    rw [e]; simp only [pres, List.length_append]; omega
  | t0 :: ts, k + 1, t, h => by
    have := pre_len (ts := ts) (k := k) (t := t) (by simpa using h)
    simp only [pres, List.length_append]; omega
theorem idx_zero (d : D) (ds : List D) : idxD (.tuple (d :: ds)) (.int 0) = some d := by
  show atD (d :: ds) ((0 : Nat) : Int) = _
  rw [atD_nat]; rfl
def holeS : Str := "hole"
theorem idx_tree {a : Str} {ps : List Tr} {k : Nat} {t : Tr} (h : ps[k]? = some t) : idxD (encT (.node a ps)) (.int ((k + 1 : Nat) : Int)) = some (encT t) := by
  simp only [encT]
  show atD (.str a :: encTs ps) ((k + 1 : Nat) : Int) = _
  rw [atD_nat]
  exact encTs_at h

end EvM
end
section
set_option maxRecDepth 100000
set_option maxHeartbeats 2000000
/-! k01: the law's own knots; rows, keys. -/
namespace EvM
open PySem Ev
theorem len_pres (ps : List Tr) : ps.length ≤ (pres ps).length := by
  induction ps with
  | nil => simp
  | cons t ts ih =>
    obtain ⟨a, qs⟩ := t
    simp only [pres, pre, List.length_append, List.length_cons]
    omega
/-- good: the names are the stock's, none is "hole" -/
structure Good (s : List Mk) : Prop where
  ok : ∀ m ∈ s, PyData.strOk m.name = true ∧ m.name ≠ holeS
  nd : (s.map (·.name)).Nodup
  len : s.length ≤ 100
def Of (s : List Mk) (t : Tr) : Prop := ∀ a ∈ pre t, a ∈ s.map (·.name)
theorem Good.name {s : List Mk} (g : Good s) {a : Str} (h : a ∈ s.map (·.name)) : a ≠ holeS ∧ PyData.strOk a = true := by
  obtain ⟨m, hm, rfl⟩ := List.mem_map.mp h
  exact ⟨(g.ok m hm).2, (g.ok m hm).1⟩
end EvM
end
section
set_option maxRecDepth 100000
set_option maxHeartbeats 4000000
/-! k01: rows read. -/
namespace EvM
open PySem Ev
/-- names that may be compared -/
structure GoodS (s : List Mk) : Prop where
  so : ∀ m ∈ s, PyData.strOk m.sort = true
  pl : ∀ m ∈ s, (∀ p ∈ m.places, PyData.strOk p = true) ∧ m.places.length ≤ 10
  len : s.length ≤ 100
end EvM
end
section
set_option maxRecDepth 100000
set_option maxHeartbeats 4000000
/-! k01: rows read, by the law; both readings agree. -/
namespace EvM
open PySem Ev
theorem cut_tail (x : D) (xs : List D) : cutD (x :: xs) (some 1) none = xs := by
  unfold cutD HT.sIx
  simp
end EvM
end
section
set_option maxRecDepth 100000
set_option maxHeartbeats 4000000
/-! k01: trees of rows. -/
namespace EvM
open PySem Ev
mutual
def wf (s : List Mk) : Tr → Option Str → Prop
  | .node a ps, o => ∃ m, m ∈ s ∧ m.name = a ∧ (o = none ∨ o = some m.sort) ∧ wfs s ps m.places
def wfs (s : List Mk) : List Tr → List Str → Prop
  | [], qs => qs = []
  | t :: ts, qs => ∃ q r, qs = q :: r ∧ wf s t (some q) ∧ wfs s ts r
end
theorem numOf_mem {s : List Mk} (nd : (s.map (·.name)).Nodup) {m : Mk} (h : m ∈ s) : s[numOf s m.name]? = some m := by
  induction s with
  | nil => cases h
  | cons m0 r ih =>
    rw [List.map_cons, List.nodup_cons] at nd
    unfold numOf
    by_cases e : m0.name = m.name
    · rw [if_pos e]
      rcases List.mem_cons.mp h with h | h
      · rw [h]; rfl
      · exact absurd (List.mem_map.mpr ⟨m, h, e.symm⟩) nd.1
    · rw [if_neg e]
      rcases List.mem_cons.mp h with h | h
      · rw [h] at e; exact absurd rfl e
      · exact ih nd.2 h
end EvM
end
section
set_option maxRecDepth 100000
set_option maxHeartbeats 4000000
/-! k01: sizes, drawn trees. -/
namespace EvM
open PySem Ev
theorem size_in (n : Nat) (T0 : D) : ∀ (ps : List Tr), (∀ t ∈ ps, call tab n 19 [encT t] = some (.ok (.val (.int ((pre t).length : Int)), []))) → ∀ (v : Option Sl), ∃ w : Option Sl, clp (Ev.compTurn (.name 1) [1] (evt (flagsOf tab) (call tab n) .yes) (ev (flagsOf tab) (call tab n) (.call 19 (.cons (.var 1) .nil)))) (encTs ps) [some (.val T0), v] = some (.ok (ps.map (fun t => PyData.int ((pre t).length : Int)), [some (.val T0), w]))
  | [], _, v => ⟨v, rfl⟩
  | t :: ps, h, v => by
    have f1 : flagsOf tab 19 = [false] := rfl
    have e1 := h t List.mem_cons_self
    obtain ⟨w, e⟩ := size_in n T0 ps (fun u hu => h u (List.mem_cons_of_mem _ hu)) (some (.val (encT t)))
    refine ⟨w, ?_⟩
    have st : Ev.compTurn (.name 1) [1] (evt (flagsOf tab) (call tab n) .yes) (ev (flagsOf tab) (call tab n) (.call 19 (.cons (.var 1) .nil))) (encT t) [some (.val T0), v] = some (.ok (some (.int ((pre t).length : Int)), [some (.val T0), some (.val (encT t))])) := by
      generalize hE : encT t = E at e1
      simp [Ev.compTurn, wipeE, tgS, setSl, evt, ev, eva, f1, e1, rdo, rdAll, lentOf, ownAll, tempOk, backIn, Sl.d, rt, lift, opt, bd]
    simp only [encTs]
    unfold clp
    rw [st, bd_some, e, bd_some]
    rfl
theorem sum_pres : ∀ ps : List Tr, (ps.map fun t => ((pre t).length : Int)).sum = ((pres ps).length : Int)
  | [] => rfl
  | t :: ps => by
    simp only [List.map_cons, List.sum_cons, sum_pres ps, pres, List.length_append]
    push_cast
    rfl
theorem size_step (n : Nat) (a : Str) (ps : List Tr) (ih : ∀ t ∈ ps, call tab n 19 [encT t] = some (.ok (.val (.int ((pre t).length : Int)), []))) : call tab (n + 1) 19 [encT (.node a ps)] = some (.ok (.val (.int ((pre (.node a ps)).length : Int)), [])) := by
  have e0 : encT (.node a ps) = .tuple (.str a :: encTs ps) := by simp only [encT]
  rw [call_at (d := d_law_size) rfl]
  obtain ⟨w, e⟩ := size_in n (encT (.node a ps)) ps ih none
  have hsl : slD (encT (.node a ps)) (some 1) none = some (.val (.tuple (encTs ps))) := by
    rw [e0]
    show some (Sl.val (.tuple (cutD (.str a :: encTs ps) (some 1) none))) = _
    rw [cut_tail]
  have hi : evi (flagsOf tab) (call tab n) (.seq (.sl (.var 0) (.som (.con (.int 1))) .non)) [some (.val (encT (.node a ps))), none] = some (.ok (encTs ps, [some (.val (encT (.node a ps))), none])) := by
    generalize hgs : slD = sl at hsl
    simp [evi, ev, evx, evoOf, rdo, Sl.d, rt, lift, opt, bd, hgs, hsl, itemsOf]
  have hc := e_comp hi e
  have hm : ps.map (fun t => PyData.int ((pre t).length : Int)) = (ps.map fun t => ((pre t).length : Int)).map PyData.int := by rw [List.map_map]; rfl
  have hs : sumD (.list (ps.map (fun t => PyData.int ((pre t).length : Int)))) = some (.val (.int ((pres ps).length : Int))) := by
    rw [hm]
    show (intsD _).map _ = _
    rw [intsD_map, Option.map_some, sum_pres]
  refine run_rt (ρ' := [some (.val (encT (.node a ps))), none]) rfl (ss_one (s_ret (v_bin (o := .add) (a := .con (.int 1)) (oa := .d (.int 1)) (x := .int 1) (y := .int ((pres ps).length : Int)) rfl (o_ex (v_blt1 (o_ex hc rfl) rfl hs) rfl) rfl rfl (by simp [binD, pre]; omega)) rfl)) ?_
  · rfl
theorem size_ok : ∀ (n : Nat) (t : Tr), ht t ≤ n → call tab (n + 1) 19 [encT t] = some (.ok (.val (.int ((pre t).length : Int)), []))
  | 0, .node a ps, h => by
    have e : ps = [] := by
      cases ps with
      | nil => rfl
      | cons t ts => simp only [ht, hts] at h; omega
    subst e
    exact size_step 0 a [] fun t ht => by cases ht
  | n + 1, .node a ps, h => by
    refine size_step (n + 1) a ps fun t hm => ?_
    obtain ⟨k, hk, e⟩ := List.getElem_of_mem hm
    have hg : ps[k]? = some t := by rw [List.getElem?_eq_getElem hk, e]
    have h1 := hts_at hg
    simp only [ht] at h
    exact size_ok n t (by omega)
/-- a stock with its sorts -/
structure VS (s : List Mk) (srt : List Str) : Prop where
  g : Good s
  gs : GoodS s
  so : ∀ m ∈ s, m.sort ∈ srt
  pl : ∀ m ∈ s, m.places.length ≤ 2 ∧ ∀ p ∈ m.places, p ∈ srt
  leaf : ∀ x ∈ srt, ∃ m ∈ s, m.sort = x ∧ m.places = []
  sok : ∀ x ∈ srt, PyData.strOk x = true
def okM (x : Str) (deep : Int) (m : Mk) : Bool := decide (m.sort = x) && (decide (0 < deep) || m.places.isEmpty)
theorem makers_in (n : Nat) (srt : List Str) (x : Str) (deep : Int) (hx : PyData.strOk x = true) (S0 P0 : Sl) : ∀ (ms : List Mk), (∀ m ∈ ms, PyData.strOk m.sort = true) → (∀ m ∈ ms, m.places.length ≤ 2 ∧ ∀ p ∈ m.places, PyData.strOk p = true) → ∀ (v : Option Sl) (a4 a6 : Option Sl), ∃ w, clp (Ev.compTurn (.name 5) [5] (evt (flagsOf tab) (call tab n) (.and (.tr (.cmp .eq (.idx (.var 5) (.con (.int 1))) (.var 2))) (.or (.tr (.cmp .gt (.var 3) (.con (.int 0)))) (.tr (.cmp .eq (.idx (.var 5) (.con (.int 2))) (.tup .nil)))))) (ev (flagsOf tab) (call tab n) (.var 5))) (ms.map encM) [some P0, some S0, some (.val (.str x)), some (.val (.int deep)), a4, v, a6] = some (.ok ((ms.filter (okM x deep)).map encM, [some P0, some S0, some (.val (.str x)), some (.val (.int deep)), a4, w, a6]))
  | [], _, _, v, a4, a6 => ⟨v, rfl⟩
  | m :: ms, h1, h2, v, a4, a6 => by
    obtain ⟨w, e⟩ := makers_in n srt x deep hx S0 P0 ms (fun q hq => h1 q (List.mem_cons_of_mem _ hq)) (fun q hq => h2 q (List.mem_cons_of_mem _ hq)) (some (.val (encM m))) a4 a6
    refine ⟨w, ?_⟩
    have j1 : idxD (encM m) (.int 1) = some (.str m.sort) := rfl
    have j2 : idxD (encM m) (.int 2) = some (.tuple (m.places.map PyData.str)) := rfl
    have c1 : cmpD .eq (.str m.sort) (.str x) = some (decide (m.sort = x)) := by
      simp [cmpD, eqD, eqOk, PyData.eqv, SeqAt.shaped, PyData.canLay0, PyData.depth, h1 m List.mem_cons_self, hx]
      rw [Bool.eq_iff_iff]; simp
    have c2 : cmpD .gt (.int deep) (.int 0) = some (decide (0 < deep)) := rfl
    have ls : ∀ ps : List Str, (∀ p ∈ ps, PyData.strOk p = true) → PyData.canLayAll0 (ps.map PyData.str) = true ∧ PyData.depthAll (ps.map PyData.str) = 0 := fun ps => by
      induction ps with
      | nil => intro _; exact ⟨rfl, by simp [PyData.depthAll]⟩
      | cons p ps ih =>
        intro h
        obtain ⟨a, b⟩ := ih fun q hq => h q (List.mem_cons_of_mem _ hq)
        exact ⟨by simp [PyData.canLayAll0, PyData.canLay0, h p List.mem_cons_self, a], by simp [PyData.depthAll, PyData.depth, b]⟩
    have c3 : cmpD .eq (.tuple (m.places.map PyData.str)) (.tuple []) = some m.places.isEmpty := by
      obtain ⟨a, b⟩ := ls m.places (h2 m List.mem_cons_self).2
      have ok : eqOk (.tuple (m.places.map PyData.str)) = true := by
        unfold eqOk SeqAt.shaped
        simp [PyData.canLay0, PyData.depth, a, b]
      simp only [cmpD, eqD, ok, Bool.true_and]
      cases m.places <;> rfl
    have st : Ev.compTurn (.name 5) [5] (evt (flagsOf tab) (call tab n) (.and (.tr (.cmp .eq (.idx (.var 5) (.con (.int 1))) (.var 2))) (.or (.tr (.cmp .gt (.var 3) (.con (.int 0)))) (.tr (.cmp .eq (.idx (.var 5) (.con (.int 2))) (.tup .nil)))))) (ev (flagsOf tab) (call tab n) (.var 5)) (encM m) [some P0, some S0, some (.val (.str x)), some (.val (.int deep)), a4, v, a6] = some (.ok (if okM x deep m then some (encM m) else none, [some P0, some S0, some (.val (.str x)), some (.val (.int deep)), a4, some (.val (encM m)), a6])) := by
      unfold okM
      generalize hgi : idxD = gg at j1 j2
      generalize hgc : cmpD = cm at c1 c2 c3
      cases h1 : decide (m.sort = x) <;> cases h2 : decide (0 < deep) <;> cases h3 : m.places.isEmpty <;> rw [h1] at c1 <;> rw [h2] at c2 <;> rw [h3] at c3 <;>
        simp [Ev.compTurn, wipeE, tgS, setSl, evt, ev, evf, evoOf, rdo, Sl.d, rt, lift, opt, bd, truD, hgi, hgc, j1, j2, c1, c2, c3]
    rw [List.map_cons]
    unfold clp
    rw [st, bd_some, e, bd_some, List.filter_cons]
    cases okM x deep m <;> rfl

end EvM
end
section
set_option maxRecDepth 100000
set_option maxHeartbeats 4000000
/-! k01: drawn trees. -/
namespace EvM
open PySem Ev
abbrev nn (q : List Int) : Prop := ∀ y ∈ q, 0 ≤ y
/-- a drawn tree: of the stock, of the sort, not too large -/
structure Drawn (s : List Mk) (x : Str) (deep : Nat) (t : Tr) : Prop where
  wf : wf s t (some x)
  ht : ht t ≤ deep
  len : (pre t).length ≤ 2 ^ (deep + 1) - 1
theorem ltree_in (n : Nat) (s : List Mk) (deep : Nat) (X0 X1 X2 X3 : Sl)
    (ih : ∀ (x : Str) (q : List Int), nn q → (∃ m ∈ s, x ∈ m.places) → ∃ t q', call tab n 20 [encI q, encS s, .str x, .int (deep : Int)] = some (.ok (.val (encT t), [encI q'])) ∧ Drawn s x deep t ∧ nn q') :
    ∀ (ps : List Str), (∀ p ∈ ps, ∃ m ∈ s, p ∈ m.places) → ∀ (q : List Int) (v : Option Sl), nn q → ∃ ts q' w, clp (Ev.compTurn (.name 6) [6] (evt (flagsOf tab) (call tab n) .yes) (ev (flagsOf tab) (call tab n) (.call 20 (.cons (.var 0) (.cons (.var 1) (.cons (.var 6) (.cons (.bin .sub (.var 3) (.con (.int 1))) .nil))))))) (ps.map PyData.str)
      [some (.own true (encI q)), some (.val (encS s)), some X2, some (.val (.int ((deep + 1 : Nat) : Int))), some X0, some X1, v] = some (.ok (encTs ts, [some (.own true (encI q')), some (.val (encS s)), some X2, some (.val (.int ((deep + 1 : Nat) : Int))), some X0, some X1, w])) ∧ wfs s ts ps ∧ hts ts ≤ deep + 1 ∧ (pres ts).length ≤ ps.length * (2 ^ (deep + 1) - 1) ∧ nn q'
  | [], _, q, v, hq => ⟨[], q, v, rfl, rfl, by simp [hts], by simp [pres], hq⟩
  | p :: ps, hp, q, v, hq => by
    have f1 : flagsOf tab 20 = [true, false, false, false] := rfl
    obtain ⟨t, q1, e1, d, hq1⟩ := ih p q hq (hp p List.mem_cons_self)
    obtain ⟨ts, q2, w, e2, h1, h2, h3, h4⟩ := ltree_in n s deep X0 X1 X2 X3 ih ps (fun u hu => hp u (List.mem_cons_of_mem _ hu)) q1 (some (.val (.str p))) hq1
    have st : Ev.compTurn (.name 6) [6] (evt (flagsOf tab) (call tab n) .yes) (ev (flagsOf tab) (call tab n) (.call 20 (.cons (.var 0) (.cons (.var 1) (.cons (.var 6) (.cons (.bin .sub (.var 3) (.con (.int 1))) .nil)))))) (.str p) [some (.own true (encI q)), some (.val (encS s)), some X2, some (.val (.int ((deep + 1 : Nat) : Int))), some X0, some X1, v] =
        some (.ok (some (encT t), [some (.own true (encI q1)), some (.val (encS s)), some X2, some (.val (.int ((deep + 1 : Nat) : Int))), some X0, some X1, some (.val (.str p))])) := by
      have hd : ((deep + 1 : Nat) : Int) - 1 = (deep : Int) := by omega
      generalize hA : ((deep + 1 : Nat) : Int) = A at hd ⊢
      generalize hI : encI q = I0 at e1 ⊢
      generalize hE : encT t = E at e1 ⊢
      generalize hI1 : encI q1 = I1 at e1 ⊢
      simp [Ev.compTurn, wipeE, tgS, setSl, evt, ev, eva, evoOf, evlOf, f1, e1, hd, binD, rdo, rdAll, lentOf, ownAll, tempOk, backIn, Sl.d, rt, lift, opt, bd]
    refine ⟨t :: ts, q2, w, ?_, ⟨p, ps, rfl, d.wf, h1⟩, ?_, ?_, h4⟩
    · rw [List.map_cons]
      unfold clp
      rw [st, bd_some, e2, bd_some]
      rfl
    · simp only [hts]
      have := d.ht
      omega
    · simp only [pres, List.length_append, List.length_cons, Nat.succ_mul]
      have := d.len
      omega
theorem getLast_nn {q : List Int} (h : nn q) : 0 ≤ q.getLast?.getD 0 := by
  cases e : q.getLast? with
  | none => simp
  | some y => exact h y (List.mem_of_getLast? e)
theorem drop_nn {q : List Int} (h : nn q) : nn q.dropLast := fun y hy => h y ((List.dropLast_sublist q).subset hy)
abbrev trElt : Ex := .call 20 (.cons (.var 0) (.cons (.var 1) (.cons (.var 6) (.cons (.bin .sub (.var 3) (.con (.int 1))) .nil))))
abbrev mkIf : Tx := (.and (.tr (.cmp .eq (.idx (.var 5) (.con (.int 1))) (.var 2))) (.or (.tr (.cmp .gt (.var 3) (.con (.int 0)))) (.tr (.cmp .eq (.idx (.var 5) (.con (.int 2))) (.tup .nil)))))
theorem ltree_fin (s : List Mk) (srt : List Str) (V : VS s srt) (n : Nat) (x : Str) (hx : x ∈ srt) (d : Int) (q : List Int) (hq : nn q) (P : Mk → List Tr → Prop)
    (hin : ∀ m ∈ s, okM x d m = true → ∀ (q1 : List Int) (X0 X1 : Sl) (v : Option Sl), nn q1 → ∃ ts q' w, clp (Ev.compTurn (.name 6) [6] (evt (flagsOf tab) (call tab (n + 1)) .yes) (ev (flagsOf tab) (call tab (n + 1)) trElt)) (m.places.map PyData.str)
      [some (.own true (encI q1)), some (.val (encS s)), some (.val (.str x)), some (.val (.int d)), some X0, some X1, v] = some (.ok (encTs ts, [some (.own true (encI q')), some (.val (encS s)), some (.val (.str x)), some (.val (.int d)), some X0, some X1, w])) ∧ ts.length = m.places.length ∧ P m ts ∧ nn q') :
    ∃ m ts q', m ∈ s ∧ okM x d m = true ∧ call tab (n + 2) 20 [encI q, encS s, .str x, .int d] = some (.ok (.val (encT (.node m.name ts)), [encI q'])) ∧ P m ts ∧ nn q' := by
  have f10 : flagsOf tab 12 = [true] := rfl
  obtain ⟨w, e1⟩ := makers_in (n + 1) srt x d (V.sok x hx) (.val (encS s)) (.own true (encI q)) s (fun m hm => V.gs.so m hm) (fun m hm => ⟨(V.pl m hm).1, (V.gs.pl m hm).1⟩) none none none
  have hL : 0 < (s.filter (okM x d)).length := by
    obtain ⟨m, hm, h1, h2⟩ := V.leaf x hx
    exact List.length_pos_of_mem (List.mem_filter.mpr ⟨hm, by simp [okM, h1, h2]⟩)
  generalize hF : s.filter (okM x d) = F at e1 hL
  obtain ⟨r, hr⟩ : ∃ r, r = q.getLast?.getD 0 % (F.length : Int) := ⟨_, rfl⟩
  have r0 : 0 ≤ r := by rw [hr]; exact Int.emod_nonneg _ (by omega)
  have r1 : r < F.length := by rw [hr]; exact Int.emod_lt_of_pos _ (by omega)
  obtain ⟨k, hk⟩ : ∃ k : Nat, r = (k : Int) := ⟨r.toNat, by omega⟩
  have hkl : k < F.length := by omega
  have hm : F[k] ∈ s.filter (okM x d) := by rw [hF]; exact List.getElem_mem hkl
  obtain ⟨hms, hmo⟩ := List.mem_filter.mp hm
  generalize hM : F[k] = m at hm hms hmo
  have ix : idxD (.list (F.map encM)) (.int r) = some (encM m) := by
    show atD (F.map encM) r = _
    rw [hk, atD_nat, List.getElem?_map, List.getElem?_eq_getElem hkl, hM]; rfl
  obtain ⟨ts, q', w2, e2, hlen, hP, hq'⟩ := hin m hms hmo q.dropLast (.own false (.list (F.map encM))) (.val (encM m)) none (drop_nn hq)
  refine ⟨m, ts, q', hms, hmo, ?_, hP, hq'⟩
  rw [call_at (d := d_law_tree) rfl]
  have hc1 := e_comp (own := [5]) (it := .seq (.var 1)) (ρ := [some (.own true (encI q)), some (.val (encS s)), some (.val (.str x)), some (.val (.int d)), none, none, none]) (by simp [evi, ev, Sl.d, rt, bd, itemsOf, encS]) e1
  have p10 := pick_ok (T := tab) (i := 12) rfl n q
  have s2 : evS (flagsOf tab) (call tab (n + 1)) (.asg 5 (.idx (.var 4) (.bin .mod (.call 12 (.cons (.var 0) .nil)) (.blt .len (.cons (.var 4) .nil))))) [some (.own true (encI q)), some (.val (encS s)), some (.val (.str x)), some (.val (.int d)), some (.own false (.list (F.map encM))), none, none] = some (.ok (.nx [some (.own true (encI q.dropLast)), some (.val (encS s)), some (.val (.str x)), some (.val (.int d)), some (.own false (.list (F.map encM))), some (.val (encM m)), none])) := by
    have hl : lenD (.list (F.map encM)) = some (.val (.int (F.length : Int))) := by simp [lenD]
    have hb : binD .mod (.int (q.getLast?.getD 0)) (.int (F.length : Int)) = some (.val (.int r)) := by
      have : (0 : Int) < F.length := by omega
      rw [hr]
      show (if _ then _ else _) = _
      rw [if_pos this]
    generalize hI : encI q = I0 at p10 ⊢
    generalize hI1 : encI q.dropLast = I1 at p10 ⊢
    generalize hgi : idxD = gg at ix
    generalize hgl : lenD = ll at hl
    generalize hgb : binD = bb at hb
    simp [evS, ev, eva, evos, evoOf, evlOf, f10, p10, rdo, rdAll, lentOf, ownAll, tempOk, backIn, bltD, one, Sl.d, rt, lift, opt, bd, setSl, hgi, hgl, hgb, ix, hl, hb]
  have j0 : idxD (encM m) (.int 0) = some (.str m.name) := rfl
  have j2 : idxD (encM m) (.int 2) = some (.tuple (m.places.map PyData.str)) := rfl
  have hc2 := e_comp (own := [6]) (it := .seq (.idx (.var 5) (.con (.int 2)))) (ρ := [some (.own true (encI q.dropLast)), some (.val (encS s)), some (.val (.str x)), some (.val (.int d)), some (.own false (.list (F.map encM))), some (.val (encM m)), none]) (by
    generalize hgi : idxD = gg at j2
    simp [evi, ev, evoOf, rdo, Sl.d, rt, lift, bd, itemsOf, hgi, j2]) e2
  have z1 : 1 ≤ sizeLine := by rw [sizeLine_eq]; omega
  have hz : 1 + (encTs ts).length ≤ sizeLine := by
    have := (V.pl m hms).1
    rw [encTs_len, hlen, sizeLine_eq]; omega
  refine run_rt (ρ' := [some (.own true (encI q')), some (.val (encS s)), some (.val (.str x)), some (.val (.int d)), some (.own false (.list (F.map encM))), some (.val (encM m)), none]) rfl (ss_step (ρ' := [some (.own true (encI q)), some (.val (encS s)), some (.val (.str x)), some (.val (.int d)), some (.own false (.list (F.map encM))), none, none]) (s_asg hc1 rfl) (ss_step s2 (ss_one (s_ret (v_bin (oa := .d (.tuple [.str m.name])) (ρ1 := [some (.own true (encI q.dropLast)), some (.val (encS s)), some (.val (.str x)), some (.val (.int d)), some (.own false (.list (F.map encM))), some (.val (encM m)), none]) ?_ (o_ex (v_blt1 (o_ex hc2 rfl) rfl rfl) rfl) rfl rfl ?_) rfl)))) rfl
  · generalize hgi : idxD = gg at j0
    simp [ev, evf, evoOf, rdo, Sl.d, rt, lift, bd, hgi, j0, z1]
  · simp [binD, Sl.d, hz, encT]
theorem wfs_len {s : List Mk} : ∀ {ts : List Tr} {qs : List Str}, wfs s ts qs → ts.length = qs.length
  | [], _, h => by rw [show _ = [] from h]; rfl
  | t :: ts, _, ⟨q, r, e, _, h⟩ => by rw [e]; simp [wfs_len h]
theorem ltree_ok (s : List Mk) (srt : List Str) (V : VS s srt) : ∀ (deep n : Nat), deep ≤ n → ∀ (x : Str) (q : List Int), nn q → x ∈ srt → ∃ t q', call tab (n + 2) 20 [encI q, encS s, .str x, .int (deep : Int)] = some (.ok (.val (encT t), [encI q'])) ∧ Drawn s x deep t ∧ nn q' := by
  intro deep
  induction deep with
  | zero =>
    intro n _ x q hq hx
    obtain ⟨m, ts, q', h1, h2, e, h3, h4⟩ := ltree_fin s srt V n x hx 0 q hq (fun m ts => ts = []) (fun m hm ho q1 X0 X1 v h1 => by
      have : m.places = [] := by
        simp only [okM, Bool.and_eq_true, Bool.or_eq_true, decide_eq_true_eq] at ho
        rcases ho.2 with z | z
        · omega
        · exact List.isEmpty_iff.mp z
      rw [this]
      exact ⟨[], q1, v, rfl, rfl, rfl, h1⟩)
    subst h3
    simp only [okM, Bool.and_eq_true, Bool.or_eq_true, decide_eq_true_eq] at h2
    refine ⟨_, q', e, ⟨⟨m, h1, rfl, .inr (by rw [h2.1]), ?_⟩, by simp [ht, hts], by simp [pre, pres]⟩, h4⟩
    have : m.places = [] := by
      rcases h2.2 with z | z
      · omega
      · exact List.isEmpty_iff.mp z
    rw [this]; rfl
  | succ deep ih =>
    intro n hn x q hq hx
    obtain ⟨n, rfl⟩ : ∃ n', n = n' + 1 := ⟨n - 1, by omega⟩
    obtain ⟨m, ts, q', h1, h2, e, ⟨h3, h5, h6⟩, h4⟩ := ltree_fin s srt V (n + 1) x hx ((deep + 1 : Nat) : Int) q hq (fun m ts => wfs s ts m.places ∧ hts ts ≤ deep + 1 ∧ (pres ts).length ≤ m.places.length * (2 ^ (deep + 1) - 1)) (fun m hm ho q1 X0 X1 v h1 => by
      obtain ⟨ts, q', w, a1, a2, a3, a4, a5⟩ := ltree_in (n + 2) s deep X0 X1 (.val (.str x)) X0 (fun y p hp hy => by
        obtain ⟨m', hm', hy'⟩ := hy
        exact ih n (by omega) y p hp ((V.pl m' hm').2 y hy')) m.places (fun p hp => ⟨m, hm, hp⟩) q1 v h1
      exact ⟨ts, q', w, a1, wfs_len a2, ⟨a2, a3, a4⟩, a5⟩)
    simp only [okM, Bool.and_eq_true, Bool.or_eq_true, decide_eq_true_eq] at h2
    refine ⟨_, q', e, ⟨⟨m, h1, rfl, .inr (by rw [h2.1]), h3⟩, by simpa [ht] using h5, ?_⟩, h4⟩
    simp only [pre, List.length_cons]
    have hp2 := (V.pl m h1).1
    have hpow : 1 ≤ 2 ^ (deep + 1) := Nat.one_le_two_pow
    have hmul : m.places.length * (2 ^ (deep + 1) - 1) ≤ 2 * (2 ^ (deep + 1) - 1) := Nat.mul_le_mul_right _ hp2
    rw [Nat.pow_succ 2 (deep + 1)]
    omega

end EvM
end
section
set_option maxRecDepth 100000
set_option maxHeartbeats 4000000
/-! k01: small trees, sorts. -/
namespace EvM
open PySem Ev
theorem Drawn.mono {s : List Mk} {x : Str} {a b : Nat} {t : Tr} (d : Drawn s x a t) (h : a ≤ b) : Drawn s x b t :=
  ⟨d.wf, Nat.le_trans d.ht h, by
    have := d.len
    have h2 : 2 ^ (a + 1) ≤ 2 ^ (b + 1) := Nat.pow_le_pow_right (by decide) (by omega)
    omega⟩
theorem stree_ok (s : List Mk) (srt : List Str) (V : VS s srt) (n deep most : Nat) (hn : deep ≤ n) (x : Str) (q : List Int) (hq : nn q) (hx : x ∈ srt) : ∃ t q', call tab (n + 3) 21 [encI q, encS s, .str x, .int (deep : Int), .int (most : Int)] = some (.ok (.val (encT t), [encI q'])) ∧ Drawn s x deep t ∧ nn q' := by
  obtain ⟨t, q', e, d, hq'⟩ := ltree_ok s srt V deep n hn x q hq hx
  obtain ⟨t0, q0, e0, d0, hq0⟩ := ltree_ok s srt V 0 n (Nat.zero_le _) x q' hq' hx
  have hs := size_ok (n + 1) t (by have := d.ht; omega)
  have f19 : flagsOf tab 20 = [true, false, false, false] := rfl
  have f16 : flagsOf tab 19 = [false] := rfl
  have hc : cmpD .le (.int ((pre t).length : Int)) (.int (most : Int)) = some (decide (((pre t).length : Int) ≤ (most : Int))) := rfl
  by_cases h : ((pre t).length : Int) ≤ (most : Int)
  · refine ⟨t, q', ?_, d, hq'⟩
    rw [decide_eq_true h] at hc
    rw [call_at (d := d_law_small_tree) rfl]
    generalize hI : encI q = I0 at e ⊢
    generalize hI1 : encI q' = I1 at e ⊢
    generalize hS : encS s = S0 at e ⊢
    generalize hE : encT t = E at e hs ⊢
    generalize hgc : cmpD = cm at hc
    simp [d_law_small_tree, runDef, startE, evSs, evS, evt, ev, eva, evoOf, evlOf, evrOf, f19, f16, e, hs, hgc, hc, rdo, rdAll, lentOf, ownAll, tempOk, backIn, outsOf, setSl, Sl.d, rt, lift, opt, bd, truD]
  · refine ⟨t0, q0, ?_, d0.mono (Nat.zero_le _), hq0⟩
    rw [decide_eq_false h] at hc
    rw [call_at (d := d_law_small_tree) rfl]
    generalize hI : encI q = I0 at e ⊢
    generalize hI1 : encI q' = I1 at e e0 ⊢
    generalize hI2 : encI q0 = I2 at e0 ⊢
    generalize hS : encS s = S0 at e e0 ⊢
    generalize hE : encT t = E at e hs ⊢
    generalize hE0 : encT t0 = E0 at e0 ⊢
    generalize hgc : cmpD = cm at hc
    have e0' : call tab (n + 2) 20 [I1, S0, .str x, .int 0] = some (.ok (.val E0, [I2])) := e0
    simp [d_law_small_tree, runDef, startE, evSs, evS, evt, ev, eva, evoOf, evlOf, evrOf, f19, f16, e, e0', hs, hgc, hc, rdo, rdAll, lentOf, ownAll, tempOk, backIn, outsOf, setSl, Sl.d, rt, lift, opt, bd, truD]
/-- keys of texts -/
theorem putAll_keys : ∀ (ps : List (Str × D)) (acc : List (Str × D)), ∃ L : List Str, (putAll (acc.map fun p => (PyData.str p.1, p.2)) (ps.map fun p => (PyData.str p.1, p.2))).map (·.1) = L.map PyData.str ∧ (∀ x ∈ L, x ∈ acc.map (·.1) ∨ x ∈ ps.map (·.1)) ∧ (L = [] → acc = [] ∧ ps = [])
  | [], acc => ⟨acc.map (·.1), by simp [putAll, Function.comp_def], fun x h => .inl h, fun h => ⟨by simpa using h, rfl⟩⟩
  | (k, v) :: ps, acc => by
    have put : ∀ acc : List (Str × D), ∃ acc' : List (Str × D), putD (PyData.str k) v (acc.map fun p => (PyData.str p.1, p.2)) = acc'.map (fun p => (PyData.str p.1, p.2)) ∧ (∀ x ∈ acc'.map (·.1), x = k ∨ x ∈ acc.map (·.1)) ∧ acc' ≠ [] := by
      intro acc
      induction acc with
      | nil => exact ⟨[(k, v)], rfl, fun x h => .inl (by simpa using h), by simp⟩
      | cons a r ih =>
        obtain ⟨r', h1, h2, h3⟩ := ih
        by_cases e : keyN (.str a.1) = keyN (.str k)
        · refine ⟨(a.1, v) :: r, ?_, fun x h => ?_, by simp⟩
          · simp only [List.map_cons, putD]
            rw [if_pos e]
          · right; simpa using h
        · refine ⟨a :: r', ?_, fun x h => ?_, by simp⟩
          · simp only [List.map_cons, putD]
            rw [if_neg e, h1]
          · rcases List.mem_cons.mp h with h | h
            · right; rw [h]; simp
            · rcases h2 x h with h | h
              · exact .inl h
              · right; simp only [List.map_cons]; exact List.mem_cons_of_mem _ h
    obtain ⟨acc', h1, h2, h3⟩ := put acc
    obtain ⟨L, g1, g2, g3⟩ := putAll_keys ps acc'
    refine ⟨L, ?_, fun x h => ?_, fun h => absurd (g3 h).1 h3⟩
    · rw [← g1]
      simp only [List.map_cons, putAll, h1]
    · rcases g2 x h with h | h
      · rcases h2 x h with h | h
        · right; rw [h]; simp
        · exact .inl h
      · right; simp only [List.map_cons]; exact List.mem_cons_of_mem _ h
theorem allKind_strs (ps : List (Str × D)) : allKind (ps.map fun p => (PyData.str p.1, p.2)) = true := by
  induction ps with
  | nil => rfl
  | cons p ps ih =>
    simp only [List.map_cons, allKind, Bool.and_eq_true]
    refine ⟨?_, ih⟩
    simp only [kindOk, keyK]
    simp
theorem sorts_in (n : Nat) (S0 : Sl) : ∀ (ms : List Mk) (v : Option Sl), ∃ w, clp (Ev.compTurn (.name 1) [1] (evt (flagsOf tab) (call tab n) .yes) (ev (flagsOf tab) (call tab n) (.tup (.cons (.idx (.var 1) (.con (.int 1))) (.cons (.con (.int 0)) .nil))))) (ms.map encM) [some S0, v] = some (.ok (ms.map (fun m => PyData.tuple [.str m.sort, .int 0]), [some S0, w]))
  | [], v => ⟨v, rfl⟩
  | m :: ms, v => by
    obtain ⟨w, e⟩ := sorts_in n S0 ms (some (.val (encM m)))
    refine ⟨w, ?_⟩
    have z2 : 2 ≤ sizeLine := by rw [sizeLine_eq]; omega
    have j1 : idxD (encM m) (.int 1) = some (.str m.sort) := rfl
    have st : Ev.compTurn (.name 1) [1] (evt (flagsOf tab) (call tab n) .yes) (ev (flagsOf tab) (call tab n) (.tup (.cons (.idx (.var 1) (.con (.int 1))) (.cons (.con (.int 0)) .nil)))) (encM m) [some S0, v] = some (.ok (some (.tuple [.str m.sort, .int 0]), [some S0, some (.val (encM m))])) := by
      generalize hgi : idxD = gg at j1
      simp [Ev.compTurn, wipeE, tgS, setSl, evt, ev, evf, evoOf, rdo, Sl.d, rt, lift, opt, bd, hgi, j1, z2]
    rw [List.map_cons]
    unfold clp
    rw [st, bd_some, e, bd_some]
    rfl
theorem pairs_sorts (ms : List Mk) : pairsD (ms.map fun m => PyData.tuple [.str m.sort, .int 0]) = some ((ms.map fun m => (m.sort, PyData.int 0)).map fun p => (PyData.str p.1, p.2)) := by
  induction ms with
  | nil => rfl
  | cons m ms ih =>
    simp only [List.map_cons, pairsD, ih]
    rfl
theorem sorts_ok (s : List Mk) (srt : List Str) (V : VS s srt) (n : Nat) (hs : s ≠ []) : ∃ L : List Str, L ≠ [] ∧ (∀ x ∈ L, x ∈ srt) ∧ call tab (n + 1) 14 [encS s] = some (.ok (.val (.tuple (L.map PyData.str)), [])) := by
  obtain ⟨L, h1, h2, h3⟩ := putAll_keys (s.map fun m => (m.sort, PyData.int 0)) []
  refine ⟨L, fun e => hs (by simpa using (h3 e).2), fun x hx => ?_, ?_⟩
  · rcases h2 x hx with h | h
    · simp at h
    · rw [List.map_map] at h
      obtain ⟨m, hm, rfl⟩ := List.mem_map.mp h
      exact V.so m hm
  · rw [call_at (d := d_law_sorts) rfl]
    obtain ⟨w, e⟩ := sorts_in n (.val (encS s)) s none
    have hc := e_comp (own := [1]) (it := .seq (.var 0)) (ρ := [some (.val (encS s)), none]) (by simp [evi, ev, Sl.d, rt, bd, itemsOf, encS]) e
    have hd : bltD .dict [.list (s.map fun m => PyData.tuple [.str m.sort, .int 0])] = some (.own false (.dict (putAll [] ((s.map fun m => (m.sort, PyData.int 0)).map fun p => (PyData.str p.1, p.2))))) := by
      show (pairsD _).bind _ = _
      rw [pairs_sorts, Option.bind_some, allKind_strs]
      have hl : s.length ≤ sizeLine := by have := V.g.len; rw [sizeLine_eq]; omega
      simp [hl]
    have ht : bltD .tuple [.dict (putAll [] ((s.map fun m => (m.sort, PyData.int 0)).map fun p => (PyData.str p.1, p.2)))] = some (.val (.tuple (L.map PyData.str))) := by
      show some (Sl.val (.tuple _)) = _
      rw [← h1]; rfl
    exact run_rt (ρ' := [some (.val (encS s)), none]) rfl (ss_one (s_ret (v_blt1 (o_ex (v_blt1 (o_ex hc rfl) rfl hd) rfl) rfl ht) rfl)) rfl

end EvM
end
section
set_option maxRecDepth 100000
set_option maxHeartbeats 4000000
/-! k01: drawn stocks. -/
namespace EvM
open PySem Ev
def nmL : List Str := ["s", "t", "u", "w"]
def srtL (σ : Nat) : List Str := nmL.take σ
def eName (j : Nat) : Str := Str.ofString "e" ++ Str.ofString (toString (j : Int))
def mName (j : Nat) : Str := Str.ofString "m" ++ Str.ofString (toString (j : Int))
def namesD (σ : Nat) : D := .tuple ((srtL σ).map PyData.str)
theorem srtL_len {σ : Nat} (h : σ ≤ 4) : (srtL σ).length = σ := by simp [srtL, nmL]; omega
abbrev pkEx : Ex := .idx (.var 3) (.bin .mod (.call 12 (.cons (.var 0) .nil)) (.var 1))
theorem pick_name (n σ : Nat) (h0 : 0 < σ) (h4 : σ ≤ 4) (q : List Int) (hq : nn q) (X2 X4 X5 X6 X7 X8 : Option Sl) : ∃ x ∈ srtL σ, ev (flagsOf tab) (call tab (n + 1)) pkEx [some (.own true (encI q)), some (.val (.int (σ : Int))), X2, some (.val (namesD σ)), X4, X5, X6, X7, X8] = some (.ok (.val (.str x), [some (.own true (encI q.dropLast)), some (.val (.int (σ : Int))), X2, some (.val (namesD σ)), X4, X5, X6, X7, X8])) := by
  have f10 : flagsOf tab 12 = [true] := rfl
  have p10 := pick_ok (T := tab) (i := 12) rfl n q
  obtain ⟨r, hr⟩ : ∃ r, r = q.getLast?.getD 0 % (σ : Int) := ⟨_, rfl⟩
  have r0 : 0 ≤ r := by rw [hr]; exact Int.emod_nonneg _ (by omega)
  have r1 : r < σ := by rw [hr]; exact Int.emod_lt_of_pos _ (by omega)
  obtain ⟨k, hk⟩ : ∃ k : Nat, r = (k : Int) := ⟨r.toNat, by omega⟩
  have hl := srtL_len h4
  have hkl : k < (srtL σ).length := by omega
  have ix : idxD (namesD σ) (.int r) = some (.str (srtL σ)[k]) := by
    show atD ((srtL σ).map PyData.str) r = _
    rw [hk, atD_nat, List.getElem?_map, List.getElem?_eq_getElem hkl]; rfl
  refine ⟨(srtL σ)[k], List.getElem_mem hkl, ?_⟩
  have hb : binD .mod (.int (q.getLast?.getD 0)) (.int (σ : Int)) = some (.val (.int r)) := by
    have : (0 : Int) < σ := by omega
    rw [hr]
    show (if _ then _ else _) = _
    rw [if_pos this]
  generalize hI : encI q = I0 at p10 ⊢
  generalize hI1 : encI q.dropLast = I1 at p10 ⊢
  generalize hN : namesD σ = N0 at ix ⊢
  generalize hgi : idxD = gg at ix
  generalize hgb : binD = bb at hb
  simp [ev, eva, evoOf, evlOf, f10, p10, rdo, rdAll, lentOf, ownAll, tempOk, backIn, Sl.d, rt, lift, opt, bd, hgi, hgb, ix, hb]
/-- the places of a maker -/
theorem places_in (n σ : Nat) (h0 : 0 < σ) (h4 : σ ≤ 4) (X2 X4 X5 X6 X7 : Option Sl) : ∀ (xs : List D) (q : List Int) (v : Option D), nn q → ∃ (ps : List Str) (q' : List Int) (w : Option D), ps.length = xs.length ∧ (∀ p ∈ ps, p ∈ srtL σ) ∧ nn q' ∧
    clp (Ev.compTurn (.name 8) [8] (evt (flagsOf tab) (call tab (n + 1)) .yes) (ev (flagsOf tab) (call tab (n + 1)) pkEx)) xs [some (.own true (encI q)), some (.val (.int (σ : Int))), X2, some (.val (namesD σ)), X4, X5, X6, X7, v.map Sl.val] = some (.ok (ps.map PyData.str, [some (.own true (encI q')), some (.val (.int (σ : Int))), X2, some (.val (namesD σ)), X4, X5, X6, X7, w.map Sl.val]))
  | [], q, v, hq => ⟨[], q, v, rfl, by simp, hq, rfl⟩
  | x :: xs, q, v, hq => by
    obtain ⟨p, hp, e⟩ := pick_name n σ h0 h4 q hq X2 X4 X5 X6 X7 (some (.val x))
    obtain ⟨ps, q', w, a1, a2, a3, a4⟩ := places_in n σ h0 h4 X2 X4 X5 X6 X7 xs q.dropLast (some x) (drop_nn hq)
    refine ⟨p :: ps, q', w, by simp [a1], fun y hy => ?_, a3, ?_⟩
    · rcases List.mem_cons.mp hy with h | h
      · rw [h]; exact hp
      · exact a2 y h
    · have st : Ev.compTurn (.name 8) [8] (evt (flagsOf tab) (call tab (n + 1)) .yes) (ev (flagsOf tab) (call tab (n + 1)) pkEx) x [some (.own true (encI q)), some (.val (.int (σ : Int))), X2, some (.val (namesD σ)), X4, X5, X6, X7, v.map Sl.val] = some (.ok (some (.str p), [some (.own true (encI q.dropLast)), some (.val (.int (σ : Int))), X2, some (.val (namesD σ)), X4, X5, X6, X7, some (.val x)])) := by
        have tg : tgS (.name 8) x (wipeE [some (.own true (encI q)), some (.val (.int (σ : Int))), X2, some (.val (namesD σ)), X4, X5, X6, X7, v.map Sl.val] [8]) = some [some (.own true (encI q)), some (.val (.int (σ : Int))), X2, some (.val (namesD σ)), X4, X5, X6, X7, some (.val x)] := rfl
        unfold Ev.compTurn
        rw [tg, opt_some, bd_some]
        show bd (rt (true, _)) _ = _
        simp only [rt, bd_some]
        rw [if_pos trivial, e, bd_some]
        rfl
      unfold clp
      rw [st, bd_some]
      have a4' := a4
      simp only [Option.map] at a4'
      rw [a4', bd_some]
      rfl
/-- a drawn maker -/
def okMk (σ : Nat) (m : Mk) : Prop := m.sort ∈ srtL σ ∧ (∀ p ∈ m.places, p ∈ srtL σ) ∧ m.places.length ≤ 2
abbrev stBody : Sts := (.cons (.asg 7 (.blt .tuple (.cons (.comp [8] pkEx (.name 8) (.rng1 (.bin .add (.con (.int 1)) (.bin .mod (.call 12 (.cons (.var 0) .nil)) (.con (.int 2))))) .yes) .nil))) (.cons (.drop (.mut .append 6 (.cons (.tup (.cons (.bin .add (.con (.str "m")) (.blt .str (.cons (.var 5) .nil))) (.cons pkEx (.cons (.var 7) .nil)))) .nil))) .nil))
theorem stock_turn (n σ : Nat) (h0 : 0 < σ) (h4 : σ ≤ 4) (j : Nat) (hj : j < 5) (q : List Int) (hq : nn q) (X2 X4 : Option Sl) (v5 v7 v8 : Option D) (O : List D) (hO : O.length < 10) : ∃ (m : Mk) (q' : List Int) (w7 w8 : Option D), m.name = mName j ∧ okMk σ m ∧ nn q' ∧
    turn (flagsOf tab) (call tab (n + 1)) (.name 5) stBody (.int (j : Int)) [some (.own true (encI q)), some (.val (.int (σ : Int))), X2, some (.val (namesD σ)), X4, v5.map Sl.val, some (.own false (.list O)), v7.map Sl.val, v8.map Sl.val] =
      some (.ok (.nx [some (.own true (encI q')), some (.val (.int (σ : Int))), X2, some (.val (namesD σ)), X4, some (.val (.int (j : Int))), some (.own false (.list (O ++ [encM m]))), w7.map Sl.val, w8.map Sl.val])) := by
  have f10 : flagsOf tab 12 = [true] := rfl
  have p10 := pick_ok (T := tab) (i := 12) rfl n q
  obtain ⟨r, hr⟩ : ∃ r, r = q.getLast?.getD 0 % 2 := ⟨_, rfl⟩
  have r0 : 0 ≤ r := by rw [hr]; omega
  have r1 : r < 2 := by rw [hr]; omega
  have hlen : (iotaD 0 (1 + r).toNat).length ≤ 2 := by rw [iotaD_eq]; simp; omega
  obtain ⟨ps, q1, w8, a1, a2, a3, a4⟩ := places_in n σ h0 h4 X2 X4 (some (.val (.int (j : Int)))) (some (.own false (.list O))) (v7.map Sl.val) (iotaD 0 (1 + r).toNat) q.dropLast v8 (drop_nn hq)
  have hi : evi (flagsOf tab) (call tab (n + 1)) (.rng1 (.bin .add (.con (.int 1)) (.bin .mod (.call 12 (.cons (.var 0) .nil)) (.con (.int 2))))) [some (.own true (encI q)), some (.val (.int (σ : Int))), X2, some (.val (namesD σ)), X4, some (.val (.int (j : Int))), some (.own false (.list O)), v7.map Sl.val, v8.map Sl.val] = some (.ok (iotaD 0 (1 + r).toNat, [some (.own true (encI q.dropLast)), some (.val (.int (σ : Int))), X2, some (.val (namesD σ)), X4, some (.val (.int (j : Int))), some (.own false (.list O)), v7.map Sl.val, v8.map Sl.val])) := by
    have c1 : (1 + r ≤ (sizeLine : Int)) ∧ -1000000000 ≤ 1 + r := by rw [sizeLine_eq]; constructor <;> omega
    generalize hI : encI q = I0 at p10 ⊢
    generalize hI1 : encI q.dropLast = I1 at p10 ⊢
    simp [evi, ev, eva, evoOf, evlOf, f10, p10, rdo, rdAll, lentOf, ownAll, tempOk, backIn, Sl.d, rt, lift, opt, bd, binD, ← hr, c1]
  have hc := e_comp hi a4
  obtain ⟨x, hx, e⟩ := pick_name n σ h0 h4 q1 a3 X2 X4 (some (.val (.int (j : Int)))) (some (.own false (.list O))) (some (.val (.tuple (ps.map PyData.str)))) (v8.map Sl.val)
  have s1 : evS (flagsOf tab) (call tab (n + 1)) (.asg 7 (.blt .tuple (.cons (.comp [8] pkEx (.name 8) (.rng1 (.bin .add (.con (.int 1)) (.bin .mod (.call 12 (.cons (.var 0) .nil)) (.con (.int 2))))) .yes) .nil))) [some (.own true (encI q)), some (.val (.int (σ : Int))), X2, some (.val (namesD σ)), X4, some (.val (.int (j : Int))), some (.own false (.list O)), v7.map Sl.val, v8.map Sl.val] = some (.ok (.nx [some (.own true (encI q1)), some (.val (.int (σ : Int))), X2, some (.val (namesD σ)), X4, some (.val (.int (j : Int))), some (.own false (.list O)), some (.val (.tuple (ps.map PyData.str))), v8.map Sl.val])) :=
    s_asg (v_blt1 (o_ex hc rfl) rfl (show bltD .tuple [.list (ps.map PyData.str)] = some (.val (.tuple (ps.map PyData.str))) from rfl)) (by cases v7 <;> rfl)
  have hstr : bltD .str [.int (j : Int)] = some (.val (.str (Str.ofString (toString (j : Int))))) := by
    have : (j : Int).natAbs.log2 < 1920 := by
      rw [Int.natAbs_natCast]
      have : j.log2 ≤ j := Nat.log2_le_self j
      omega
    show (if _ then _ else _) = _
    rw [if_pos this]
  have hlen2 : (Str.ofString "m").length + (Str.ofString (toString (j : Int))).length ≤ sizeLine := by
    have : j = 0 ∨ j = 1 ∨ j = 2 ∨ j = 3 ∨ j = 4 := by omega
    rw [sizeLine_eq]
    rcases this with h | h | h | h | h <;> subst h <;> decide +kernel
  have hadd : binD .add (.str "m") (.str (Str.ofString (toString (j : Int)))) = some (.val (.str (mName j))) := by
    show (if _ then _ else _) = _
    rw [if_pos hlen2]; rfl
  have z3 : 3 ≤ sizeLine := by rw [sizeLine_eq]; omega
  have zO : O.length < sizeLine := by rw [sizeLine_eq]; omega
  refine ⟨⟨mName j, x, ps⟩, q1.dropLast, some (.tuple (ps.map PyData.str)), v8, rfl, ⟨hx, a2, by show ps.length ≤ 2; omega⟩, drop_nn a3, ?_⟩
  refine turn_ok (ρ2 := [some (.own true (encI q)), some (.val (.int (σ : Int))), X2, some (.val (namesD σ)), X4, some (.val (.int (j : Int))), some (.own false (.list O)), v7.map Sl.val, v8.map Sl.val]) (by cases v5 <;> rfl) (ss_step s1 (ss_one ?_))
  have hv : ev (flagsOf tab) (call tab (n + 1)) (.bin .add (.con (.str "m")) (.blt .str (.cons (.var 5) .nil))) [some (.own true (encI q1)), some (.val (.int (σ : Int))), X2, some (.val (namesD σ)), X4, some (.val (.int (j : Int))), some (.own false (.list O)), some (.val (.tuple (ps.map PyData.str))), v8.map Sl.val] = some (.ok (.val (.str (mName j)), [some (.own true (encI q1)), some (.val (.int (σ : Int))), X2, some (.val (namesD σ)), X4, some (.val (.int (j : Int))), some (.own false (.list O)), some (.val (.tuple (ps.map PyData.str))), v8.map Sl.val])) :=
    v_bin (oa := .d (.str "m")) (x := .str "m") rfl (o_ex (v_blt1 (o := .d (.int (j : Int))) rfl rfl hstr) rfl) rfl rfl hadd
  have hf : evf (flagsOf tab) (call tab (n + 1)) (.cons (.tup (.cons (.bin .add (.con (.str "m")) (.blt .str (.cons (.var 5) .nil))) (.cons pkEx (.cons (.var 7) .nil)))) .nil) [some (.own true (encI q1)), some (.val (.int (σ : Int))), X2, some (.val (namesD σ)), X4, some (.val (.int (j : Int))), some (.own false (.list O)), some (.val (.tuple (ps.map PyData.str))), v8.map Sl.val] = some (.ok ([encM ⟨mName j, x, ps⟩], [some (.own true (encI q1.dropLast)), some (.val (.int (σ : Int))), X2, some (.val (namesD σ)), X4, some (.val (.int (j : Int))), some (.own false (.list O)), some (.val (.tuple (ps.map PyData.str))), v8.map Sl.val])) := by
    show bd (bd (bd (ev (flagsOf tab) (call tab (n + 1)) (.bin .add (.con (.str "m")) (.blt .str (.cons (.var 5) .nil))) _) fun p => bd (bd (ev (flagsOf tab) (call tab (n + 1)) pkEx p.2) _) _) _) _ = _
    rw [hv, bd_some]
    show bd (bd (bd (bd (ev (flagsOf tab) (call tab (n + 1)) pkEx [some (.own true (encI q1)), some (.val (.int (σ : Int))), X2, some (.val (namesD σ)), X4, some (.val (.int (j : Int))), some (.own false (.list O)), some (.val (.tuple (ps.map PyData.str))), v8.map Sl.val]) _) _) _) _ = _
    rw [e, bd_some]
    simp [bd, ev, evf, rt, Sl.d, z3, encM]
  show bd (ev (flagsOf tab) (call tab (n + 1)) (.mut .append 6 _) _) _ = _
  unfold ev
  show bd (if tyD (.list O) = mutTy .append then bd (evf (flagsOf tab) (call tab (n + 1)) (.cons (.tup (.cons (.bin .add (.con (.str "m")) (.blt .str (.cons (.var 5) .nil))) (.cons pkEx (.cons (.var 7) .nil)))) .nil) _) _ else none) _ = _
  rw [if_pos (show tyD (PyData.list O) = mutTy Mut.append from rfl), hf, bd_some]
  simp [bd, mutD, zO, rt]

end EvM
end
section
set_option maxRecDepth 100000
set_option maxHeartbeats 4000000
/-! k01: drawn stocks, whole. -/
namespace EvM
open PySem Ev
def leafM (σ j : Nat) : Mk := ⟨eName j, (srtL σ).getD j "s", []⟩
abbrev lfEx : Ex := (.tup (.cons (.bin .add (.con (.str "e")) (.blt .str (.cons (.var 5) .nil))) (.cons (.idx (.var 3) (.var 5)) (.cons (.tup .nil) .nil))))
theorem leaves_in (n σ : Nat) (h4 : σ ≤ 4) (X0 : Sl) (X2 X4 X6 X7 X8 : Option Sl) : ∀ (c k : Nat), k + c = σ → ∀ (v : Option D), ∃ w : Option D, clp (Ev.compTurn (.name 5) [5] (evt (flagsOf tab) (call tab n) .yes) (ev (flagsOf tab) (call tab n) lfEx)) (iotaD (k : Int) c) [some X0, some (.val (.int (σ : Int))), X2, some (.val (namesD σ)), X4, v.map Sl.val, X6, X7, X8] =
    some (.ok (((List.range' k c).map (leafM σ)).map encM, [some X0, some (.val (.int (σ : Int))), X2, some (.val (namesD σ)), X4, w.map Sl.val, X6, X7, X8]))
  | 0, k, _, v => ⟨v, rfl⟩
  | c + 1, k, hk, v => by
    obtain ⟨w, e⟩ := leaves_in n σ h4 X0 X2 X4 X6 X7 X8 c (k + 1) (by omega) (some (.int (k : Int)))
    refine ⟨w, ?_⟩
    have hl := srtL_len h4
    have hkl : k < (srtL σ).length := by omega
    have ix : idxD (namesD σ) (.int (k : Int)) = some (.str ((srtL σ).getD k "s")) := by
      show atD ((srtL σ).map PyData.str) (k : Int) = _
      rw [atD_nat, List.getElem?_map, List.getElem?_eq_getElem hkl, List.getD_eq_getElem?_getD, List.getElem?_eq_getElem hkl]; rfl
    have hstr : strD (.int (k : Int)) = some (.val (.str (Str.ofString (toString (k : Int))))) := by
      have : (k : Int).natAbs.log2 < 1920 := by
        rw [Int.natAbs_natCast]
        have : k.log2 ≤ k := Nat.log2_le_self k
        omega
      show (if _ then _ else _) = _
      rw [if_pos this]
    have hlen2 : (Str.ofString "e").length + (Str.ofString (toString (k : Int))).length ≤ sizeLine := by
      have : k = 0 ∨ k = 1 ∨ k = 2 ∨ k = 3 ∨ k = 4 := by omega
      rw [sizeLine_eq]
      rcases this with h | h | h | h | h <;> subst h <;> decide +kernel
    have hadd : binD .add (.str "e") (.str (Str.ofString (toString (k : Int)))) = some (.val (.str (eName k))) := by
      show (if _ then _ else _) = _
      rw [if_pos hlen2]; rfl
    have z3 : 3 ≤ sizeLine := by rw [sizeLine_eq]; omega
    have st : Ev.compTurn (.name 5) [5] (evt (flagsOf tab) (call tab n) .yes) (ev (flagsOf tab) (call tab n) lfEx) (.int (k : Int)) [some X0, some (.val (.int (σ : Int))), X2, some (.val (namesD σ)), X4, v.map Sl.val, X6, X7, X8] =
        some (.ok (some (encM (leafM σ k)), [some X0, some (.val (.int (σ : Int))), X2, some (.val (namesD σ)), X4, some (.val (.int (k : Int))), X6, X7, X8])) := by
      generalize hSS : Str.ofString (toString (k : Int)) = SS at hadd hstr
      generalize hN : namesD σ = N0 at ix ⊢
      generalize hgi : idxD = gg at ix
      generalize hgb : binD = bb at hadd
      generalize hgs : strD = ss at hstr
      simp [Ev.compTurn, wipeE, tgS, setSl, evt, ev, evf, evos, evoOf, rdo, rdAll, bltD, one, Sl.d, rt, lift, opt, bd, hgi, hgb, hgs, ix, hadd, hstr, z3, encM, leafM]
    rw [iotaD]
    unfold clp
    rw [st, bd_some]
    have e' := e
    rw [show ((k + 1 : Nat) : Int) = (k : Int) + 1 from by push_cast; rfl] at e'
    simp only [Option.map] at e'
    rw [e', bd_some, List.range'_succ]
    rfl
/-- the others -/
theorem others_in (n σ : Nat) (h0 : 0 < σ) (h4 : σ ≤ 4) (X2 X4 : Option Sl) (c : Nat) (hc : c ≤ 5) (q : List Int) (hq : nn q) : ∃ (os : List Mk) (q' : List Int) (v5 v7 v8 : Option D), os.map (·.name) = (List.range c).map mName ∧ (∀ m ∈ os, okMk σ m) ∧ nn q' ∧
    flp (turn (flagsOf tab) (call tab (n + 1)) (.name 5) stBody) (iotaD 0 c) [some (.own true (encI q)), some (.val (.int (σ : Int))), X2, some (.val (namesD σ)), X4, none, some (.own false (.list [])), none, none] =
      some (.ok (.nx [some (.own true (encI q')), some (.val (.int (σ : Int))), X2, some (.val (namesD σ)), X4, v5.map Sl.val, some (.own false (.list (os.map encM))), v7.map Sl.val, v8.map Sl.val])) := by
  obtain ⟨f, e, os, q', v5, v7, v8, rfl, h1, h2, h3⟩ : ∃ f, flp (turn (flagsOf tab) (call tab (n + 1)) (.name 5) stBody) (iotaD 0 c) [some (.own true (encI q)), some (.val (.int (σ : Int))), X2, some (.val (namesD σ)), X4, none, some (.own false (.list [])), none, none] = some (.ok f) ∧ ∃ (os : List Mk) (q' : List Int) (v5 v7 v8 : Option D), f = .nx [some (.own true (encI q')), some (.val (.int (σ : Int))), X2, some (.val (namesD σ)), X4, v5.map Sl.val, some (.own false (.list (os.map encM))), v7.map Sl.val, v8.map Sl.val] ∧ os.map (·.name) = (List.range c).map mName ∧ (∀ m ∈ os, okMk σ m) ∧ nn q' := by
    refine flp_run (fun rest ρ => ∃ (k : Nat) (os : List Mk) (q' : List Int) (v5 v7 v8 : Option D), k ≤ c ∧ rest = iotaD (k : Int) (c - k) ∧ ρ = [some (.own true (encI q')), some (.val (.int (σ : Int))), X2, some (.val (namesD σ)), X4, v5.map Sl.val, some (.own false (.list (os.map encM))), v7.map Sl.val, v8.map Sl.val] ∧ os.map (·.name) = (List.range k).map mName ∧ (∀ m ∈ os, okMk σ m) ∧ nn q') _ ?_ ?_ _ _ ⟨0, [], q, none, none, none, Nat.zero_le _, rfl, rfl, rfl, by simp, hq⟩
    · rintro ρ ⟨k, os, q', v5, v7, v8, hk, hr, rfl, h1, h2, h3⟩
      have e : k = c := by
        by_cases z : k < c
        · rw [iotaD_cons z] at hr; cases hr
        · omega
      subst e
      exact ⟨os, q', v5, v7, v8, rfl, h1, h2, h3⟩
    · rintro x rest ρ ⟨k, os, q', v5, v7, v8, hk, hr, rfl, h1, h2, h3⟩
      have hlt : k < c := by
        by_cases z : k < c
        · exact z
        · have e : c - k = 0 := by omega
          rw [e] at hr; cases hr
      rw [iotaD_cons hlt] at hr
      cases hr
      have hlen : os.length = k := by
        have := congrArg List.length h1
        simpa using this
      obtain ⟨m, q2, w7, w8, g1, g2, g3, g4⟩ := stock_turn n σ h0 h4 k (by omega) q' h3 X2 X4 v5 v7 v8 (os.map encM) (by simp [hlen]; omega)
      refine .inl ⟨_, .inl g4, k + 1, os ++ [m], q2, some (.int (k : Int)), w7, w8, hlt, rfl, ?_, ?_, ?_, g3⟩
      · simp
      · simp [h1, g1, List.range_succ]
      · intro y hy
        rcases List.mem_append.mp hy with hy | hy
        · exact h2 y hy
        · have e : y = m := by simpa using hy
          rw [e]; exact g2
  exact ⟨os, q', v5, v7, v8, h1, h2, h3, e⟩

end EvM
end
section
set_option maxRecDepth 100000
set_option maxHeartbeats 4000000
/-! k01: a drawn stock is valid. -/
namespace EvM
open PySem Ev
theorem srt_ok {σ : Nat} {x : Str} (h : x ∈ srtL σ) : PyData.strOk x = true := by
  have h' : x ∈ nmL := List.mem_of_mem_take h
  have : ∀ y ∈ nmL, PyData.strOk y = true := by decide +kernel
  exact this x h'
theorem names_ok : ∀ a ∈ (List.range 4).map eName ++ (List.range 5).map mName, PyData.strOk a = true ∧ a ≠ holeS := by decide +kernel
theorem names_nd (σ c : Nat) (h : σ ≤ 3) (hc : c ≤ 4) : ((List.range σ).map eName ++ (List.range c).map mName).Nodup ∧ ((List.range c).map mName ++ (List.range σ).map eName).Nodup := by
  have : ∀ σ < 4, ∀ c < 5, ((List.range σ).map eName ++ (List.range c).map mName).Nodup ∧ ((List.range c).map mName ++ (List.range σ).map eName).Nodup := by decide +kernel
  exact this σ (by omega) c (by omega)
def leaves (σ : Nat) : List Mk := (List.range' 0 σ).map (leafM σ)
theorem vs_of (σ c : Nat) (h0 : 0 < σ) (h3 : σ ≤ 3) (hc : c ≤ 4) (os s : List Mk) (h1 : os.map (·.name) = (List.range c).map mName) (h2 : ∀ m ∈ os, okMk σ m) (hs : s = leaves σ ++ os ∨ s = os ++ leaves σ) : VS s (srtL σ) := by
  have mem : ∀ m, m ∈ s ↔ m ∈ leaves σ ∨ m ∈ os := fun m => by
    rcases hs with rfl | rfl
    · exact List.mem_append
    · rw [List.mem_append]; exact Or.comm
  have hl := srtL_len (σ := σ) (by omega)
  have lf : ∀ m ∈ leaves σ, ∃ j, j < σ ∧ m = leafM σ j := fun m hm => by
    obtain ⟨j, hj, rfl⟩ := List.mem_map.mp hm
    exact ⟨j, by simpa using hj, rfl⟩
  have lsort : ∀ j, j < σ → (leafM σ j).sort ∈ srtL σ := fun j hj => by
    show (srtL σ).getD j "s" ∈ _
    rw [List.getD_eq_getElem?_getD, List.getElem?_eq_getElem (by omega)]
    exact List.getElem_mem _
  have oname : ∀ m ∈ os, m.name ∈ (List.range c).map mName := fun m hm => by
    rw [← h1]; exact List.mem_map.mpr ⟨m, hm, rfl⟩
  have okN : ∀ m ∈ s, PyData.strOk m.name = true ∧ m.name ≠ holeS := fun m hm => by
    refine names_ok m.name ?_
    rcases (mem m).mp hm with h | h
    · obtain ⟨j, hj, rfl⟩ := lf m h
      exact List.mem_append_left _ (List.mem_map.mpr ⟨j, by simp; omega, rfl⟩)
    · obtain ⟨j, hj, e⟩ := List.mem_map.mp (oname m h)
      exact List.mem_append_right _ (List.mem_map.mpr ⟨j, by simp at hj ⊢; omega, e⟩)
  have lnames : (leaves σ).map (·.name) = (List.range σ).map eName := by
    unfold leaves
    rw [List.map_map, List.range_eq_range']
    rfl
  have olen : os.length = c := by
    have := congrArg List.length h1
    simpa using this
  have llen : (leaves σ).length = σ := by simp [leaves]
  have slen : s.length ≤ 100 := by
    rcases hs with rfl | rfl <;> rw [List.length_append] <;> omega
  have sortIn : ∀ m ∈ s, m.sort ∈ srtL σ := fun m hm => by
    rcases (mem m).mp hm with h | h
    · obtain ⟨j, hj, rfl⟩ := lf m h
      exact lsort j hj
    · exact (h2 m h).1
  have plIn : ∀ m ∈ s, m.places.length ≤ 2 ∧ ∀ p ∈ m.places, p ∈ srtL σ := fun m hm => by
    rcases (mem m).mp hm with h | h
    · obtain ⟨j, hj, rfl⟩ := lf m h
      exact ⟨by simp [leafM], fun p hp => by simp [leafM] at hp⟩
    · exact ⟨(h2 m h).2.2, (h2 m h).2.1⟩
  refine ⟨⟨okN, ?_, slen⟩, ⟨fun m hm => srt_ok (sortIn m hm), fun m hm => ⟨fun p hp => srt_ok ((plIn m hm).2 p hp), by have := (plIn m hm).1; omega⟩, slen⟩, sortIn, plIn, fun x hx => ?_, fun x hx => srt_ok hx⟩
  · rcases hs with rfl | rfl
    · rw [List.map_append, lnames, h1]; exact (names_nd σ c h3 hc).1
    · rw [List.map_append, lnames, h1]; exact (names_nd σ c h3 hc).2
  · obtain ⟨j, hj, e⟩ := List.getElem_of_mem hx
    refine ⟨leafM σ j, (mem _).mpr (.inl (List.mem_map.mpr ⟨j, by simp; omega, rfl⟩)), ?_, rfl⟩
    show (srtL σ).getD j "s" = x
    rw [List.getD_eq_getElem?_getD, List.getElem?_eq_getElem hj]
    exact e

end EvM
end
section
set_option maxRecDepth 100000
set_option maxHeartbeats 4000000
/-! k01: the drawn stock. -/
namespace EvM
open PySem Ev
theorem stock_ok (n σ : Nat) (h0 : 0 < σ) (h3 : σ ≤ 3) (q : List Int) (hq : nn q) : ∃ s q', s ≠ [] ∧ VS s (srtL σ) ∧ nn q' ∧ call tab (n + 2) 15 [encI q, .int (σ : Int), .int 4] = some (.ok (.val (encS s), [encI q'])) := by
  have f10 : flagsOf tab 12 = [true] := rfl
  have p10 := pick_ok (T := tab) (i := 12) rfl n q
  obtain ⟨r, hr⟩ : ∃ r, r = q.getLast?.getD 0 % 5 := ⟨_, rfl⟩
  have r0 : 0 ≤ r := by rw [hr]; omega
  have r1 : r < 5 := by rw [hr]; omega
  obtain ⟨os, q1, v5, v7, v8, o1, o2, o3, e4⟩ := others_in n σ h0 (by omega) (some (.val (.int 4))) (some (.own false (.list ((leaves σ).map encM)))) r.toNat (by omega) q.dropLast (drop_nn hq)
  obtain ⟨w, e2⟩ := leaves_in (n + 1) σ (by omega) (.own true (encI q)) (some (.val (.int 4))) none none none none σ 0 (by omega) none
  have zs : (σ : Int) ≤ sizeLine ∧ (-1000000000 : Int) ≤ σ := by rw [sizeLine_eq]; constructor <;> omega
  have hc := e_comp (own := [5]) (it := .rng1 (.var 1)) (ρ := [some (.own true (encI q)), some (.val (.int (σ : Int))), some (.val (.int 4)), some (.val (namesD σ)), none, none, none, none, none]) (ρ' := [some (.own true (encI q)), some (.val (.int (σ : Int))), some (.val (.int 4)), some (.val (namesD σ)), none, none, none, none, none]) (by simp [evi, ev, Sl.d, rt, bd, zs]) e2
  have z4 : 4 ≤ sizeLine := by rw [sizeLine_eq]; omega
  have s1 : evS (flagsOf tab) (call tab (n + 1)) (.asg 3 (.sl (.tup (.cons (.con (.str "s")) (.cons (.con (.str "t")) (.cons (.con (.str "u")) (.cons (.con (.str "w")) .nil))))) .non (.som (.var 1)))) [some (.own true (encI q)), some (.val (.int (σ : Int))), some (.val (.int 4)), none, none, none, none, none, none] = some (.ok (.nx [some (.own true (encI q)), some (.val (.int (σ : Int))), some (.val (.int 4)), some (.val (namesD σ)), none, none, none, none, none])) := by
    have hsl : slD (.tuple [.str "s", .str "t", .str "u", .str "w"]) none (some (σ : Int)) = some (.val (namesD σ)) := by
      have : σ = 1 ∨ σ = 2 ∨ σ = 3 := by omega
      rcases this with h | h | h <;> subst h <;> rfl
    generalize hgs : slD = sl at hsl
    simp [evS, ev, evf, evx, evoOf, rdo, Sl.d, rt, lift, opt, bd, setSl, z4, hgs, hsl]
  have s3 : evS (flagsOf tab) (call tab (n + 1)) (.asg 6 (.lst .nil)) [some (.own true (encI q)), some (.val (.int (σ : Int))), some (.val (.int 4)), some (.val (namesD σ)), some (.own false (.list ((leaves σ).map encM))), none, none, none, none] = some (.ok (.nx [some (.own true (encI q)), some (.val (.int (σ : Int))), some (.val (.int 4)), some (.val (namesD σ)), some (.own false (.list ((leaves σ).map encM))), none, some (.own false (.list [])), none, none])) := by
    simp [evS, ev, evf, Sl.d, rt, lift, opt, bd, setSl]
  have i4 : evi (flagsOf tab) (call tab (n + 1)) (.rng1 (.bin .mod (.call 12 (.cons (.var 0) .nil)) (.bin .add (.var 2) (.con (.int 1))))) [some (.own true (encI q)), some (.val (.int (σ : Int))), some (.val (.int 4)), some (.val (namesD σ)), some (.own false (.list ((leaves σ).map encM))), none, some (.own false (.list [])), none, none] = some (.ok (iotaD 0 r.toNat, [some (.own true (encI q.dropLast)), some (.val (.int (σ : Int))), some (.val (.int 4)), some (.val (namesD σ)), some (.own false (.list ((leaves σ).map encM))), none, some (.own false (.list [])), none, none])) := by
    have c1 : (r ≤ (sizeLine : Int)) ∧ -1000000000 ≤ r := by rw [sizeLine_eq]; constructor <;> omega
    generalize hI : encI q = I0 at p10 ⊢
    generalize hI1 : encI q.dropLast = I1 at p10 ⊢
    simp [evi, ev, eva, evoOf, evlOf, f10, p10, rdo, rdAll, lentOf, ownAll, tempOk, backIn, Sl.d, rt, lift, opt, bd, binD, ← hr, c1]
  have p2 := pick_ok (T := tab) (i := 12) rfl n q1
  have ol : os.length ≤ 5 := by
    have := congrArg List.length o1
    simp at this; omega
  have ll : (leaves σ).length ≤ 5 := by simp [leaves]; omega
  have a1 : ((leaves σ).map encM).length + (os.map encM).length ≤ sizeLine := by rw [sizeLine_eq]; simp only [List.length_map]; omega
  have a2 : (os.map encM).length + ((leaves σ).map encM).length ≤ sizeLine := by omega
  have t5 : ∀ k : Bool, decide (q1.getLast?.getD 0 % 2 = 0) = k → evt (flagsOf tab) (call tab (n + 1)) (.tr (.cmp .eq (.bin .mod (.call 12 (.cons (.var 0) .nil)) (.con (.int 2))) (.con (.int 0)))) [some (.own true (encI q1)), some (.val (.int (σ : Int))), some (.val (.int 4)), some (.val (namesD σ)), some (.own false (.list ((leaves σ).map encM))), v5.map Sl.val, some (.own false (.list (os.map encM))), v7.map Sl.val, v8.map Sl.val] = some (.ok (k, [some (.own true (encI q1.dropLast)), some (.val (.int (σ : Int))), some (.val (.int 4)), some (.val (namesD σ)), some (.own false (.list ((leaves σ).map encM))), v5.map Sl.val, some (.own false (.list (os.map encM))), v7.map Sl.val, v8.map Sl.val])) := fun k hk => by
    have hcm : cmpD .eq (.int (q1.getLast?.getD 0 % 2)) (.int 0) = some k := by
      rw [← hk]
      simp [cmpD, eqD, eqOk, PyData.eqv, SeqAt.shaped, PyData.canLay0, PyData.depth]
      rw [Bool.eq_iff_iff]; simp
    generalize hgc : cmpD = cm at hcm
    generalize hI : encI q1 = I0 at p2 ⊢
    generalize hI1 : encI q1.dropLast = I1 at p2 ⊢
    simp [evt, ev, eva, evoOf, evlOf, f10, p2, rdo, rdAll, lentOf, ownAll, tempOk, backIn, Sl.d, rt, lift, opt, bd, binD, truD, hgc, hcm]
  rw [call_at (d := d_law_stock) rfl]
  have hp : leaves σ ≠ [] := fun h => by
    have : (leaves σ).length = σ := by simp [leaves]
    rw [h] at this; simp at this; omega
  have nz1 : leaves σ ++ os ≠ [] := fun h => hp (List.append_eq_nil_iff.mp h).1
  have nz2 : os ++ leaves σ ≠ [] := fun h => hp (List.append_eq_nil_iff.mp h).2
  have a1' : (leaves σ).length + os.length ≤ sizeLine := by simpa using a1
  have a2' : os.length + (leaves σ).length ≤ sizeLine := by simpa using a2
  by_cases hk : q1.getLast?.getD 0 % 2 = 0
  · have t := t5 true (by simp [hk])
    refine ⟨leaves σ ++ os, q1.dropLast, nz1, vs_of σ r.toNat h0 h3 (by omega) os _ o1 o2 (.inl rfl), drop_nn o3, ?_⟩
    refine run_rt (ρ' := [some (.own true (encI q1.dropLast)), some (.val (.int (σ : Int))), some (.val (.int 4)), some (.val (namesD σ)), some (.own false (.list ((leaves σ).map encM))), v5.map Sl.val, some (.own false (.list (os.map encM))), v7.map Sl.val, v8.map Sl.val]) rfl (ss_step s1 (ss_step (ρ' := [some (.own true (encI q)), some (.val (.int (σ : Int))), some (.val (.int 4)), some (.val (namesD σ)), some (.own false (.list ((leaves σ).map encM))), none, none, none, none]) (s_asg hc rfl) (ss_step s3 (ss_step (s_for i4 e4) (ss_ret (s_if t (ss_one ?_))))))) rfl
    simp [evS, evrOf, ev, evos, evoOf, rdo, rdAll, bltD, one, tupD, Sl.d, rt, lift, opt, bd, binD, a1', a2', encS]
  · have t := t5 false (by simp [hk])
    refine ⟨os ++ leaves σ, q1.dropLast, nz2, vs_of σ r.toNat h0 h3 (by omega) os _ o1 o2 (.inr rfl), drop_nn o3, ?_⟩
    refine run_rt (ρ' := [some (.own true (encI q1.dropLast)), some (.val (.int (σ : Int))), some (.val (.int 4)), some (.val (namesD σ)), some (.own false (.list ((leaves σ).map encM))), v5.map Sl.val, some (.own false (.list (os.map encM))), v7.map Sl.val, v8.map Sl.val]) rfl (ss_step s1 (ss_step (ρ' := [some (.own true (encI q)), some (.val (.int (σ : Int))), some (.val (.int 4)), some (.val (namesD σ)), some (.own false (.list ((leaves σ).map encM))), none, none, none, none]) (s_asg hc rfl) (ss_step s3 (ss_step (s_for i4 e4) (ss_step (s_if t rfl) (ss_one ?_)))))) rfl
    simp [evS, evrOf, ev, evos, evoOf, rdo, rdAll, bltD, one, tupD, Sl.d, rt, lift, opt, bd, binD, a1', a2', encS]

end EvM
end
section
set_option maxRecDepth 100000
set_option maxHeartbeats 4000000
/-! k01: the law's comparisons. -/
namespace EvM
open PySem Ev
theorem same_call (n m : Nat) (hm : m < n) (d : D) (hd : okS m d = true) {a b : Ex} {ρ ρ1 ρ2 : Ev.Env} {ra rb : Sl} (ha : ev (flagsOf tab) (call tab n) a ρ = some (.ok (ra, ρ1))) (hb : ev (flagsOf tab) (call tab n) b ρ1 = some (.ok (rb, ρ2))) (ea : ra.d = d) (eb : rb.d = d) :
    ev (flagsOf tab) (call tab n) (.call 9 (.cons a (.cons b .nil))) ρ = some (.ok (.val (.bool true), ρ2)) := by
  have f7 : flagsOf tab 9 = [false, false] := rfl
  have e := same_ok (T := tab) (i := 9) rfl m d hd n hm
  unfold ev
  rw [f7]
  show bd (bd (ev (flagsOf tab) (call tab n) a ρ) _) _ = _
  rw [ha, bd_some]
  show bd (bd (bd (ev (flagsOf tab) (call tab n) b ρ1) _) _) _ = _
  rw [hb, bd_some]
  simp [bd, eva, rt, rdAll, rdo, ea, eb, e, lentOf, ownAll, tempOk, backIn]
theorem same_test (n m : Nat) (hm : m < n) (d : D) (hd : okS m d = true) {a b : Ex} {ρ ρ1 ρ2 : Ev.Env} {ra rb : Sl} (ha : ev (flagsOf tab) (call tab n) a ρ = some (.ok (ra, ρ1))) (hb : ev (flagsOf tab) (call tab n) b ρ1 = some (.ok (rb, ρ2))) (ea : ra.d = d) (eb : rb.d = d) :
    evt (flagsOf tab) (call tab n) (.not (.tr (.call 9 (.cons a (.cons b .nil))))) ρ = some (.ok (false, ρ2)) := by
  have h := same_call n m hm d hd ha hb ea eb
  show bd (bd (evoOf (.call 9 _) (ev (flagsOf tab) (call tab n) (.call 9 (.cons a (.cons b .nil)))) ρ) _) _ = _
  show bd (bd (bd (ev (flagsOf tab) (call tab n) (.call 9 (.cons a (.cons b .nil))) ρ) _) _) _ = _
  rw [h]
  simp [bd, rt, rdo, Sl.d, truD, lift]
theorem okS_mono : ∀ {m : Nat} {d : D}, okS m d = true → okS (m + 1) d = true
  | m, .none, _ => by cases m <;> rfl
  | m, .bool _, _ => by cases m <;> rfl
  | m, .int _, _ => by cases m <;> rfl
  | m, .str x, h => by cases m <;> simpa [okS] using h
  | 0, .list _, h => by simp [okS] at h
  | 0, .tuple _, h => by simp [okS] at h
  | m + 1, .list ds, h => by
    simp only [okS, Bool.and_eq_true, decide_eq_true_eq, List.all_eq_true] at h ⊢
    exact ⟨h.1, fun x hx => okS_mono (h.2 x hx)⟩
  | m + 1, .tuple ds, h => by
    simp only [okS, Bool.and_eq_true, decide_eq_true_eq, List.all_eq_true] at h ⊢
    exact ⟨h.1, fun x hx => okS_mono (h.2 x hx)⟩
  | m, .dict _, h => by cases m <;> simp [okS] at h
theorem okS_le {m k : Nat} {d : D} (h : okS m d = true) (hk : m ≤ k) : okS k d = true := by
  induction hk with
  | refl => exact h
  | step _ ih => exact okS_mono ih
mutual
theorem okS_tree : ∀ (t : Tr), (∀ a ∈ pre t, PyData.strOk a = true) → (pre t).length ≤ 1000 → okS (ht t + 1) (encT t) = true
  | .node a ps, h, hl => by
    simp only [pre, List.length_cons] at hl h
    have lp := len_pres ps
    simp only [encT, ht, okS, Bool.and_eq_true, decide_eq_true_eq, List.all_eq_true, List.length_cons, encTs_len]
    refine ⟨by rw [sizeLine_eq]; omega, fun x hx => ?_⟩
    rcases List.mem_cons.mp hx with e | hx
    · rw [e]
      have := h a List.mem_cons_self
      cases hts ps <;> simpa [okS] using this
    · exact okS_trees ps (fun b hb => h b (List.mem_cons_of_mem _ hb)) (by omega) x hx
theorem okS_trees : ∀ (ts : List Tr), (∀ a ∈ pres ts, PyData.strOk a = true) → (pres ts).length ≤ 1000 → ∀ x ∈ encTs ts, okS (hts ts) x = true
  | [], _, _, x, hx => by simp [encTs] at hx
  | t :: ts, h, hl, x, hx => by
    simp only [pres, List.length_append] at hl h
    simp only [encTs] at hx
    rcases List.mem_cons.mp hx with e | hx
    · rw [e]
      exact okS_le (okS_tree t (fun a ha => h a (List.mem_append_left _ ha)) (by omega)) (by simp only [hts]; omega)
    · exact okS_le (okS_trees ts (fun a ha => h a (List.mem_append_right _ ha)) (by omega) x hx) (by simp only [hts]; omega)
end
end EvM
end
section
set_option maxRecDepth 100000
set_option maxHeartbeats 4000000
/-! k01: is_tree. -/
namespace EvM
open PySem Ev
def mkOf (s : List Mk) (a : Str) : Option Mk := s.find? fun m => decide (m.name = a)
def encO : Option Str → D
  | none => .none
  | some x => .str x
def okO (o : Option Str) : Prop := ∀ x, o = some x → PyData.strOk x = true
/-- values that may be looked at, less than n deep -/
def Shl : Nat → D → Prop
  | n + 1, .tuple xs => xs.length ≤ 100 ∧ ∀ x ∈ xs, Shl n x
  | _ + 1, .str x => PyData.strOk x = true
  | _ + 1, .int _ => True
  | _ + 1, .none => True
  | _, _ => False
def allV (f : Str → D → Bool) : List Str → List D → Bool
  | p :: ps, x :: xs => f p x && allV f ps xs
  | _, _ => true
def isV (s : List Mk) : Nat → Option Str → D → Bool
  | n + 1, o, .tuple (.str a :: xs) => (match mkOf s a with
    | none => false
    | some m => (o.isNone || decide (o = some m.sort)) && decide (m.places.length = xs.length) && allV (fun p x => isV s n (some p) x) m.places xs)
  | _, _, _ => false
theorem eq_str {a b : Str} (ha : PyData.strOk a = true) (hb : PyData.strOk b = true) : cmpD .eq (.str a) (.str b) = some (decide (a = b)) := by
  simp [cmpD, eqD, eqOk, PyData.eqv, SeqAt.shaped, PyData.canLay0, PyData.depth, ha, hb]
  rw [Bool.eq_iff_iff]; simp
theorem ne_str {a b : Str} (ha : PyData.strOk a = true) (hb : PyData.strOk b = true) : cmpD .ne (.str a) (.str b) = some (!decide (a = b)) := by
  simp [cmpD, eqD, eqOk, PyData.eqv, SeqAt.shaped, PyData.canLay0, PyData.depth, ha, hb]
  rw [Bool.eq_iff_iff]; simp
theorem idx_succ (x : D) (xs : List D) (k : Nat) (h : k < xs.length) : idxD (.tuple (x :: xs)) (.int ((k : Int) + 1)) = some xs[k] := by
  have := idx_tup (xs := x :: xs) (k := k + 1) (by simpa using h)
  rw [show ((k : Int) + 1) = ((k + 1 : Nat) : Int) from by push_cast; rfl, this]
  simp
abbrev itIn : Sts := (.cons (.iff (.not (.tr (.call 0 (.cons (.var 0) (.cons (.idx (.var 5) (.var 6)) (.cons (.idx (.var 2) (.bin .add (.var 6) (.con (.int 1)))) .nil)))))) (.cons (.ret (.con (.bool false))) .nil) .nil) .nil)
theorem it_in (n : Nat) (s : List Mk) (o : Option Str) (a b : Str) (P : List Str) (xs : List D) (hl : P.length = xs.length) (f : Str → D → Bool)
    (ih : ∀ p ∈ P, ∀ x ∈ xs, call tab n 0 [encS s, .str p, x] = some (.ok (.val (.bool (f p x)), []))) (X3 X4 : D) :
    ∀ (c k : Nat), k + c = P.length → ∀ v : Option D, ∃ w : Option D, flp (turn (flagsOf tab) (call tab n) (.name 6) itIn) (iotaD (k : Int) c) [some (.val (encS s)), some (.val (encO o)), some (.val (.tuple (.str a :: xs))), some (.val X3), some (.val X4), some (.val (.tuple (P.map PyData.str))), v.map Sl.val] =
      some (.ok (if allV f (P.drop k) (xs.drop k) = true then .nx [some (.val (encS s)), some (.val (encO o)), some (.val (.tuple (.str a :: xs))), some (.val X3), some (.val X4), some (.val (.tuple (P.map PyData.str))), w.map Sl.val] else .rt (.val (.bool false)) [some (.val (encS s)), some (.val (encO o)), some (.val (.tuple (.str a :: xs))), some (.val X3), some (.val X4), some (.val (.tuple (P.map PyData.str))), w.map Sl.val]))
  | 0, k, hk, v => ⟨v, by
    rw [List.drop_eq_nil_of_le (by omega), allV, if_pos rfl]; rfl
    all_goals simp⟩
  | c + 1, k, hk, v => by
    have h1 : k < P.length := by omega
    have h2 : k < xs.length := by omega
    obtain ⟨w, e⟩ := it_in n s o a b P xs hl f ih X3 X4 c (k + 1) (by omega) (some (.int k))
    have c1 := ih P[k] (List.getElem_mem h1) xs[k] (List.getElem_mem h2)
    have i1 : idxD (.tuple (P.map PyData.str)) (.int (k : Int)) = some (.str P[k]) := by
      rw [idx_tup (by rw [List.length_map]; exact h1)]; simp
    have i2 := idx_succ (.str a) xs k h2
    have f0 : flagsOf tab 0 = [false, false, false] := rfl
    rw [List.drop_eq_getElem_cons h1, List.drop_eq_getElem_cons h2]
    have hA : allV f (P[k] :: P.drop (k + 1)) (xs[k] :: xs.drop (k + 1)) = (f P[k] xs[k] && allV f (P.drop (k + 1)) (xs.drop (k + 1))) := rfl
    rw [hA]
    obtain ⟨S0, hS⟩ : ∃ S0, S0 = encS s := ⟨_, rfl⟩
    obtain ⟨O0, hO⟩ : ∃ O0, O0 = encO o := ⟨_, rfl⟩
    rw [← hS] at c1 e ⊢
    rw [← hO] at e ⊢
    obtain ⟨PL, hP⟩ : ∃ PL, PL = PyData.tuple (P.map PyData.str) := ⟨_, rfl⟩
    obtain ⟨XL, hX⟩ : ∃ XL, XL = PyData.tuple (.str a :: xs) := ⟨_, rfl⟩
    rw [← hP] at i1 e ⊢
    rw [← hX] at i2 e ⊢
    have st : turn (flagsOf tab) (call tab n) (.name 6) itIn (.int (k : Int)) [some (.val S0), some (.val O0), some (.val XL), some (.val X3), some (.val X4), some (.val PL), v.map Sl.val] =
        some (.ok (if f P[k] xs[k] = true then .nx [some (.val S0), some (.val O0), some (.val XL), some (.val X3), some (.val X4), some (.val PL), some (.val (.int (k : Int)))] else .rt (.val (.bool false)) [some (.val S0), some (.val O0), some (.val XL), some (.val X3), some (.val X4), some (.val PL), some (.val (.int (k : Int)))])) := by
      generalize hgi : idxD = gg at i1 i2
      cases hf : f P[k] xs[k] <;> rw [hf] at c1 <;> cases v <;> simp [turn, tgS, setSl, evSs, evS, evt, ev, eva, evoOf, evrOf, binD, f0, hgi, i1, i2, c1, rdo, rdAll, lentOf, ownAll, tempOk, backIn, Sl.d, rt, lift, opt, bd, truD]
    rw [iotaD]
    by_cases hf : f P[k] xs[k] = true
    · rw [if_pos hf] at st
      refine ⟨w, ?_⟩
      rw [flp_step st]
      rw [show ((k : Int) + 1) = ((k + 1 : Nat) : Int) from by push_cast; rfl]
      simp only [hf, Bool.true_and]
      exact e
    · rw [if_neg hf] at st
      refine ⟨some (.int k), ?_⟩
      rw [flp_rt st, if_neg (by simp [hf])]
      rfl
abbrev itOut : Sts := (.cons (.iff (.tr (.cmp .eq (.var 3) (.idx (.var 2) (.con (.int 0))))) (.cons (.iff (.or (.and (.tr (.isn true (.var 1))) (.tr (.cmp .ne (.var 4) (.var 1)))) (.tr (.cmp .ne (.blt .len (.cons (.var 5) .nil)) (.bin .sub (.blt .len (.cons (.var 2) .nil)) (.con (.int 1)))))) (.cons (.ret (.con (.bool false))) .nil) .nil) (.cons (.fr (.name 6) (.rng1 (.blt .len (.cons (.var 5) .nil))) itIn) (.cons (.ret (.con (.bool true))) .nil))) .nil) .nil)
def tstM (f : Str → D → Bool) (o : Option Str) (xs : List D) (m : Mk) : Bool := (o.isNone || decide (o = some m.sort)) && decide (m.places.length = xs.length) && allV f m.places xs
theorem it_turn (n : Nat) (s : List Mk) (o : Option Str) (ho : okO o) (a : Str) (ha : PyData.strOk a = true) (xs : List D) (hx : xs.length ≤ 100) (f : Str → D → Bool) (m : Mk) (hm : PyData.strOk m.name = true ∧ PyData.strOk m.sort = true)
    (ih : ∀ p ∈ m.places, ∀ x ∈ xs, call tab n 0 [encS s, .str p, x] = some (.ok (.val (.bool (f p x)), []))) (v3 v4 v5 v6 : Option D) :
    ∃ ρ2, turn (flagsOf tab) (call tab n) (.tup [3, 4, 5]) itOut (encM m) [some (.val (encS s)), some (.val (encO o)), some (.val (.tuple (.str a :: xs))), v3.map Sl.val, v4.map Sl.val, v5.map Sl.val, v6.map Sl.val] =
      some (.ok (if m.name = a then .rt (.val (.bool (tstM f o xs m))) ρ2 else .nx [some (.val (encS s)), some (.val (encO o)), some (.val (.tuple (.str a :: xs))), some (.val (.str m.name)), some (.val (.str m.sort)), some (.val (.tuple (m.places.map PyData.str))), v6.map Sl.val])) ∧ ρ2.length = 7 := by
  have tg : tgS (.tup [3, 4, 5]) (encM m) [some (.val (encS s)), some (.val (encO o)), some (.val (.tuple (.str a :: xs))), v3.map Sl.val, v4.map Sl.val, v5.map Sl.val, v6.map Sl.val] = some [some (.val (encS s)), some (.val (encO o)), some (.val (.tuple (.str a :: xs))), some (.val (.str m.name)), some (.val (.str m.sort)), some (.val (.tuple (m.places.map PyData.str))), v6.map Sl.val] := by
    cases v3 <;> cases v4 <;> cases v5 <;> rfl
  obtain ⟨E, hE⟩ : ∃ E : Ev.Env, E = [some (.val (encS s)), some (.val (encO o)), some (.val (.tuple (.str a :: xs))), some (.val (.str m.name)), some (.val (.str m.sort)), some (.val (.tuple (m.places.map PyData.str))), v6.map Sl.val] := ⟨_, rfl⟩
  rw [← hE] at tg ⊢
  have g1 : E[1]? = some (some (.val (encO o))) := by rw [hE]; rfl
  have g2 : E[2]? = some (some (.val (.tuple (.str a :: xs)))) := by rw [hE]; rfl
  have g3 : E[3]? = some (some (.val (.str m.name))) := by rw [hE]; rfl
  have g4 : E[4]? = some (some (.val (.str m.sort))) := by rw [hE]; rfl
  have g5 : E[5]? = some (some (.val (.tuple (m.places.map PyData.str)))) := by rw [hE]; rfl
  have t1 : evt (flagsOf tab) (call tab n) (.tr (.cmp .eq (.var 3) (.idx (.var 2) (.con (.int 0))))) E = some (.ok (decide (m.name = a), E)) :=
    t_cmp (o_val g3) (o_ex (v_idx (o_val g2) (r := .val (.int 0)) rfl rfl (idx_zero _ _)) rfl) rfl rfl (eq_str hm.1 ha)
  by_cases e : m.name = a
  · rw [decide_eq_true e] at t1
    simp only [if_pos e]
    have tA : evt (flagsOf tab) (call tab n) (.and (.tr (.isn true (.var 1))) (.tr (.cmp .ne (.var 4) (.var 1)))) E = some (.ok (!(o.isNone || decide (o = some m.sort)), E)) := by
      cases o with
      | none =>
        have : evt (flagsOf tab) (call tab n) (.tr (.isn true (.var 1))) E = some (.ok (false, E)) := t_isn (o_val g1) rfl
        exact t_andF this
      | some x =>
        have : evt (flagsOf tab) (call tab n) (.tr (.isn true (.var 1))) E = some (.ok (true, E)) := t_isn (o_val g1) rfl
        refine t_andT this (t_cmp (k := !(decide (some x = some m.sort))) (o_val g4) (o_val g1) rfl rfl ?_)
        show cmpD .ne (.str m.sort) (.str x) = _
        rw [ne_str hm.2 (ho x rfl)]
        simp [eq_comm]
    have tL : evt (flagsOf tab) (call tab n) (.tr (.cmp .ne (.blt .len (.cons (.var 5) .nil)) (.bin .sub (.blt .len (.cons (.var 2) .nil)) (.con (.int 1))))) E = some (.ok (!decide (m.places.length = xs.length), E)) := by
      have l5 : ev (flagsOf tab) (call tab n) (.blt .len (.cons (.var 5) .nil)) E = some (.ok (.val (.int (m.places.length : Int)), E)) := v_blt1 (o_val g5) rfl (by rw [len_tup, List.length_map])
      have l2 : ev (flagsOf tab) (call tab n) (.bin .sub (.blt .len (.cons (.var 2) .nil)) (.con (.int 1))) E = some (.ok (.val (.int (xs.length : Int)), E)) := v_bin (o_ex (v_blt1 (o_val g2) rfl (len_tup _)) rfl) (ob := .d (.int 1)) rfl rfl rfl (by
        show some (Sl.val (.int _)) = _
        simp)
      refine t_cmp (o_ex l5 rfl) (o_ex l2 rfl) rfl rfl ?_
      show cmpD .ne (.int _) (.int _) = _
      rw [ne_int]
      have : ((m.places.length : Int) = (xs.length : Int)) ↔ m.places.length = xs.length := by omega
      simp only [this]
    by_cases hA : (o.isNone || decide (o = some m.sort)) = true
    · rw [hA] at tA
      by_cases hL : m.places.length = xs.length
      · rw [decide_eq_true hL] at tL
        have t2 := t_orF tA tL
        obtain ⟨w, e2⟩ := it_in n s o a a m.places xs hL f ih (.str m.name) (.str m.sort) m.places.length 0 (by omega) v6
        have i5 : evi (flagsOf tab) (call tab n) (.rng1 (.blt .len (.cons (.var 5) .nil))) E = some (.ok (iotaD 0 m.places.length, E)) :=
          i_rng (v_blt1 (o_val g5) rfl (by rw [len_tup, List.length_map])) rfl (by omega)
        rw [← hE] at e2
        by_cases hV : allV f m.places xs = true
        · have ht : tstM f o xs m = true := by
            simp only [tstM, hA, decide_eq_true hL, hV, Bool.true_and]
          rw [ht]
          refine ⟨[some (.val (encS s)), some (.val (encO o)), some (.val (.tuple (.str a :: xs))), some (.val (.str m.name)), some (.val (.str m.sort)), some (.val (.tuple (m.places.map PyData.str))), w.map Sl.val], turn_ok tg (ss_one (s_if (k := true) t1 (ss_step (s_if (k := false) t2 rfl) (ss_step (s_for i5 (e2.trans ?_)) (ss_one rfl))))), rfl⟩
          rw [List.drop_zero, List.drop_zero, if_pos hV]
        · refine ⟨[some (.val (encS s)), some (.val (encO o)), some (.val (.tuple (.str a :: xs))), some (.val (.str m.name)), some (.val (.str m.sort)), some (.val (.tuple (m.places.map PyData.str))), w.map Sl.val], turn_ok tg (ss_one (s_if (k := true) t1 (ss_step (s_if (k := false) t2 rfl) (ss_rt (s_for i5 (e2.trans ?_)))))), rfl⟩
          rw [List.drop_zero, List.drop_zero, if_neg hV]
          simp [tstM, hV]
      · rw [decide_eq_false hL] at tL
        have t2 := t_orF tA tL
        refine ⟨E, turn_ok tg (ss_one (s_if (k := true) t1 (ss_rt (s_if (k := true) t2 ?_)))), by rw [hE]; rfl⟩
        simp [tstM, hL]
        rfl
    · have hA' : (o.isNone || decide (o = some m.sort)) = false := by rwa [Bool.not_eq_true] at hA
      rw [hA'] at tA
      have t2 := t_orT (b := (.tr (.cmp .ne (.blt .len (.cons (.var 5) .nil)) (.bin .sub (.blt .len (.cons (.var 2) .nil)) (.con (.int 1)))))) tA
      refine ⟨E, turn_ok tg (ss_one (s_if (k := true) t1 (ss_rt (s_if (k := true) t2 ?_)))), by rw [hE]; rfl⟩
      simp only [tstM, hA', Bool.false_and]
      rfl
  · rw [decide_eq_false e] at t1
    refine ⟨E, ?_, by rw [hE]; rfl⟩
    simp only [if_neg e]
    exact turn_ok tg (ss_one (s_if (k := false) t1 rfl))
theorem it_loop (n : Nat) (s : List Mk) (o : Option Str) (ho : okO o) (a : Str) (ha : PyData.strOk a = true) (xs : List D) (hx : xs.length ≤ 100) (f : Str → D → Bool) :
    ∀ (ms : List Mk), (∀ m ∈ ms, PyData.strOk m.name = true ∧ PyData.strOk m.sort = true ∧ ∀ p ∈ m.places, ∀ x ∈ xs, call tab n 0 [encS s, .str p, x] = some (.ok (.val (.bool (f p x)), []))) → ∀ (v3 v4 v5 v6 : Option D),
    ∃ ρ2, flp (turn (flagsOf tab) (call tab n) (.tup [3, 4, 5]) itOut) (ms.map encM) [some (.val (encS s)), some (.val (encO o)), some (.val (.tuple (.str a :: xs))), v3.map Sl.val, v4.map Sl.val, v5.map Sl.val, v6.map Sl.val] =
      some (.ok (match mkOf ms a with
        | none => .nx ρ2
        | some m => .rt (.val (.bool (tstM f o xs m))) ρ2)) ∧ ρ2.length = 7
  | [], _, v3, v4, v5, v6 => ⟨_, rfl, rfl⟩
  | m :: ms, h, v3, v4, v5, v6 => by
    obtain ⟨h1, h2, h3⟩ := h m List.mem_cons_self
    obtain ⟨ρ2, e, l2⟩ := it_turn n s o ho a ha xs hx f m ⟨h1, h2⟩ h3 v3 v4 v5 v6
    rw [List.map_cons]
    by_cases z : m.name = a
    · rw [if_pos z] at e
      refine ⟨ρ2, ?_, l2⟩
      rw [flp_rt e]
      have : mkOf (m :: ms) a = some m := by simp [mkOf, z]
      rw [this]
    · rw [if_neg z] at e
      obtain ⟨ρ3, e3, l3⟩ := it_loop n s o ho a ha xs hx f ms (fun q hq => h q (List.mem_cons_of_mem _ hq)) (some (.str m.name)) (some (.str m.sort)) (some (.tuple (m.places.map PyData.str))) v6
      refine ⟨ρ3, ?_, l3⟩
      rw [flp_step e]
      have : mkOf (m :: ms) a = mkOf ms a := by simp [mkOf, z]
      rw [this]
      exact e3
theorem out3 {ρ : Ev.Env} (h : 3 ≤ ρ.length) : outsOf [false, false, false] ρ = some [] := by
  match ρ, h with
  | _ :: _ :: _ :: _, _ => rfl
theorem is_tree_of_ok (s : List Mk) (g : Good s) (gs : GoodS s) : ∀ (n : Nat) (d : D), Shl n d → ∀ o, okO o → call tab n 0 [encS s, encO o, d] = some (.ok (.val (.bool (isV s n o d)), []))
  | 0, d, h, o, ho => by cases d <;> exact h.elim
  | n + 1, d, h, o, ho => by
    have nt : ∀ d : D, (isiD .tuple d = some false) → isV s (n + 1) o d = false → call tab (n + 1) 0 [encS s, encO o, d] = some (.ok (.val (.bool false), [])) := by
      intro d hd _
      rw [call_at (d := d_is_tree_of) rfl]
      have t1 : evt (flagsOf tab) (call tab n) (.not (.tr (.isi (.var 2) .tuple))) [some (.val (encS s)), some (.val (encO o)), some (.val d), none, none, none, none] = some (.ok (true, [some (.val (encS s)), some (.val (encO o)), some (.val d), none, none, none, none])) := t_not (k := false) (t_isi (o_val rfl) rfl hd)
      exact run_rt rfl (ss_rt (s_if (k := true) (t_orT t1) rfl)) rfl
    match d, h with
    | .none, h => exact nt .none rfl rfl
    | .int i, h => exact nt (.int i) rfl rfl
    | .str x, h => exact nt (.str x) rfl rfl
    | .tuple ys, h =>
      rw [call_at (d := d_is_tree_of) rfl]
      obtain ⟨E, hE⟩ : ∃ E : Ev.Env, E = [some (.val (encS s)), some (.val (encO o)), some (.val (.tuple ys)), none, none, none, none] := ⟨_, rfl⟩
      have g2 : E[2]? = some (some (.val (.tuple ys))) := by rw [hE]; rfl
      have g0 : E[0]? = some (some (.val (encS s))) := by rw [hE]; rfl
      have t1 : evt (flagsOf tab) (call tab n) (.not (.tr (.isi (.var 2) .tuple))) E = some (.ok (false, E)) := t_not (k := true) (t_isi (o_val g2) rfl rfl)
      have l2 : ev (flagsOf tab) (call tab n) (.blt .len (.cons (.var 2) .nil)) E = some (.ok (.val (.int ys.length), E)) := v_blt1 (o_val g2) rfl (len_tup _)
      have t2 : evt (flagsOf tab) (call tab n) (.tr (.cmp .eq (.blt .len (.cons (.var 2) .nil)) (.con (.int 0)))) E = some (.ok (decide ((ys.length : Int) = 0), E)) := t_cmp (o_ex l2 rfl) (ob := .d (.int 0)) rfl rfl rfl (eq_int _ _)
      match ys, h with
      | [], h =>
        refine run_rt (r := .val (.bool false)) rfl (ss_rt (s_if (ρ' := E) (k := true) ?_ rfl)) ?_
        · rw [hE] at t1 t2 ⊢
          exact t_orF t1 (t_orT t2)
        · rw [hE]; rfl
      | y :: xs, h =>
        have t2' : evt (flagsOf tab) (call tab n) (.tr (.cmp .eq (.blt .len (.cons (.var 2) .nil)) (.con (.int 0)))) E = some (.ok (false, E)) := by
          rw [t2]
          have : ¬ (((y :: xs).length : Int) = 0) := by simp; omega
          rw [decide_eq_false this]
        have j0 : ev (flagsOf tab) (call tab n) (.idx (.var 2) (.con (.int 0))) E = some (.ok (.val y, E)) := v_idx (o_val g2) (r := .val (.int 0)) rfl rfl (idx_zero _ _)
        have t3 : ∀ k, isiD .str y = some k → evt (flagsOf tab) (call tab n) (.not (.tr (.isi (.idx (.var 2) (.con (.int 0))) .str))) E = some (.ok (!k, E)) := fun k hk => t_not (k := k) (t_isi (o_ex j0 rfl) rfl hk)
        by_cases hy : ∃ a, y = .str a
        · obtain ⟨a, rfl⟩ := hy
          have t3' := t3 true rfl
          have ha : PyData.strOk a = true := by
            have := h.2 (.str a) List.mem_cons_self
            cases n with
            | zero => exact this.elim
            | succ n => exact this
          obtain ⟨ρ2, e, lr⟩ := it_loop n s o ho a ha xs (by have := h.1; simp at this; omega) (fun p x => isV s n (some p) x) s (fun m hm => ⟨(g.ok m hm).1, gs.so m hm, fun p hp x hx => is_tree_of_ok s g gs n x (h.2 x (List.mem_cons_of_mem _ hx)) (some p) (fun q hq => by cases hq; exact (gs.pl m hm).1 p hp)⟩) none none none none
          have b : isV s (n + 1) o (.tuple (.str a :: xs)) = (match mkOf s a with
            | none => false
            | some m => tstM (fun p x => isV s n (some p) x) o xs m) := rfl
          rw [b]
          have iS : evi (flagsOf tab) (call tab n) (.seq (.var 0)) E = some (.ok (s.map encM, E)) := i_seq (v_val g0) rfl
          have tt : evt (flagsOf tab) (call tab n) (.or (.not (.tr (.isi (.var 2) .tuple))) (.or (.tr (.cmp .eq (.blt .len (.cons (.var 2) .nil)) (.con (.int 0)))) (.not (.tr (.isi (.idx (.var 2) (.con (.int 0))) .str))))) E = some (.ok (false, E)) := t_orF t1 (t_orF t2' t3')
          have o3 := out3 (ρ := ρ2) (by omega)
          rw [hE] at tt iS
          cases hm : mkOf s a with
          | none =>
            rw [hm] at e
            exact run_rt (ρ' := ρ2) rfl (ss_step (s_if (k := false) tt rfl) (ss_step (s_for iS e) (ss_one rfl))) o3
          | some m =>
            rw [hm] at e
            exact run_rt (ρ' := ρ2) rfl (ss_step (s_if (k := false) tt rfl) (ss_ret (s_for iS e))) o3
        · have k0 : isiD .str y = some false := by
            have := h.2 y List.mem_cons_self
            cases y with
            | str a => exact absurd ⟨a, rfl⟩ hy
            | _ => rfl
          have t3' := t3 false k0
          have b : isV s (n + 1) o (.tuple (y :: xs)) = false := by
            cases y with
            | str a => exact absurd ⟨a, rfl⟩ hy
            | _ => rfl
          rw [b]
          refine run_rt (ρ' := E) rfl (ss_rt (s_if (k := true) ?_ rfl)) (by rw [hE]; rfl)
          have tt := t_orF t1 (t_orF t2' t3')
          rw [hE] at tt ⊢
          exact tt
    | .bool _, h => exact h.elim
    | .list _, h => exact h.elim
    | .dict _, h => exact h.elim
end EvM
end
section
set_option maxRecDepth 100000
set_option maxHeartbeats 4000000
/-! k01: is_tree, by the law. -/
namespace EvM
open PySem Ev
def sokM (o : Option Str) (m : Mk) : Bool := o.isNone || decide (o = some m.sort)
def okF (o : Option Str) (a : Str) (m : Mk) : Bool := decide (m.name = a) && sokM o m
theorem filter_nd (o : Option Str) (a : Str) : ∀ {ms : List Mk}, (ms.map (·.name)).Nodup → ms.filter (okF o a) = (match mkOf ms a with
    | none => []
    | some m => if sokM o m = true then [m] else [])
  | [], _ => rfl
  | m :: ms, h => by
    rw [List.map_cons, List.nodup_cons] at h
    by_cases z : m.name = a
    · have e : mkOf (m :: ms) a = some m := by simp [mkOf, z]
      have nil : ms.filter (okF o a) = [] := by
        rw [List.filter_eq_nil_iff]
        intro q hq
        have : q.name ≠ a := fun w => h.1 (List.mem_map.mpr ⟨q, hq, by rw [w, z]⟩)
        simp [okF, this]
      rw [e, List.filter_cons, nil]
      simp [okF, z]
    · have e : mkOf (m :: ms) a = mkOf ms a := by simp [mkOf, z]
      rw [e, List.filter_cons, ← filter_nd o a h.2]
      simp [okF, z]
abbrev fndIf : Tx := (.and (.tr (.cmp .eq (.idx (.var 4) (.con (.int 0))) (.idx (.var 2) (.con (.int 0))))) (.or (.tr (.isn false (.var 1))) (.tr (.cmp .eq (.idx (.var 4) (.con (.int 1))) (.var 1)))))
theorem fnd_in (n : Nat) (o : Option Str) (ho : okO o) (a : Str) (ha : PyData.strOk a = true) (xs : List D) : ∀ (ms : List Mk), (∀ m ∈ ms, PyData.strOk m.name = true ∧ PyData.strOk m.sort = true) → ∀ (E : Ev.Env), E[1]? = some (some (.val (encO o))) → E[2]? = some (some (.val (.tuple (.str a :: xs)))) → 4 < E.length →
    ∃ w, clp (Ev.compTurn (.name 4) [4] (evt (flagsOf tab) (call tab n) fndIf) (ev (flagsOf tab) (call tab n) (.var 4))) (ms.map encM) E = some (.ok ((ms.filter (okF o a)).map encM, E.set 4 w))
  | [], _, E, _, _, h => ⟨E[4]?.getD none, by
    rw [List.getElem?_eq_getElem h, Option.getD_some, List.set_getElem_self]; rfl⟩
  | m :: ms, hm, E, g1, g2, h => by
    obtain ⟨hm1, hm2⟩ := hm m List.mem_cons_self
    obtain ⟨E2, hE2⟩ : ∃ E2, E2 = E.set 4 (some (.val (encM m))) := ⟨_, rfl⟩
    have k4 : E2[4]? = some (some (.val (encM m))) := by rw [hE2, List.getElem?_set_self h]
    have k1 : E2[1]? = some (some (.val (encO o))) := by rw [hE2, List.getElem?_set_ne (by decide)]; exact g1
    have k2 : E2[2]? = some (some (.val (.tuple (.str a :: xs)))) := by rw [hE2, List.getElem?_set_ne (by decide)]; exact g2
    obtain ⟨w, e⟩ := fnd_in n o ho a ha xs ms (fun q hq => hm q (List.mem_cons_of_mem _ hq)) E2 k1 k2 (by rw [hE2, List.length_set]; exact h)
    rw [hE2, List.set_set] at e
    have tg : tgS (.name 4) (encM m) (wipeE E [4]) = some E2 := by rw [hE2]; exact tg_one h _
    have i0 : ev (flagsOf tab) (call tab n) (.idx (.var 4) (.con (.int 0))) E2 = some (.ok (.val (.str m.name), E2)) := v_idx (o_val k4) (r := .val (.int 0)) rfl rfl (idx_zero _ _)
    have i1 : ev (flagsOf tab) (call tab n) (.idx (.var 4) (.con (.int 1))) E2 = some (.ok (.val (.str m.sort), E2)) := v_idx (o_val k4) (r := .val (.int 1)) rfl rfl rfl
    have j0 : ev (flagsOf tab) (call tab n) (.idx (.var 2) (.con (.int 0))) E2 = some (.ok (.val (.str a), E2)) := v_idx (o_val k2) (r := .val (.int 0)) rfl rfl (idx_zero _ _)
    have t1 : evt (flagsOf tab) (call tab n) (.tr (.cmp .eq (.idx (.var 4) (.con (.int 0))) (.idx (.var 2) (.con (.int 0))))) E2 = some (.ok (decide (m.name = a), E2)) :=
      t_cmp (o_ex i0 rfl) (o_ex j0 rfl) rfl rfl (eq_str hm1 ha)
    have t2 : evt (flagsOf tab) (call tab n) (.or (.tr (.isn false (.var 1))) (.tr (.cmp .eq (.idx (.var 4) (.con (.int 1))) (.var 1)))) E2 = some (.ok (sokM o m, E2)) := by
      cases o with
      | none =>
        have : evt (flagsOf tab) (call tab n) (.tr (.isn false (.var 1))) E2 = some (.ok (true, E2)) := t_isn (o_val k1) rfl
        exact t_orT this
      | some x =>
        have : evt (flagsOf tab) (call tab n) (.tr (.isn false (.var 1))) E2 = some (.ok (false, E2)) := t_isn (o_val k1) rfl
        refine t_orF this (t_cmp (o_ex i1 rfl) (o_val k1) rfl rfl ?_)
        show cmpD .eq (.str m.sort) (.str x) = _
        rw [eq_str hm2 (ho x rfl)]
        simp [sokM, eq_comm]
    have t3 : evt (flagsOf tab) (call tab n) fndIf E2 = some (.ok (okF o a m, E2)) := by
      by_cases z : m.name = a
      · rw [decide_eq_true z] at t1
        have := t_andT t1 t2
        simpa only [okF, decide_eq_true z, Bool.true_and] using this
      · rw [decide_eq_false z] at t1
        simp only [okF, decide_eq_false z, Bool.false_and]
        exact t_andF t1
    refine ⟨w, ?_⟩
    rw [List.map_cons, List.filter_cons]
    by_cases z : okF o a m = true
    · rw [if_pos z, List.map_cons]
      rw [z] at t3
      exact l_cons (c_if tg t3 (v_val k4)) (by rw [hE2]; exact e)
    · rw [if_neg z]
      have z' : okF o a m = false := by rwa [Bool.not_eq_true] at z
      rw [z'] at t3
      exact l_skip (c_no tg t3) (by rw [hE2]; exact e)
theorem allV_zip (f : Str → D → Bool) : ∀ (ps : List Str) (xs : List D), allV f ps xs = !((List.zipWith f ps xs).any fun b => !b)
  | [], _ => by simp [allV]
  | _ :: _, [] => by simp [allV]
  | p :: ps, x :: xs => by
    simp only [allV, List.zipWith_cons_cons, List.any_cons, allV_zip f ps xs, Bool.not_or, Bool.not_not]
theorem lay_bools (bs : List Bool) : PyData.canLayAll0 (bs.map PyData.bool) = true ∧ PyData.depthAll (bs.map PyData.bool) = 0 := by
  induction bs with
  | nil => exact ⟨rfl, by simp [PyData.depthAll]⟩
  | cons b bs ih => exact ⟨by simp [PyData.canLayAll0, PyData.canLay0, ih.1], by simp [PyData.depthAll, PyData.depth, ih.2]⟩
theorem any_false : ∀ bs : List Bool, bs.any ((fun x => PyData.eqv x (.bool false)) ∘ PyData.bool) = bs.any fun b => !b
  | [] => rfl
  | b :: bs => by
    rw [List.any_cons, List.any_cons, any_false bs]
    cases b <;> rfl
theorem notin_bools (bs : List Bool) : cmpD .notin (.bool false) (.list (bs.map PyData.bool)) = some (!(bs.any fun b => !b)) := by
  have h1 : eqOk (.list (bs.map PyData.bool)) = true := by
    unfold eqOk SeqAt.shaped
    simp [PyData.canLay0, PyData.depth, (lay_bools bs).1, (lay_bools bs).2]
  have h2 : eqOk (.bool false) = true := rfl
  show (if eqOk (.bool false) && eqOk (.list (bs.map PyData.bool)) then some ((bs.map PyData.bool).any fun x => PyData.eqv x (.bool false)) else none).map (!·) = _
  rw [h1, h2, Bool.true_and, if_pos rfl, Option.map_some, List.any_map]
  rw [any_false]
abbrev ltElt : Ex := (.call 22 (.cons (.var 0) (.cons (.idx (.idx (.idx (.var 3) (.con (.int 0))) (.con (.int 2))) (.var 6)) (.cons (.idx (.var 2) (.bin .add (.var 6) (.con (.int 1)))) .nil))))
theorem lit_in (n : Nat) (s : List Mk) (O0 : Sl) (x : D) (xs : List D) (m : Mk) (hl : m.places.length = xs.length) (f : Str → D → Bool) (X4 X5 : Option Sl)
    (ih : ∀ p ∈ m.places, ∀ x ∈ xs, call tab n 22 [encS s, .str p, x] = some (.ok (.val (.bool (f p x)), []))) :
    ∀ (c k : Nat), k + c = m.places.length → ∀ v : Option Sl, ∃ w : Option Sl, clp (Ev.compTurn (.name 6) [6] (evt (flagsOf tab) (call tab n) .yes) (ev (flagsOf tab) (call tab n) ltElt)) (iotaD (k : Int) c) [some (.val (encS s)), some O0, some (.val (.tuple (x :: xs))), some (.own false (.list [encM m])), X4, X5, v] =
      some (.ok ((List.zipWith f (m.places.drop k) (xs.drop k)).map PyData.bool, [some (.val (encS s)), some O0, some (.val (.tuple (x :: xs))), some (.own false (.list [encM m])), X4, X5, w]))
  | 0, k, hk, v => ⟨v, by rw [List.drop_eq_nil_of_le (by omega)]; rfl⟩
  | c + 1, k, hk, v => by
    have h1 : k < m.places.length := by omega
    have h2 : k < xs.length := by omega
    obtain ⟨w, e⟩ := lit_in n s O0 x xs m hl f X4 X5 ih c (k + 1) (by omega) (some (.val (.int k)))
    have c1 := ih m.places[k] (List.getElem_mem h1) xs[k] (List.getElem_mem h2)
    have i1 : idxD (.tuple (m.places.map PyData.str)) (.int (k : Int)) = some (.str m.places[k]) := by
      rw [idx_tup (by rw [List.length_map]; exact h1)]; simp
    have i2 := idx_succ x xs k h2
    have f22 : flagsOf tab 22 = [false, false, false] := rfl
    refine ⟨w, ?_⟩
    rw [iotaD, List.drop_eq_getElem_cons h1, List.drop_eq_getElem_cons h2, List.zipWith_cons_cons, List.map_cons]
    rw [show ((k : Int) + 1) = ((k + 1 : Nat) : Int) from by push_cast; rfl]
    obtain ⟨E, hE⟩ : ∃ E : Ev.Env, E = [some (.val (encS s)), some O0, some (.val (.tuple (x :: xs))), some (.own false (.list [encM m])), X4, X5, some (.val (.int k))] := ⟨_, rfl⟩
    have g0 : E[0]? = some (some (.val (encS s))) := by rw [hE]; rfl
    have g2 : E[2]? = some (some (.val (.tuple (x :: xs)))) := by rw [hE]; rfl
    have g3 : E[3]? = some (some (.own false (.list [encM m]))) := by rw [hE]; rfl
    have g6 : E[6]? = some (some (.val (.int k))) := by rw [hE]; rfl
    have va : ev (flagsOf tab) (call tab n) (.idx (.var 3) (.con (.int 0))) E = some (.ok (.val (encM m), E)) := v_idx (o_own g3) (r := .val (.int 0)) rfl (rdo_s g3) rfl
    have vb : ev (flagsOf tab) (call tab n) (.idx (.idx (.var 3) (.con (.int 0))) (.con (.int 2))) E = some (.ok (.val (.tuple (m.places.map PyData.str)), E)) := v_idx (o_ex va rfl) (r := .val (.int 2)) rfl rfl rfl
    have vc : ev (flagsOf tab) (call tab n) (.idx (.idx (.idx (.var 3) (.con (.int 0))) (.con (.int 2))) (.var 6)) E = some (.ok (.val (.str m.places[k]), E)) := v_idx (o_ex vb rfl) (v_val g6) rfl i1
    have vp : ev (flagsOf tab) (call tab n) (.bin .add (.var 6) (.con (.int 1))) E = some (.ok (.val (.int ((k : Int) + 1)), E)) := v_bin (o_val g6) (ob := .d (.int 1)) rfl rfl rfl rfl
    have vd : ev (flagsOf tab) (call tab n) (.idx (.var 2) (.bin .add (.var 6) (.con (.int 1)))) E = some (.ok (.val xs[k], E)) := v_idx (o_val g2) vp rfl i2
    have ve : ev (flagsOf tab) (call tab n) ltElt E = some (.ok (.val (.bool (f m.places[k] xs[k])), E)) := v_call f22 (a_d (v_val g0) (a_d vc (a_d vd a_nil))) rfl ⟨(by simp [lentOf]), rfl, rfl⟩ c1 rfl
    refine l_cons (c_yes ?_ ve) (by rw [hE]; exact e)
    rw [hE]
    rfl
abbrev eL : Sts := (.cons (.iff (.or (.tr (.cmp .eq (.blt .len (.cons (.var 3) .nil)) (.con (.int 0)))) (.tr (.cmp .ne (.blt .len (.cons (.idx (.idx (.var 3) (.con (.int 0))) (.con (.int 2))) .nil)) (.bin .sub (.blt .len (.cons (.var 2) .nil)) (.con (.int 1)))))) (.cons (.ret (.con (.bool false))) .nil) .nil) (.cons (.asg 5 (.comp [6] ltElt (.name 6) (.rng1 (.bin .sub (.blt .len (.cons (.var 2) .nil)) (.con (.int 1)))) .yes)) (.cons (.ret (.cmp .notin (.con (.bool false)) (.var 5))) .nil)))
theorem lis_ok (s : List Mk) (g : Good s) (gs : GoodS s) : ∀ (n : Nat) (d : D), Shl n d → ∀ o, okO o → call tab n 22 [encS s, encO o, d] = some (.ok (.val (.bool (isV s n o d)), []))
  | 0, d, h, o, ho => by cases d <;> exact h.elim
  | n + 1, d, h, o, ho => by
    have nt : ∀ d : D, (isiD .tuple d = some false) → isV s (n + 1) o d = false → call tab (n + 1) 22 [encS s, encO o, d] = some (.ok (.val (.bool false), [])) := by
      intro d hd _
      rw [call_at (d := d_law_is_tree) rfl]
      have t1 : evt (flagsOf tab) (call tab n) (.not (.tr (.isi (.var 2) .tuple))) [some (.val (encS s)), some (.val (encO o)), some (.val d), none, none, none, none] = some (.ok (true, [some (.val (encS s)), some (.val (encO o)), some (.val d), none, none, none, none])) := t_not (k := false) (t_isi (o_val rfl) rfl hd)
      exact run_rt rfl (ss_rt (s_if (k := true) (t_orT t1) rfl)) rfl
    match d, h with
    | .none, h => exact nt .none rfl rfl
    | .int i, h => exact nt (.int i) rfl rfl
    | .str x, h => exact nt (.str x) rfl rfl
    | .tuple ys, h =>
      rw [call_at (d := d_law_is_tree) rfl]
      obtain ⟨E, hE⟩ : ∃ E : Ev.Env, E = [some (.val (encS s)), some (.val (encO o)), some (.val (.tuple ys)), none, none, none, none] := ⟨_, rfl⟩
      have g2 : E[2]? = some (some (.val (.tuple ys))) := by rw [hE]; rfl
      have g0 : E[0]? = some (some (.val (encS s))) := by rw [hE]; rfl
      have g1 : E[1]? = some (some (.val (encO o))) := by rw [hE]; rfl
      have gl : 4 < E.length := by rw [hE]; simp
      have t1 : evt (flagsOf tab) (call tab n) (.not (.tr (.isi (.var 2) .tuple))) E = some (.ok (false, E)) := t_not (k := true) (t_isi (o_val g2) rfl rfl)
      have l2 : ev (flagsOf tab) (call tab n) (.blt .len (.cons (.var 2) .nil)) E = some (.ok (.val (.int ys.length), E)) := v_blt1 (o_val g2) rfl (len_tup _)
      have t2 : evt (flagsOf tab) (call tab n) (.tr (.cmp .eq (.blt .len (.cons (.var 2) .nil)) (.con (.int 0)))) E = some (.ok (decide ((ys.length : Int) = 0), E)) := t_cmp (o_ex l2 rfl) (ob := .d (.int 0)) rfl rfl rfl (eq_int _ _)
      match ys, h with
      | [], h =>
        refine run_rt (r := .val (.bool false)) rfl (ss_rt (s_if (ρ' := E) (k := true) ?_ rfl)) ?_
        · rw [hE] at t1 t2 ⊢
          exact t_orF t1 (t_orT t2)
        · rw [hE]; rfl
      | y :: xs, h =>
        have t2' : evt (flagsOf tab) (call tab n) (.tr (.cmp .eq (.blt .len (.cons (.var 2) .nil)) (.con (.int 0)))) E = some (.ok (false, E)) := by
          rw [t2]
          have : ¬ (((y :: xs).length : Int) = 0) := by simp; omega
          rw [decide_eq_false this]
        have j0 : ev (flagsOf tab) (call tab n) (.idx (.var 2) (.con (.int 0))) E = some (.ok (.val y, E)) := v_idx (o_val g2) (r := .val (.int 0)) rfl rfl (idx_zero _ _)
        have t3 : ∀ k, isiD .str y = some k → evt (flagsOf tab) (call tab n) (.not (.tr (.isi (.idx (.var 2) (.con (.int 0))) .str))) E = some (.ok (!k, E)) := fun k hk => t_not (k := k) (t_isi (o_ex j0 rfl) rfl hk)
        by_cases hy : ∃ a, y = .str a
        · obtain ⟨a, rfl⟩ := hy
          have t3' := t3 true rfl
          have ha : PyData.strOk a = true := by
            have := h.2 (.str a) List.mem_cons_self
            cases n with
            | zero => exact this.elim
            | succ n => exact this
          have hxl : xs.length ≤ 100 := by have := h.1; simp at this; omega
          have b : isV s (n + 1) o (.tuple (.str a :: xs)) = (match mkOf s a with
            | none => false
            | some m => tstM (fun p x => isV s n (some p) x) o xs m) := rfl
          have tt : evt (flagsOf tab) (call tab n) (.or (.not (.tr (.isi (.var 2) .tuple))) (.or (.tr (.cmp .eq (.blt .len (.cons (.var 2) .nil)) (.con (.int 0)))) (.not (.tr (.isi (.idx (.var 2) (.con (.int 0))) .str))))) E = some (.ok (false, E)) := t_orF t1 (t_orF t2' t3')
          obtain ⟨w, e⟩ := fnd_in n o ho a ha xs s (fun m hm => ⟨(g.ok m hm).1, gs.so m hm⟩) E g1 g2 gl
          have iS : evi (flagsOf tab) (call tab n) (.seq (.var 0)) E = some (.ok (s.map encM, E)) := i_seq (v_val g0) rfl
          have ec := e_comp (own := [4]) iS e
          rw [back_one gl, filter_nd o a g.nd] at ec
          have s2 : ∀ L, ev (flagsOf tab) (call tab n) (.comp [4] (.var 4) (.name 4) (.seq (.var 0)) fndIf) E = some (.ok (.own false (.list L), E)) → evS (flagsOf tab) (call tab n) (.asg 3 (.comp [4] (.var 4) (.name 4) (.seq (.var 0)) fndIf)) E = some (.ok (.nx [some (.val (encS s)), some (.val (encO o)), some (.val (.tuple (.str a :: xs))), some (.own false (.list L)), none, none, none])) := fun L hL => s_asg hL (by rw [hE]; rfl)
          -- what is left
          have fin : ∀ L k ρ2, ev (flagsOf tab) (call tab n) (.comp [4] (.var 4) (.name 4) (.seq (.var 0)) fndIf) E = some (.ok (.own false (.list L), E)) → evSs (flagsOf tab) (call tab n) eL [some (.val (encS s)), some (.val (encO o)), some (.val (.tuple (.str a :: xs))), some (.own false (.list L)), none, none, none] = some (.ok (.rt (.val (.bool k)) ρ2)) → 3 ≤ ρ2.length → runDef (flagsOf tab) (call tab n) d_law_is_tree [encS s, encO o, .tuple (.str a :: xs)] = some (.ok (.val (.bool k), [])) := by
            intro L k ρ2 h1 h2 h3
            have tt' := tt
            have s2' := s2 L h1
            rw [hE] at tt' s2'
            exact run_rt (ρ' := ρ2) rfl (ss_step (s_if (k := false) tt' rfl) (ss_step s2' h2)) (out3 h3)
          have none_ok : ev (flagsOf tab) (call tab n) (.comp [4] (.var 4) (.name 4) (.seq (.var 0)) fndIf) E = some (.ok (.own false (.list []), E)) → runDef (flagsOf tab) (call tab n) d_law_is_tree [encS s, encO o, .tuple (.str a :: xs)] = some (.ok (.val (.bool false), [])) := fun h1 => by
            obtain ⟨E2, hE2⟩ : ∃ E2 : Ev.Env, E2 = [some (.val (encS s)), some (.val (encO o)), some (.val (.tuple (.str a :: xs))), some (.own false (.list [])), none, none, none] := ⟨_, rfl⟩
            refine fin [] false E2 h1 (ss_rt (s_if (ρ' := E2) (k := true) (t_orT ?_) rfl)) (by rw [hE2]; simp)
            rw [hE2]
            exact t_cmp (o_ex (v_blt1 (o_own rfl) (rdo_s rfl) (len_lst [])) rfl) (ob := .d (.int 0)) rfl rfl rfl (eq_int 0 0)
          rw [b]
          cases hm : mkOf s a with
          | none =>
            rw [hm] at ec
            exact none_ok ec
          | some m =>
            rw [hm] at ec
            have hmem : m ∈ s := List.mem_of_find?_eq_some hm
            show runDef _ _ _ _ = some (.ok (.val (.bool ((sokM o m) && decide (m.places.length = xs.length) && allV (fun p x => isV s n (some p) x) m.places xs)), []))
            by_cases hs : sokM o m = true
            · simp only [if_pos hs] at ec
              obtain ⟨E2, hE2⟩ : ∃ E2 : Ev.Env, E2 = [some (.val (encS s)), some (.val (encO o)), some (.val (.tuple (.str a :: xs))), some (.own false (.list [encM m])), none, none, none] := ⟨_, rfl⟩
              have q2 : E2[2]? = some (some (.val (.tuple (.str a :: xs)))) := by rw [hE2]; rfl
              have q3 : E2[3]? = some (some (.own false (.list [encM m]))) := by rw [hE2]; rfl
              have u1 : evt (flagsOf tab) (call tab n) (.tr (.cmp .eq (.blt .len (.cons (.var 3) .nil)) (.con (.int 0)))) E2 = some (.ok (false, E2)) :=
                t_cmp (o_ex (v_blt1 (o_own q3) (rdo_s q3) (len_lst [encM m])) rfl) (ob := .d (.int 0)) rfl rfl rfl (eq_int 1 0)
              have va : ev (flagsOf tab) (call tab n) (.idx (.var 3) (.con (.int 0))) E2 = some (.ok (.val (encM m), E2)) := v_idx (o_own q3) (r := .val (.int 0)) rfl (rdo_s q3) rfl
              have vb : ev (flagsOf tab) (call tab n) (.idx (.idx (.var 3) (.con (.int 0))) (.con (.int 2))) E2 = some (.ok (.val (.tuple (m.places.map PyData.str)), E2)) := v_idx (o_ex va rfl) (r := .val (.int 2)) rfl rfl rfl
              have l5 : ev (flagsOf tab) (call tab n) (.blt .len (.cons (.idx (.idx (.var 3) (.con (.int 0))) (.con (.int 2))) .nil)) E2 = some (.ok (.val (.int (m.places.length : Int)), E2)) := v_blt1 (o_ex vb rfl) rfl (by
                show bltD .len [.tuple (m.places.map PyData.str)] = _
                rw [len_tup, List.length_map])
              have l6 : ev (flagsOf tab) (call tab n) (.bin .sub (.blt .len (.cons (.var 2) .nil)) (.con (.int 1))) E2 = some (.ok (.val (.int (xs.length : Int)), E2)) := v_bin (o_ex (v_blt1 (o_val q2) rfl (len_tup _)) rfl) (ob := .d (.int 1)) rfl rfl rfl (by
                show some (Sl.val (.int _)) = _
                simp)
              have u2 : evt (flagsOf tab) (call tab n) (.tr (.cmp .ne (.blt .len (.cons (.idx (.idx (.var 3) (.con (.int 0))) (.con (.int 2))) .nil)) (.bin .sub (.blt .len (.cons (.var 2) .nil)) (.con (.int 1))))) E2 = some (.ok (!decide (m.places.length = xs.length), E2)) := by
                refine t_cmp (o_ex l5 rfl) (o_ex l6 rfl) rfl rfl ?_
                show cmpD .ne (.int _) (.int _) = _
                rw [ne_int]
                have : ((m.places.length : Int) = (xs.length : Int)) ↔ m.places.length = xs.length := by omega
                simp only [this]
              have u3 := t_orF u1 u2
              by_cases hL : m.places.length = xs.length
              · obtain ⟨w2, e2⟩ := lit_in n s (.val (encO o)) (.str a) xs m hL (fun p x => isV s n (some p) x) none none (fun p hp x hx => lis_ok s g gs n x (h.2 x (List.mem_cons_of_mem _ hx)) (some p) (fun q hq => by cases hq; exact (gs.pl m hmem).1 p hp)) m.places.length 0 (by omega) none
                rw [decide_eq_true hL] at u3
                have i6 : evi (flagsOf tab) (call tab n) (.rng1 (.bin .sub (.blt .len (.cons (.var 2) .nil)) (.con (.int 1)))) E2 = some (.ok (iotaD 0 m.places.length, E2)) := i_rng l6 (by rw [hL]; rfl) (by omega)
                rw [hE2] at i6
                have ec2 := e_comp (own := [6]) i6 e2
                rw [List.drop_zero, List.drop_zero] at ec2
                have nb := notin_bools (List.zipWith (fun p x => isV s n (some p) x) m.places xs)
                rw [← allV_zip] at nb
                simp only [hs, decide_eq_true hL, Bool.true_and]
                rw [hE2] at u3
                refine fin [encM m] _ [some (.val (encS s)), some (.val (encO o)), some (.val (.tuple (.str a :: xs))), some (.own false (.list [encM m])), none, some (.own false (.list ((List.zipWith (fun p x => isV s n (some p) x) m.places xs).map PyData.bool))), none] ec (ss_step (s_if (k := false) u3 rfl) (ss_step (s_asg ec2 rfl) (ss_one (s_ret (v_cmp (oa := .d (.bool false)) rfl (o_own rfl) rfl (rdo_s rfl) nb) rfl)))) (by simp)
              · rw [decide_eq_false hL] at u3
                simp only [decide_eq_false hL, Bool.and_false, Bool.false_and]
                rw [hE2] at u3
                exact fin [encM m] false _ ec (ss_rt (s_if (k := true) u3 rfl)) (by simp)
            · have hs' : sokM o m = false := by rwa [Bool.not_eq_true] at hs
              simp only [if_neg hs] at ec
              simp only [hs', Bool.false_and]
              exact none_ok ec
        · have k0 : isiD .str y = some false := by
            have := h.2 y List.mem_cons_self
            cases y with
            | str a => exact absurd ⟨a, rfl⟩ hy
            | _ => rfl
          have t3' := t3 false k0
          have b : isV s (n + 1) o (.tuple (y :: xs)) = false := by
            cases y with
            | str a => exact absurd ⟨a, rfl⟩ hy
            | _ => rfl
          rw [b]
          refine run_rt (ρ' := E) rfl (ss_rt (s_if (k := true) ?_ rfl)) (by rw [hE]; rfl)
          have tt := t_orF t1 (t_orF t2' t3')
          rw [hE] at tt ⊢
          exact tt
    | .bool _, h => exact h.elim
    | .list _, h => exact h.elim
    | .dict _, h => exact h.elim
end EvM
end
section
set_option maxHeartbeats 200000
set_option maxRecDepth 100000
/-! The greatest of ints. -/
namespace Ev
open PySem
theorem sortOk_ints (ns : List Int) (h : ns.length ≤ sizeLine) : sortOk (ns.map PyData.int) = true := by
  have a1 : ∀ x ∈ ns.map PyData.int, (decide (x.depth ≤ 8) && x.canLay0 && (ns.map PyData.int).all fun y => PySem.W.alike x y) = true := by
    intro x hx
    obtain ⟨i, _, rfl⟩ := List.mem_map.mp hx
    have : ((ns.map PyData.int).all fun y => PySem.W.alike (PyData.int i) y) = true := by
      rw [List.all_eq_true]
      intro y hy
      obtain ⟨j, _, rfl⟩ := List.mem_map.mp hy
      rfl
    rw [this]; rfl
  unfold sortOk
  rw [List.all_eq_true.mpr a1, Bool.and_eq_true, Bool.or_eq_true]
  refine ⟨by simp [h], .inr (List.all_eq_true.mpr fun y hy => ?_)⟩
  obtain ⟨j, _, rfl⟩ := List.mem_map.mp hy
  rfl
def maxN (y : Int) (ys : List Int) : Int := ys.foldl (fun a b => if a < b then b else a) y
theorem maxD_ints : ∀ (ys : List Int) (y : Int), PySem.W.maxD (.int y) (ys.map PyData.int) = .int (maxN y ys)
  | [], y => rfl
  | z :: ys, y => by
    have e : PySem.W.maxD (.int y) ((z :: ys).map PyData.int) = PySem.W.maxD (.int (if y < z then z else y)) (ys.map PyData.int) := by
      have d : PySem.W.dataLt (.int y) (.int z) = decide (y < z) := PySem.W.dataLt_int y z
      show List.foldl _ _ _ = List.foldl _ _ _
      rw [List.map_cons, List.foldl_cons, d]
      by_cases h : y < z
      · rw [if_pos (by simpa using h), if_pos h]
      · rw [if_neg (by simpa using h), if_neg h]
    rw [e, maxD_ints ys _]
    rfl
theorem mxd_ints (ns : List Int) (h : ns.length ≤ sizeLine) : mxdD false 0 (.list (ns.map PyData.int)) = some (.val (.int (match ns with
    | [] => 0
    | y :: ys => maxN y ys))) := by
  cases ns with
  | nil => rfl
  | cons y ys =>
    show leastD false ((y :: ys).map PyData.int) = _
    unfold leastD
    rw [if_pos (sortOk_ints _ h)]
    show some (Sl.val (PySem.W.maxD (.int y) (ys.map PyData.int))) = _
    rw [maxD_ints]
end Ev
end
section
set_option maxRecDepth 100000
set_option maxHeartbeats 4000000
/-! k01: sizes, depths, sorts. -/
namespace EvM
open PySem Ev
abbrev echC (K : Nat) : Ex := (.comp [1] (.call K (.cons (.var 1) .nil)) (.name 1) (.seq (.sl (.var 0) (.som (.con (.int 1))) .non)) .yes)
theorem each_in (K n : Nat) (fK : flagsOf tab K = [false]) (F : Tr → Int) (T0 : D) : ∀ (ps : List Tr), (∀ t ∈ ps, call tab n K [encT t] = some (.ok (.val (.int (F t)), []))) → ∀ (v : Option Sl), ∃ w : Option Sl, clp (Ev.compTurn (.name 1) [1] (evt (flagsOf tab) (call tab n) .yes) (ev (flagsOf tab) (call tab n) (.call K (.cons (.var 1) .nil)))) (encTs ps) [some (.val T0), v] = some (.ok ((ps.map F).map PyData.int, [some (.val T0), w]))
  | [], _, v => ⟨v, rfl⟩
  | t :: ps, h, v => by
    have e1 := h t List.mem_cons_self
    obtain ⟨w, e⟩ := each_in K n fK F T0 ps (fun u hu => h u (List.mem_cons_of_mem _ hu)) (some (.val (encT t)))
    refine ⟨w, ?_⟩
    have ve : ev (flagsOf tab) (call tab n) (.call K (.cons (.var 1) .nil)) [some (.val T0), some (.val (encT t))] = some (.ok (.val (.int (F t)), [some (.val T0), some (.val (encT t))])) := v_call fK (a_d (v_val rfl) a_nil) rfl ⟨(by simp [lentOf]), rfl, rfl⟩ e1 rfl
    exact l_cons (c_yes rfl ve) e
theorem each_ok (K n : Nat) (fK : flagsOf tab K = [false]) (F : Tr → Int) (a : Str) (ps : List Tr) (h : ∀ t ∈ ps, call tab n K [encT t] = some (.ok (.val (.int (F t)), []))) : ev (flagsOf tab) (call tab n) (echC K) [some (.val (encT (.node a ps))), none] = some (.ok (.own false (.list ((ps.map F).map PyData.int)), [some (.val (encT (.node a ps))), none])) := by
  have e0 : encT (.node a ps) = .tuple (.str a :: encTs ps) := by simp only [encT]
  obtain ⟨w, e⟩ := each_in K n fK F (encT (.node a ps)) ps h none
  have hsl : slD (encT (.node a ps)) (some 1) none = some (.val (.tuple (encTs ps))) := by
    rw [e0]
    show some (Sl.val (.tuple (cutD (.str a :: encTs ps) (some 1) none))) = _
    rw [cut_tail]
  exact e_comp (own := [1]) (i_seq (v_sl (o_val rfl) (x_som (r := .val (.int 1)) rfl rfl) x_non rfl hsl) rfl) e
/-- what is told of each part, from below -/
theorem from_below {P : Nat → Tr → Prop} (h : ∀ n a ps, (∀ t ∈ ps, P n t) → P (n + 1) (.node a ps)) (h0 : ∀ n a, P (n + 1) (.node a [])) : ∀ (n : Nat) (t : Tr), ht t ≤ n → P (n + 1) t
  | 0, .node a ps, hh => by
    have e : ps = [] := by
      cases ps with
      | nil => rfl
      | cons t ts => simp only [ht, hts] at hh; omega
    subst e
    exact h0 0 a
  | n + 1, .node a ps, hh => by
    refine h (n + 1) a ps fun t hm => ?_
    obtain ⟨k, hk, e⟩ := List.getElem_of_mem hm
    have hg : ps[k]? = some t := by rw [List.getElem?_eq_getElem hk, e]
    have h1 := hts_at hg
    simp only [ht] at hh
    exact from_below h h0 n t (by omega)
theorem size3_ok : ∀ (n : Nat) (t : Tr), ht t ≤ n → call tab (n + 1) 3 [encT t] = some (.ok (.val (.int ((pre t).length : Int)), [])) := by
  have st : ∀ n a ps, (∀ t ∈ ps, call tab n 3 [encT t] = some (.ok (.val (.int ((pre t).length : Int)), []))) → call tab (n + 1) 3 [encT (.node a ps)] = some (.ok (.val (.int ((pre (.node a ps)).length : Int)), [])) := by
    intro n a ps ih
    have hc := each_ok 3 n rfl (fun t => ((pre t).length : Int)) a ps ih
    have hs : sumD (.list ((ps.map fun t => ((pre t).length : Int)).map PyData.int)) = some (.val (.int ((pres ps).length : Int))) := by
      show (intsD _).map _ = _
      rw [intsD_map, Option.map_some, sum_pres]
    rw [call_at (d := d_size) rfl]
    refine run_rt (ρ' := [some (.val (encT (.node a ps))), none]) rfl (ss_one (s_ret (v_bin (o := .add) (a := .con (.int 1)) (oa := .d (.int 1)) (x := .int 1) (y := .int ((pres ps).length : Int)) rfl (o_ex (v_blt1 (o_ex hc rfl) rfl hs) rfl) rfl rfl (by simp [binD, pre]; omega)) rfl)) rfl
  exact from_below (P := fun n t => call tab n 3 [encT t] = some (.ok (.val (.int ((pre t).length : Int)), []))) st fun n a => st n a [] fun t h => by cases h
theorem maxN_hts : ∀ (ps : List Tr) (y : Nat), maxN (y : Int) (ps.map fun t => ((ht t + 1 : Nat) : Int)) = ((max y (hts ps) : Nat) : Int)
  | [], y => by simp [hts, maxN]
  | t :: ps, y => by
    have e : maxN (y : Int) ((t :: ps).map fun t => ((ht t + 1 : Nat) : Int)) = maxN (if (y : Int) < ((ht t + 1 : Nat) : Int) then ((ht t + 1 : Nat) : Int) else (y : Int)) (ps.map fun t => ((ht t + 1 : Nat) : Int)) := rfl
    rw [e]
    by_cases h : (y : Int) < ((ht t + 1 : Nat) : Int)
    · rw [if_pos h, maxN_hts ps (ht t + 1)]
      simp only [hts]
      congr 1
      omega
    · rw [if_neg h, maxN_hts ps y]
      simp only [hts]
      congr 1
      omega
theorem len_pres' (ps : List Tr) (h : (pres ps).length ≤ 1000) : ps.length ≤ sizeLine := by
  have := len_pres ps
  rw [sizeLine_eq]; omega
theorem depth_ok : ∀ (n : Nat) (t : Tr), ht t ≤ n → (pre t).length ≤ 1000 → call tab (n + 1) 4 [encT t] = some (.ok (.val (.int ((ht t + 1 : Nat) : Int)), [])) := by
  have st : ∀ n a ps, (∀ t ∈ ps, (pre t).length ≤ 1000 → call tab n 4 [encT t] = some (.ok (.val (.int ((ht t + 1 : Nat) : Int)), []))) → (pre (.node a ps)).length ≤ 1000 → call tab (n + 1) 4 [encT (.node a ps)] = some (.ok (.val (.int ((ht (.node a ps) + 1 : Nat) : Int)), [])) := by
    intro n a ps ih hl
    simp only [pre, List.length_cons] at hl
    have hc := each_ok 4 n rfl (fun t => ((ht t + 1 : Nat) : Int)) a ps (fun t hm => by
      obtain ⟨k, hk, e⟩ := List.getElem_of_mem hm
      have := pre_len (by rw [List.getElem?_eq_getElem hk, e])
      exact ih t hm (by omega))
    have hs : mxdD false 0 (.list ((ps.map fun t => ((ht t + 1 : Nat) : Int)).map PyData.int)) = some (.val (.int ((hts ps : Nat) : Int))) := by
      rw [mxd_ints _ (by rw [List.length_map]; exact len_pres' ps (by omega))]
      cases ps with
      | nil => rfl
      | cons t ps =>
        show some (Sl.val (.int (maxN _ _))) = _
        rw [maxN_hts]
        rfl
    rw [call_at (d := d_depth) rfl]
    refine run_rt (ρ' := [some (.val (encT (.node a ps))), none]) rfl (ss_one (s_ret (v_bin (o := .add) (a := .con (.int 1)) (oa := .d (.int 1)) (x := .int 1) (y := .int ((hts ps : Nat) : Int)) rfl (o_ex (v_mxd (o_ex hc rfl) rfl hs) rfl) rfl rfl (by simp [binD, ht]; omega)) rfl)) rfl
  exact from_below (P := fun n t => (pre t).length ≤ 1000 → call tab n 4 [encT t] = some (.ok (.val (.int ((ht t + 1 : Nat) : Int)), []))) st fun n a => st n a [] fun t h => by cases h
theorem foldMax : ∀ (ps : List Tr) (y : Nat), ((ps.map fun t => ((ht t + 1 : Nat) : Int)) ++ [(0 : Int)]).foldl max (y : Int) = ((max y (hts ps) : Nat) : Int)
  | [], y => by simp [hts]
  | t :: ps, y => by
    rw [List.map_cons, List.cons_append, List.foldl_cons]
    have : max (y : Int) ((ht t + 1 : Nat) : Int) = ((max y (ht t + 1) : Nat) : Int) := by omega
    rw [this, foldMax ps]
    simp only [hts]
    congr 1
    omega
theorem ldepth_ok : ∀ (n : Nat) (t : Tr), ht t ≤ n → (pre t).length ≤ 1000 → call tab (n + 1) 23 [encT t] = some (.ok (.val (.int ((ht t + 1 : Nat) : Int)), [])) := by
  have st : ∀ n a ps, (∀ t ∈ ps, (pre t).length ≤ 1000 → call tab n 23 [encT t] = some (.ok (.val (.int ((ht t + 1 : Nat) : Int)), []))) → (pre (.node a ps)).length ≤ 1000 → call tab (n + 1) 23 [encT (.node a ps)] = some (.ok (.val (.int ((ht (.node a ps) + 1 : Nat) : Int)), [])) := by
    intro n a ps ih hl
    simp only [pre, List.length_cons] at hl
    have hp := len_pres ps
    have hc := each_ok 23 n rfl (fun t => ((ht t + 1 : Nat) : Int)) a ps (fun t hm => by
      obtain ⟨k, hk, e⟩ := List.getElem_of_mem hm
      have := pre_len (by rw [List.getElem?_eq_getElem hk, e])
      exact ih t hm (by omega))
    have hb : ev (flagsOf tab) (call tab n) (.bin .add (echC 23) (.lst (.cons (.con (.int 0)) .nil))) [some (.val (encT (.node a ps))), none] = some (.ok (.own false (.list (((ps.map fun t => ((ht t + 1 : Nat) : Int)) ++ [(0 : Int)]).map PyData.int)), [some (.val (encT (.node a ps))), none])) :=
      v_bin (o := .add) (o_ex hc rfl) (ob := .d (.list [.int 0])) rfl rfl rfl (by
        show (if _ then _ else _) = _
        rw [if_pos (by simp; rw [sizeLine_eq]; omega)]
        simp)
    have hs : bltD .max [.list (((ps.map fun t => ((ht t + 1 : Nat) : Int)) ++ [(0 : Int)]).map PyData.int)] = some (.val (.int ((hts ps : Nat) : Int))) := by
      have e1 : ∀ x, bltD .max [x] = Ev.maxL x := fun x => rfl
      rw [e1]
      unfold Ev.maxL
      simp only [intsD_map]
      show (lastMax _).map _ = _
      cases ps with
      | nil => rfl
      | cons t ps =>
        rw [List.map_cons, List.cons_append]
        show some (Sl.val (.int (List.foldl max _ _))) = _
        rw [foldMax]
        rfl
    rw [call_at (d := d_law_depth) rfl]
    refine run_rt (ρ' := [some (.val (encT (.node a ps))), none]) rfl (ss_one (s_ret (v_bin (o := .add) (a := .con (.int 1)) (oa := .d (.int 1)) (x := .int 1) (y := .int ((hts ps : Nat) : Int)) rfl (o_ex (v_blt1 (o_ex hb rfl) rfl hs) rfl) rfl rfl (by simp [binD, ht]; omega)) rfl)) rfl
  exact from_below (P := fun n t => (pre t).length ≤ 1000 → call tab n 23 [encT t] = some (.ok (.val (.int ((ht t + 1 : Nat) : Int)), []))) st fun n a => st n a [] fun t h => by cases h
/-- the sort of a maker by name -/
def srtOf (s : List Mk) (a : Str) : Str := match mkOf s a with
  | none => Str.empty
  | some m => m.sort
theorem mkOf_num : ∀ (s : List Mk) (a : Str), mkOf s a = s[numOf s a]?
  | [], a => rfl
  | m :: s, a => by
    unfold numOf
    by_cases z : m.name = a
    · rw [if_pos z]; simp [mkOf, z]
    · rw [if_neg z, List.getElem?_cons_succ, ← mkOf_num s a]; simp [mkOf, z]
theorem mkOf_some {s : List Mk} {a : Str} (h : a ∈ s.map (·.name)) : ∃ m, mkOf s a = some m ∧ m ∈ s ∧ m.name = a := by
  obtain ⟨m, h1, h2⟩ := numOf_at h
  exact ⟨m, by rw [mkOf_num]; exact h1, List.mem_of_getElem? h1, h2⟩
theorem sort_loop (n : Nat) (S0 : D) (a : Str) (ha : PyData.strOk a = true) (xs : List D) : ∀ (ms : List Mk), (∀ m ∈ ms, PyData.strOk m.name = true) → ∀ (v2 v3 v4 : Option D) (m : Mk), mkOf ms a = some m →
    ∃ w2 w3 w4 : Option D, flp (turn (flagsOf tab) (call tab n) (.tup [2, 3, 4]) (.cons (.iff (.tr (.cmp .eq (.var 2) (.idx (.var 1) (.con (.int 0))))) (.cons (.ret (.var 3)) .nil) .nil) .nil)) (ms.map encM) [some (.val S0), some (.val (.tuple (.str a :: xs))), v2.map Sl.val, v3.map Sl.val, v4.map Sl.val] =
      some (.ok (.rt (.val (.str m.sort)) [some (.val S0), some (.val (.tuple (.str a :: xs))), w2.map Sl.val, w3.map Sl.val, w4.map Sl.val]))
  | [], _, _, _, _, m, h => by cases h
  | m0 :: ms, hm, v2, v3, v4, m, h => by
    have tg : tgS (.tup [2, 3, 4]) (encM m0) [some (.val S0), some (.val (.tuple (.str a :: xs))), v2.map Sl.val, v3.map Sl.val, v4.map Sl.val] = some [some (.val S0), some (.val (.tuple (.str a :: xs))), some (.val (.str m0.name)), some (.val (.str m0.sort)), some (.val (.tuple (m0.places.map PyData.str)))] := by
      cases v2 <;> cases v3 <;> cases v4 <;> rfl
    have t : evt (flagsOf tab) (call tab n) (.tr (.cmp .eq (.var 2) (.idx (.var 1) (.con (.int 0))))) [some (.val S0), some (.val (.tuple (.str a :: xs))), some (.val (.str m0.name)), some (.val (.str m0.sort)), some (.val (.tuple (m0.places.map PyData.str)))] = some (.ok (decide (m0.name = a), _)) :=
      t_cmp (o_val rfl) (o_ex (v_idx (o_val rfl) (r := .val (.int 0)) rfl rfl (idx_zero _ _)) rfl) rfl rfl (eq_str (hm m0 List.mem_cons_self) ha)
    rw [List.map_cons]
    by_cases z : m0.name = a
    · rw [decide_eq_true z] at t
      have e : mkOf (m0 :: ms) a = some m0 := by simp [mkOf, z]
      rw [e] at h
      cases h
      exact ⟨some (.str m0.name), some (.str m0.sort), some (.tuple (m0.places.map PyData.str)), flp_rt (turn_ok tg (ss_one (s_if (k := true) t (ss_one (s_ret (v_val rfl) rfl)))))⟩
    · rw [decide_eq_false z] at t
      have e : mkOf (m0 :: ms) a = mkOf ms a := by simp [mkOf, z]
      rw [e] at h
      obtain ⟨w2, w3, w4, e2⟩ := sort_loop n S0 a ha xs ms (fun q hq => hm q (List.mem_cons_of_mem _ hq)) (some (.str m0.name)) (some (.str m0.sort)) (some (.tuple (m0.places.map PyData.str))) m h
      refine ⟨w2, w3, w4, ?_⟩
      rw [flp_step (turn_ok tg (ss_one (s_if (k := false) t rfl)))]
      exact e2
theorem sort_ok (n : Nat) (s : List Mk) (g : Good s) (a : Str) (h : a ∈ s.map (·.name)) (xs : List D) : call tab (n + 1) 2 [encS s, .tuple (.str a :: xs)] = some (.ok (.val (.str (srtOf s a)), [])) := by
  obtain ⟨m, h1, _, _⟩ := mkOf_some h
  obtain ⟨w2, w3, w4, e⟩ := sort_loop n (encS s) a (g.name h).2 xs s (fun m hm => (g.ok m hm).1) none none none m h1
  rw [call_at (d := d_sort_of) rfl]
  have hs : srtOf s a = m.sort := by simp [srtOf, h1]
  rw [hs]
  exact run_rt rfl (ss_ret (s_for (i_seq (v_val rfl) rfl) e)) rfl
theorem lsort_ok (n : Nat) (s : List Mk) (g : Good s) (a : Str) (h : a ∈ s.map (·.name)) (xs : List D) : call tab (n + 2) 17 [encS s, .tuple (.str a :: xs)] = some (.ok (.val (.str (srtOf s a)), [])) := by
  obtain ⟨m, h1, _, _⟩ := mkOf_some h
  have hs : srtOf s a = m.sort := by simp [srtOf, h1]
  have e := lmaker_ok n s a h (fun m hm => (g.ok m hm).1) (g.name h).2 (by have := g.len; omega)
  rw [mkOf_num] at h1
  rw [call_at (d := d_law_sort) rfl, hs]
  have v1 : ev (flagsOf tab) (call tab (n + 1)) (.call 16 (.cons (.var 0) (.cons (.idx (.var 1) (.con (.int 0))) .nil))) [some (.val (encS s)), some (.val (.tuple (.str a :: xs)))] = some (.ok (.val (.int (numOf s a)), _)) :=
    v_call (bs := [false, false]) rfl (a_d (v_val rfl) (a_d (v_idx (o_val rfl) (r := .val (.int 0)) rfl rfl (idx_zero _ _)) a_nil)) rfl ⟨(by simp [lentOf]), rfl, rfl⟩ e rfl
  exact run_rt rfl (ss_one (s_ret (v_idx (o_ex (v_idx (o_val rfl) v1 rfl (idx_stock h1)) rfl) (r := .val (.int 1)) rfl rfl rfl) rfl)) rfl
end EvM
end
section
set_option maxRecDepth 100000
set_option maxHeartbeats 4000000
/-! k01: knots, paths. -/
namespace EvM
open PySem Ev
mutual
def kn : Tr → List (List Int × Tr)
  | .node a ps => ([], .node a ps) :: kns 1 ps
def kns : Nat → List Tr → List (List Int × Tr)
  | _, [] => []
  | j, t :: ts => (kn t).map (fun q => ((j : Int) :: q.1, q.2)) ++ kns (j + 1) ts
end
def encP (p : List Int) : D := .tuple (p.map PyData.int)
def encK (q : List Int × Tr) : D := .tuple [encP q.1, encT q.2]
mutual
theorem kn_len : ∀ t : Tr, (kn t).length = (pre t).length
  | .node a ps => by
    simp only [kn, pre, List.length_cons, kns_len 1 ps]
theorem kns_len : ∀ (j : Nat) (ts : List Tr), (kns j ts).length = (pres ts).length
  | _, [] => rfl
  | j, t :: ts => by
    simp only [kns, pres, List.length_append, List.length_map, kn_len t, kns_len (j + 1) ts]
end
mutual
theorem kn_path : ∀ (t : Tr), ∀ q ∈ kn t, q.1.length ≤ ht t
  | .node a ps, q, h => by
    simp only [kn] at h
    rcases List.mem_cons.mp h with rfl | h
    · exact Nat.zero_le _
    · simp only [ht]; exact kns_path 1 ps q h
theorem kns_path : ∀ (j : Nat) (ts : List Tr), ∀ q ∈ kns j ts, q.1.length ≤ hts ts
  | _, [], q, h => by cases h
  | j, t :: ts, q, h => by
    simp only [kns] at h
    simp only [hts]
    rcases List.mem_append.mp h with h | h
    · obtain ⟨r, hr, rfl⟩ := List.mem_map.mp h
      have := kn_path t r hr
      simp only [List.length_cons]; omega
    · have := kns_path (j + 1) ts q h
      omega
end
abbrev lkElt : Ex := (.tup (.cons (.bin .add (.tup (.cons (.var 2) .nil)) (.var 3)) (.cons (.var 4) .nil)))
theorem lkn_in (n : Nat) (T0 F0 : D) (p : Int) : ∀ (L : List (List Int × Tr)), (∀ q ∈ L, q.1.length ≤ 100) → ∀ (v3 v4 : Option Sl), ∃ w3 w4, clp (Ev.compTurn (.tup [3, 4]) [3, 4] (evt (flagsOf tab) (call tab n) .yes) (ev (flagsOf tab) (call tab n) lkElt)) (L.map encK) [some (.val T0), some (.own false F0), some (.val (.int p)), v3, v4] = some (.ok ((L.map fun q => (p :: q.1, q.2)).map encK, [some (.val T0), some (.own false F0), some (.val (.int p)), w3, w4]))
  | [], _, v3, v4 => ⟨v3, v4, rfl⟩
  | q :: L, h, v3, v4 => by
    obtain ⟨w3, w4, e⟩ := lkn_in n T0 F0 p L (fun r hr => h r (List.mem_cons_of_mem _ hr)) (some (.val (encP q.1))) (some (.val (encT q.2)))
    have hq := h q List.mem_cons_self
    refine ⟨w3, w4, ?_⟩
    rw [List.map_cons]
    obtain ⟨E, hE⟩ : ∃ E : Ev.Env, E = [some (.val T0), some (.own false F0), some (.val (.int p)), some (.val (encP q.1)), some (.val (encT q.2))] := ⟨_, rfl⟩
    have g2 : E[2]? = some (some (.val (.int p))) := by rw [hE]; rfl
    have g3 : E[3]? = some (some (.val (encP q.1))) := by rw [hE]; rfl
    have g4 : E[4]? = some (some (.val (encT q.2))) := by rw [hE]; rfl
    have va : ev (flagsOf tab) (call tab n) (.bin .add (.tup (.cons (.var 2) .nil)) (.var 3)) E = some (.ok (.val (encP (p :: q.1)), E)) :=
      v_bin (o_ex (v_tup (f_cons (v_val g2) f_nil) (by rw [sizeLine_eq]; simp)) rfl) (o_val g3) rfl rfl (by
        show (if _ then _ else _) = _
        rw [if_pos (by rw [sizeLine_eq]; simp; omega)]
        rfl)
    have ve : ev (flagsOf tab) (call tab n) lkElt E = some (.ok (.val (encK (p :: q.1, q.2)), E)) := v_tup (f_cons va (f_cons (v_val g4) f_nil)) (by rw [sizeLine_eq]; simp)
    refine l_cons (c_yes ?_ ve) (by rw [hE]; exact e)
    rw [hE]
    rfl
abbrev lkBody : Sts := (.cons (.asg 1 (.bin .add (.var 1) (.comp [3, 4] lkElt (.tup [3, 4]) (.seq (.call 18 (.cons (.idx (.var 0) (.var 2)) .nil))) .yes))) .nil)
theorem lkn_loop (n : Nat) (a : Str) (ps : List Tr) (hh : hts ps ≤ 100) (ih : ∀ t ∈ ps, call tab n 18 [encT t] = some (.ok (.own false (.list ((kn t).map encK)), []))) : ∀ (ts : List Tr) (j : Nat), (∀ i, ts[i]? = ps[j + i]?) → ∀ (F : List (List Int × Tr)), F.length + (pres ts).length ≤ 1000 → ∀ (v2 : Option D) (v3 v4 : Option Sl),
    ∃ (w2 : Option D) (w3 w4 : Option Sl), flp (turn (flagsOf tab) (call tab n) (.name 2) lkBody) (iotaD ((j + 1 : Nat) : Int) ts.length) [some (.val (encT (.node a ps))), some (.own false (.list (F.map encK))), v2.map Sl.val, v3, v4] =
      some (.ok (.nx [some (.val (encT (.node a ps))), some (.own false (.list ((F ++ kns (j + 1) ts).map encK))), w2.map Sl.val, w3, w4]))
  | [], j, _, F, _, v2, v3, v4 => ⟨v2, v3, v4, by simp only [kns, List.append_nil]; rfl⟩
  | t :: ts, j, hg, F, hF, v2, v3, v4 => by
    have gt : ps[j]? = some t := by have := hg 0; simpa using this.symm
    have mt : t ∈ ps := List.mem_of_getElem? gt
    have e1 := ih t mt
    have hht := hts_at gt
    simp only [pres, List.length_append] at hF
    have f18 : flagsOf tab 18 = [false] := rfl
    have ix := idx_tree (a := a) gt
    obtain ⟨u3, u4, e2⟩ := lkn_in n (encT (.node a ps)) (.list (F.map encK)) ((j + 1 : Nat) : Int) (kn t) (fun q hq => by have := kn_path t q hq; omega) v3 v4
    obtain ⟨w2, w3, w4, e3⟩ := lkn_loop n a ps hh ih ts (j + 1) (fun i => by
      have := hg (i + 1)
      simp only [List.getElem?_cons_succ] at this
      rw [this]; congr 1; omega) (F ++ (kn t).map fun q => (((j + 1 : Nat) : Int) :: q.1, q.2)) (by rw [List.length_append, List.length_map, kn_len]; omega) (some (.int ((j + 1 : Nat) : Int))) v3 v4
    refine ⟨w2, w3, w4, ?_⟩
    rw [List.length_cons, iotaD]
    have vc : ev (flagsOf tab) (call tab n) (.call 18 (.cons (.idx (.var 0) (.var 2)) .nil)) [some (.val (encT (.node a ps))), some (.own false (.list (F.map encK))), some (.val (.int ((j + 1 : Nat) : Int))), v3, v4] = some (.ok (.own false (.list ((kn t).map encK)), [some (.val (encT (.node a ps))), some (.own false (.list (F.map encK))), some (.val (.int ((j + 1 : Nat) : Int))), v3, v4])) :=
      v_call f18 (a_d (v_idx (o_val rfl) (v_val rfl) rfl ix) a_nil) rfl ⟨(by simp [lentOf]), rfl, rfl⟩ e1 rfl
    have hc := e_comp (own := [3, 4]) (i_seq vc (by rfl)) e2
    have hb : backE [some (.val (encT (.node a ps))), some (.own false (.list (F.map encK))), some (.val (.int ((j + 1 : Nat) : Int))), v3, v4] [some (.val (encT (.node a ps))), some (.own false (.list (F.map encK))), some (.val (.int ((j + 1 : Nat) : Int))), u3, u4] [3, 4] = [some (.val (encT (.node a ps))), some (.own false (.list (F.map encK))), some (.val (.int ((j + 1 : Nat) : Int))), v3, v4] := rfl
    rw [hb] at hc
    have st : turn (flagsOf tab) (call tab n) (.name 2) lkBody (.int ((j + 1 : Nat) : Int)) [some (.val (encT (.node a ps))), some (.own false (.list (F.map encK))), v2.map Sl.val, v3, v4] = some (.ok (.nx [some (.val (encT (.node a ps))), some (.own false (.list ((F ++ (kn t).map fun q => (((j + 1 : Nat) : Int) :: q.1, q.2)).map encK))), some (.val (.int ((j + 1 : Nat) : Int))), v3, v4])) := by
      refine turn_ok (ρ2 := [some (.val (encT (.node a ps))), some (.own false (.list (F.map encK))), some (.val (.int ((j + 1 : Nat) : Int))), v3, v4]) (by cases v2 <;> rfl) (ss_one (s_asg (v_bin (o_own rfl) (o_ex hc rfl) (rdo_s rfl) rfl ?_) rfl))
      show (if _ then _ else _) = _
      rw [if_pos (by rw [List.length_map, List.length_map, List.length_map, kn_len, sizeLine_eq]; omega), ← List.map_append]
    rw [flp_step st]
    simp only [kns]
    rw [← List.append_assoc]
    exact e3
theorem lknots_ok : ∀ (n : Nat) (t : Tr), ht t ≤ n → ht t ≤ 100 → (pre t).length ≤ 1000 → call tab (n + 1) 18 [encT t] = some (.ok (.own false (.list ((kn t).map encK)), [])) := by
  have st : ∀ n a ps, (∀ t ∈ ps, ht t ≤ 100 → (pre t).length ≤ 1000 → call tab n 18 [encT t] = some (.ok (.own false (.list ((kn t).map encK)), []))) → ht (.node a ps) ≤ 100 → (pre (.node a ps)).length ≤ 1000 → call tab (n + 1) 18 [encT (.node a ps)] = some (.ok (.own false (.list ((kn (.node a ps)).map encK)), [])) := by
    intro n a ps ih hh hl
    simp only [pre, List.length_cons] at hl
    simp only [ht] at hh
    have hp := len_pres ps
    have e0 : encT (.node a ps) = .tuple (.str a :: encTs ps) := by simp only [encT]
    obtain ⟨w2, w3, w4, e⟩ := lkn_loop n a ps hh (fun t hm => by
      obtain ⟨k, hk, e⟩ := List.getElem_of_mem hm
      have g := List.getElem?_eq_getElem hk
      rw [e] at g
      have h1 := pre_len g
      have h2 := hts_at g
      exact ih t hm (by omega) (by omega)) ps 0 (fun i => by rw [Nat.zero_add]) [([], .node a ps)] (by simp; omega) none none none
    rw [call_at (d := d_law_knots) rfl]
    refine run_rt rfl (ss_step (ρ' := [some (.val (encT (.node a ps))), some (.own false (.list [encK ([], .node a ps)])), none, none, none]) (s_asg (v_lst (f_cons (v_tup (f_cons (v_tup f_nil (by rw [sizeLine_eq]; simp)) (f_cons (v_val rfl) f_nil)) (by rw [sizeLine_eq]; simp)) f_nil) (by rw [sizeLine_eq]; simp)) rfl) (ss_step (s_for (i_rng2 (ρ1 := [some (.val (encT (.node a ps))), some (.own false (.list [encK ([], .node a ps)])), none, none, none]) (i := 1) (j := ((ps.length + 1 : Nat) : Int)) (r1 := .val (.int 1)) rfl rfl (v_blt1 (o_val rfl) rfl (r := .val (.int ((ps.length + 1 : Nat) : Int))) ?_) rfl (by omega) (by omega)) (f := .nx [some (.val (encT (.node a ps))), some (.own false (.list ((kn (.node a ps)).map encK))), w2.map Sl.val, w3, w4]) ?_) (ss_one rfl))) rfl
    · rw [e0, len_tup]; simp [encTs_len]
    · rw [show (((ps.length + 1 : Nat) : Int) - 1).toNat = ps.length from by omega]
      simp only [kn]
      exact e
  exact from_below (P := fun n t => ht t ≤ 100 → (pre t).length ≤ 1000 → call tab n 18 [encT t] = some (.ok (.own false (.list ((kn t).map encK)), []))) st fun n a => st n a [] fun t h => by cases h
abbrev pIn : Sts := (.cons (.drop (.mut .append 1 (.cons (.bin .add (.tup (.cons (.var 2) .nil)) (.var 3)) .nil))) .nil)
theorem paths_in (n : Nat) (T0 : D) (p : Int) : ∀ (L : List (List Int × Tr)), (∀ q ∈ L, q.1.length ≤ 100) → ∀ (F : List (List Int × Tr)), F.length + L.length ≤ 1000 → ∀ (v3 : Option D), ∃ w3 : Option D, flp (turn (flagsOf tab) (call tab n) (.name 3) pIn) (L.map fun q => encP q.1) [some (.val T0), some (.own false (.list (F.map fun q => encP q.1))), some (.val (.int p)), v3.map Sl.val] =
    some (.ok (.nx [some (.val T0), some (.own false (.list ((F ++ L.map fun q => (p :: q.1, q.2)).map fun q => encP q.1))), some (.val (.int p)), w3.map Sl.val]))
  | [], _, F, _, v3 => ⟨v3, by rw [List.map_nil, List.map_nil, List.append_nil]; rfl⟩
  | q :: L, h, F, hF, v3 => by
    simp only [List.length_cons] at hF
    have hq := h q List.mem_cons_self
    obtain ⟨w3, e⟩ := paths_in n T0 p L (fun r hr => h r (List.mem_cons_of_mem _ hr)) (F ++ [(p :: q.1, q.2)]) (by rw [List.length_append, List.length_singleton]; omega) (some (encP q.1))
    refine ⟨w3, ?_⟩
    obtain ⟨E, hE⟩ : ∃ E : Ev.Env, E = [some (.val T0), some (.own false (.list (F.map fun q => encP q.1))), some (.val (.int p)), some (.val (encP q.1))] := ⟨_, rfl⟩
    have g1 : E[1]? = some (some (.own false (.list (F.map fun q => encP q.1)))) := by rw [hE]; rfl
    have g2 : E[2]? = some (some (.val (.int p))) := by rw [hE]; rfl
    have g3 : E[3]? = some (some (.val (encP q.1))) := by rw [hE]; rfl
    have va : ev (flagsOf tab) (call tab n) (.bin .add (.tup (.cons (.var 2) .nil)) (.var 3)) E = some (.ok (.val (encP (p :: q.1)), E)) :=
      v_bin (o_ex (v_tup (f_cons (v_val g2) f_nil) (by rw [sizeLine_eq]; simp)) rfl) (o_val g3) rfl rfl (by
        show (if _ then _ else _) = _
        rw [if_pos (by rw [sizeLine_eq]; simp; omega)]
        rfl)
    have st : turn (flagsOf tab) (call tab n) (.name 3) pIn (encP q.1) [some (.val T0), some (.own false (.list (F.map fun q => encP q.1))), some (.val (.int p)), v3.map Sl.val] = some (.ok (.nx [some (.val T0), some (.own false (.list ((F ++ [(p :: q.1, q.2)]).map fun q => encP q.1))), some (.val (.int p)), some (.val (encP q.1))])) := by
      refine turn_ok (ρ2 := E) (by rw [hE]; cases v3 <;> rfl) (ss_one ((s_drop (v_append g1 va g1 (by rw [List.length_map, sizeLine_eq]; omega))).trans ?_))
      rw [hE, List.map_append]
      rfl
    rw [List.map_cons, flp_step st]
    have : F ++ (q :: L).map (fun q => (p :: q.1, q.2)) = (F ++ [(p :: q.1, q.2)]) ++ L.map fun q => (p :: q.1, q.2) := by simp
    rw [this]
    exact e
abbrev pBody : Sts := (.cons (.fr (.name 3) (.seq (.call 5 (.cons (.idx (.var 0) (.var 2)) .nil))) pIn) .nil)
theorem paths_loop (n : Nat) (a : Str) (ps : List Tr) (hh : hts ps ≤ 100) (ih : ∀ t ∈ ps, call tab n 5 [encT t] = some (.ok (.own false (.list ((kn t).map fun q => encP q.1)), []))) : ∀ (ts : List Tr) (j : Nat), (∀ i, ts[i]? = ps[j + i]?) → ∀ (F : List (List Int × Tr)), F.length + (pres ts).length ≤ 1000 → ∀ (v2 v3 : Option D),
    ∃ (w2 w3 : Option D), flp (turn (flagsOf tab) (call tab n) (.name 2) pBody) (iotaD ((j + 1 : Nat) : Int) ts.length) [some (.val (encT (.node a ps))), some (.own false (.list (F.map fun q => encP q.1))), v2.map Sl.val, v3.map Sl.val] =
      some (.ok (.nx [some (.val (encT (.node a ps))), some (.own false (.list ((F ++ kns (j + 1) ts).map fun q => encP q.1))), w2.map Sl.val, w3.map Sl.val]))
  | [], j, _, F, _, v2, v3 => ⟨v2, v3, by simp only [kns, List.append_nil]; rfl⟩
  | t :: ts, j, hg, F, hF, v2, v3 => by
    have gt : ps[j]? = some t := by have := hg 0; simpa using this.symm
    have mt : t ∈ ps := List.mem_of_getElem? gt
    have e1 := ih t mt
    have hht := hts_at gt
    simp only [pres, List.length_append] at hF
    have f5 : flagsOf tab 5 = [false] := rfl
    have ix := idx_tree (a := a) gt
    obtain ⟨u3, e2⟩ := paths_in n (encT (.node a ps)) ((j + 1 : Nat) : Int) (kn t) (fun q hq => by have := kn_path t q hq; omega) F (by rw [kn_len]; omega) v3
    obtain ⟨w2, w3, e3⟩ := paths_loop n a ps hh ih ts (j + 1) (fun i => by
      have := hg (i + 1)
      simp only [List.getElem?_cons_succ] at this
      rw [this]; congr 1; omega) (F ++ (kn t).map fun q => (((j + 1 : Nat) : Int) :: q.1, q.2)) (by rw [List.length_append, List.length_map, kn_len]; omega) (some (.int ((j + 1 : Nat) : Int))) u3
    refine ⟨w2, w3, ?_⟩
    rw [List.length_cons, iotaD]
    have vc : ev (flagsOf tab) (call tab n) (.call 5 (.cons (.idx (.var 0) (.var 2)) .nil)) [some (.val (encT (.node a ps))), some (.own false (.list (F.map fun q => encP q.1))), some (.val (.int ((j + 1 : Nat) : Int))), v3.map Sl.val] = some (.ok (.own false (.list ((kn t).map fun q => encP q.1)), [some (.val (encT (.node a ps))), some (.own false (.list (F.map fun q => encP q.1))), some (.val (.int ((j + 1 : Nat) : Int))), v3.map Sl.val])) :=
      v_call f5 (a_d (v_idx (o_val rfl) (v_val rfl) rfl ix) a_nil) rfl ⟨(by simp [lentOf]), rfl, rfl⟩ e1 rfl
    have st : turn (flagsOf tab) (call tab n) (.name 2) pBody (.int ((j + 1 : Nat) : Int)) [some (.val (encT (.node a ps))), some (.own false (.list (F.map fun q => encP q.1))), v2.map Sl.val, v3.map Sl.val] = some (.ok (.nx [some (.val (encT (.node a ps))), some (.own false (.list ((F ++ (kn t).map fun q => (((j + 1 : Nat) : Int) :: q.1, q.2)).map fun q => encP q.1))), some (.val (.int ((j + 1 : Nat) : Int))), u3.map Sl.val])) :=
      turn_ok (ρ2 := [some (.val (encT (.node a ps))), some (.own false (.list (F.map fun q => encP q.1))), some (.val (.int ((j + 1 : Nat) : Int))), v3.map Sl.val]) (by cases v2 <;> rfl) (ss_one (s_for (i_seq vc rfl) e2))
    rw [flp_step st]
    simp only [kns]
    rw [← List.append_assoc]
    exact e3
theorem paths_ok : ∀ (n : Nat) (t : Tr), ht t ≤ n → ht t ≤ 100 → (pre t).length ≤ 1000 → call tab (n + 1) 5 [encT t] = some (.ok (.own false (.list ((kn t).map fun q => encP q.1)), [])) := by
  have st : ∀ n a ps, (∀ t ∈ ps, ht t ≤ 100 → (pre t).length ≤ 1000 → call tab n 5 [encT t] = some (.ok (.own false (.list ((kn t).map fun q => encP q.1)), []))) → ht (.node a ps) ≤ 100 → (pre (.node a ps)).length ≤ 1000 → call tab (n + 1) 5 [encT (.node a ps)] = some (.ok (.own false (.list ((kn (.node a ps)).map fun q => encP q.1)), [])) := by
    intro n a ps ih hh hl
    simp only [pre, List.length_cons] at hl
    simp only [ht] at hh
    have hp := len_pres ps
    have e0 : encT (.node a ps) = .tuple (.str a :: encTs ps) := by simp only [encT]
    obtain ⟨w2, w3, e⟩ := paths_loop n a ps hh (fun t hm => by
      obtain ⟨k, hk, e⟩ := List.getElem_of_mem hm
      have g := List.getElem?_eq_getElem hk
      rw [e] at g
      have h1 := pre_len g
      have h2 := hts_at g
      exact ih t hm (by omega) (by omega)) ps 0 (fun i => by rw [Nat.zero_add]) [([], .node a ps)] (by simp; omega) none none
    rw [call_at (d := d_paths) rfl]
    refine run_rt rfl (ss_step (ρ' := [some (.val (encT (.node a ps))), some (.own false (.list [encP []])), none, none]) (s_asg (v_lst (f_cons (v_tup f_nil (by rw [sizeLine_eq]; simp)) f_nil) (by rw [sizeLine_eq]; simp)) rfl) (ss_step (s_for (i_rng2 (ρ1 := [some (.val (encT (.node a ps))), some (.own false (.list [encP []])), none, none]) (i := 1) (j := ((ps.length + 1 : Nat) : Int)) (r1 := .val (.int 1)) rfl rfl (v_blt1 (o_val rfl) rfl (r := .val (.int ((ps.length + 1 : Nat) : Int))) ?_) rfl (by omega) (by omega)) (f := .nx [some (.val (encT (.node a ps))), some (.own false (.list ((kn (.node a ps)).map fun q => encP q.1))), w2.map Sl.val, w3.map Sl.val]) ?_) (ss_one rfl))) rfl
    · rw [e0, len_tup]; simp [encTs_len]
    · rw [show (((ps.length + 1 : Nat) : Int) - 1).toNat = ps.length from by omega]
      simp only [kn]
      exact e
  exact from_below (P := fun n t => ht t ≤ 100 → (pre t).length ≤ 1000 → call tab n 5 [encT t] = some (.ok (.own false (.list ((kn t).map fun q => encP q.1)), []))) st fun n a => st n a [] fun t h => by cases h
end EvM
end
section
set_option maxRecDepth 100000
set_option maxHeartbeats 4000000
/-! k01: parts at paths, exchanges. -/
namespace EvM
open PySem Ev
def sonOf (ps : List Tr) (i : Int) : Option Tr := if 1 ≤ i ∧ i < (ps.length : Int) + 1 then ps[i.toNat - 1]? else none
def partOf : List Int → Tr → Option Tr
  | [], t => some t
  | i :: r, .node _ ps => (match sonOf ps i with
    | some t => partOf r t
    | none => none)
theorem sonOf_some {ps : List Tr} {i : Int} {t : Tr} (h : sonOf ps i = some t) : ∃ k : Nat, i = ((k + 1 : Nat) : Int) ∧ ps[k]? = some t := by
  unfold sonOf at h
  split at h
  · rename_i z
    refine ⟨i.toNat - 1, by omega, h⟩
  · cases h
theorem sonOf_at {ps : List Tr} {k : Nat} {t : Tr} (h : ps[k]? = some t) : sonOf ps ((k + 1 : Nat) : Int) = some t := by
  have hk : k < ps.length := by
    by_cases z : k < ps.length
    · exact z
    · rw [List.getElem?_eq_none (by omega)] at h; cases h
  unfold sonOf
  rw [if_pos (by omega)]
  rw [show (((k + 1 : Nat) : Int)).toNat - 1 = k from by omega]
  exact h
theorem sonOf_none {ps : List Tr} {i : Int} (h : sonOf ps i = none) : ¬ (1 ≤ i ∧ i < (ps.length : Int) + 1) := by
  intro z
  unfold sonOf at h
  rw [if_pos z, List.getElem?_eq_getElem (by omega)] at h
  cases h
mutual
theorem kn_part : ∀ (t : Tr) (p : List Int) (u : Tr), (p, u) ∈ kn t → partOf p t = some u
  | .node a ps, p, u, h => by
    simp only [kn] at h
    rcases List.mem_cons.mp h with h | h
    · cases h; rfl
    · obtain ⟨i, r, t, rfl, g, e⟩ := kns_part 1 ps p u h
      show (match sonOf ps ((1 + i : Nat) : Int) with
        | some t => partOf r t
        | none => none) = _
      rw [show (1 + i) = i + 1 from by omega, sonOf_at g]
      exact e
theorem kns_part : ∀ (j : Nat) (ts : List Tr) (p : List Int) (u : Tr), (p, u) ∈ kns j ts → ∃ i r t, p = ((j + i : Nat) : Int) :: r ∧ ts[i]? = some t ∧ partOf r t = some u
  | _, [], p, u, h => by cases h
  | j, t :: ts, p, u, h => by
    simp only [kns] at h
    rcases List.mem_append.mp h with h | h
    · obtain ⟨⟨r, v⟩, hr, e⟩ := List.mem_map.mp h
      cases e
      exact ⟨0, r, t, rfl, rfl, kn_part t r _ hr⟩
    · obtain ⟨i, r, t', rfl, g, e⟩ := kns_part (j + 1) ts p u h
      exact ⟨i + 1, r, t', by rw [show j + 1 + i = j + (i + 1) from by omega], by simpa using g, e⟩
end
theorem kns_mem : ∀ (ts : List Tr) (j i : Nat) (t : Tr) (r : List Int) (u : Tr), ts[i]? = some t → (r, u) ∈ kn t → (((j + i : Nat) : Int) :: r, u) ∈ kns j ts
  | [], _, i, t, _, _, h, _ => by cases i <;> cases h
  | t0 :: ts, j, 0, t, r, u, h, hm => by
    have e : t0 = t := by simpa using h
    subst e
    simp only [kns]
    exact List.mem_append.mpr (.inl (List.mem_map.mpr ⟨(r, u), hm, rfl⟩))
  | t0 :: ts, j, i + 1, t, r, u, h, hm => by
    simp only [kns]
    have := kns_mem ts (j + 1) i t r u (by simpa using h) hm
    rw [show j + 1 + i = j + (i + 1) from by omega] at this
    exact List.mem_append.mpr (.inr this)
theorem part_kn : ∀ (p : List Int) (t u : Tr), partOf p t = some u → (p, u) ∈ kn t
  | [], .node a ps, u, h => by
    cases h
    simp only [kn]; exact List.mem_cons_self
  | i :: r, .node a ps, u, h => by
    have h' : (match sonOf ps i with
      | some t => partOf r t
      | none => none) = some u := h
    cases hs : sonOf ps i with
    | none => rw [hs] at h'; cases h'
    | some t =>
      rw [hs] at h'
      obtain ⟨k, rfl, g⟩ := sonOf_some hs
      have := kns_mem ps 1 k t r u g (part_kn r t u h')
      rw [show 1 + k = k + 1 from by omega] at this
      simp only [kn]
      exact List.mem_cons_of_mem _ this
abbrev paBody : Sts := (.cons (.iff (.not (.tr (.chn .le .lt (.con (.int 1)) (.var 3) (.blt .len (.cons (.var 2) .nil))))) (.cons (.rse 1 ["path"] (.cons (.var 1) .nil)) .nil) .nil) (.cons (.asg 2 (.idx (.var 2) (.var 3))) .nil))
/-- the answer of part_at -/
def badP (p : List Int) : Exn := ⟨1, [("path", encP p)]⟩
theorem part_turn (n : Nat) (T0 P0 : D) (a : Str) (ps : List Tr) (i : Int) (v3 : Option D) : turn (flagsOf tab) (call tab n) (.name 3) paBody (.int i) [some (.val T0), some (.val P0), some (.val (encT (.node a ps))), v3.map Sl.val] = (match sonOf ps i with
    | some t => some (.ok (.nx [some (.val T0), some (.val P0), some (.val (encT t)), some (.val (.int i))]))
    | none => some (.error ⟨1, [("path", P0)]⟩)) := by
  have e0 : encT (.node a ps) = .tuple (.str a :: encTs ps) := by simp only [encT]
  obtain ⟨E, hE⟩ : ∃ E : Ev.Env, E = [some (.val T0), some (.val P0), some (.val (encT (.node a ps))), some (.val (.int i))] := ⟨_, rfl⟩
  have g1 : E[1]? = some (some (.val P0)) := by rw [hE]; rfl
  have g2 : E[2]? = some (some (.val (encT (.node a ps)))) := by rw [hE]; rfl
  have g3 : E[3]? = some (some (.val (.int i))) := by rw [hE]; rfl
  have tg : tgS (.name 3) (.int i) [some (.val T0), some (.val P0), some (.val (encT (.node a ps))), v3.map Sl.val] = some E := by
    rw [hE]; cases v3 <;> rfl
  have lv : ev (flagsOf tab) (call tab n) (.blt .len (.cons (.var 2) .nil)) E = some (.ok (.val (.int ((ps.length : Int) + 1)), E)) := v_blt1 (o_val g2) rfl (by
    rw [e0, len_tup]; simp [encTs_len])
  have tc : evt (flagsOf tab) (call tab n) (.tr (.chn .le .lt (.con (.int 1)) (.var 3) (.blt .len (.cons (.var 2) .nil)))) E = some (.ok (decide (1 ≤ i ∧ i < (ps.length : Int) + 1), E)) := by
    have vc : ev (flagsOf tab) (call tab n) (.chn .le .lt (.con (.int 1)) (.var 3) (.blt .len (.cons (.var 2) .nil))) E = some (.ok (.val (.bool (decide (1 ≤ i ∧ i < (ps.length : Int) + 1))), E)) := by
      show bd (ev (flagsOf tab) (call tab n) (.con (.int 1)) E) _ = _
      rw [show ev (flagsOf tab) (call tab n) (.con (.int 1)) E = some (.ok (.val (.int 1), E)) from rfl, bd_some]
      show bd (ev (flagsOf tab) (call tab n) (.var 3) E) _ = _
      rw [v_val g3, bd_some]
      have c1 : cmpD .le (.int 1) (.int i) = some (decide (1 ≤ i)) := rfl
      show (match cmpD .le (.int 1) (.int i) with
        | some false => rt (Sl.val (.bool false), E)
        | some true => bd (ev (flagsOf tab) (call tab n) (.blt .len (.cons (.var 2) .nil)) E) fun r => lift ((cmpD .lt (.int i) r.1.d).map fun b => Sl.val (.bool b)) r.2
        | none => none) = _
      rw [c1]
      by_cases h : 1 ≤ i
      · rw [decide_eq_true h]
        simp only []
        rw [lv, bd_some]
        have c2 : cmpD .lt (.int i) (.int ((ps.length : Int) + 1)) = some (decide (i < (ps.length : Int) + 1)) := rfl
        show lift ((cmpD .lt (.int i) (.int ((ps.length : Int) + 1))).map fun b => Sl.val (.bool b)) E = _
        rw [c2]
        have : decide (1 ≤ i ∧ i < (ps.length : Int) + 1) = decide (i < (ps.length : Int) + 1) := by
          by_cases h2 : i < (ps.length : Int) + 1
          · rw [decide_eq_true h2, decide_eq_true ⟨h, h2⟩]
          · rw [decide_eq_false h2, decide_eq_false (fun z => h2 z.2)]
        rw [this]; rfl
      · rw [decide_eq_false h, decide_eq_false (fun z => h z.1)]
    exact t_tr (o := .d (.bool _)) (o_ex vc rfl) rfl rfl
  have tn := t_not tc
  cases hs : sonOf ps i with
  | none =>
    have z := sonOf_none hs
    rw [decide_eq_false z] at tn
    exact turn_o tg (ss_err (s_ifo (k := true) tn (ss_1 (s_rse (f_cons (v_val g1) f_nil) rfl))))
  | some t =>
    obtain ⟨k, rfl, g⟩ := sonOf_some hs
    have hk : k < ps.length := by
      by_cases z : k < ps.length
      · exact z
      · rw [List.getElem?_eq_none (by omega)] at g; cases g
    rw [decide_eq_true (by omega)] at tn
    refine turn_o tg (ss_go (s_ifo (k := false) tn rfl) (ss_1 ((s_asg (v_idx (o_val g2) (v_val g3) rfl (idx_tree g)) (ρ' := [some (.val T0), some (.val P0), some (.val (encT t)), some (.val (.int ((k + 1 : Nat) : Int)))]) ?_))))
    rw [hE]; rfl
theorem part_loop (n : Nat) (T0 P0 : D) : ∀ (p : List Int) (t : Tr) (v3 : Option D), ∃ w3 : Option D, flp (turn (flagsOf tab) (call tab n) (.name 3) paBody) (p.map PyData.int) [some (.val T0), some (.val P0), some (.val (encT t)), v3.map Sl.val] = (match partOf p t with
    | some u => some (.ok (.nx [some (.val T0), some (.val P0), some (.val (encT u)), w3.map Sl.val]))
    | none => some (.error ⟨1, [("path", P0)]⟩))
  | [], t, v3 => ⟨v3, rfl⟩
  | i :: p, .node a ps, v3 => by
    have st := part_turn n T0 P0 a ps i v3
    have hp : partOf (i :: p) (.node a ps) = (match sonOf ps i with
      | some t => partOf p t
      | none => none) := rfl
    cases hs : sonOf ps i with
    | none =>
      rw [hs] at st hp
      refine ⟨none, ?_⟩
      rw [hp, List.map_cons]
      exact flp_err st
    | some t =>
      rw [hs] at st hp
      obtain ⟨w3, e⟩ := part_loop n T0 P0 p t (some (.int i))
      refine ⟨w3, ?_⟩
      rw [hp, List.map_cons, flp_step st]
      exact e
theorem part_ok (n : Nat) (p : List Int) (t : Tr) : call tab (n + 1) 6 [encT t, encP p] = (match partOf p t with
    | some u => some (.ok (.val (encT u), []))
    | none => some (.error (badP p))) := by
  obtain ⟨w3, e⟩ := part_loop n (encT t) (encP p) p t none
  rw [call_at (d := d_part_at) rfl]
  have s1 : evS (flagsOf tab) (call tab n) (.asg 2 (.var 0)) [some (.val (encT t)), some (.val (encP p)), none, none] = some (.ok (.nx [some (.val (encT t)), some (.val (encP p)), some (.val (encT t)), none])) := s_asg (v_val rfl) rfl
  have i1 : evi (flagsOf tab) (call tab n) (.seq (.var 1)) [some (.val (encT t)), some (.val (encP p)), some (.val (encT t)), none] = some (.ok (p.map PyData.int, [some (.val (encT t)), some (.val (encP p)), some (.val (encT t)), none])) := i_seq (v_val rfl) rfl
  cases hp : partOf p t with
  | none =>
    rw [hp] at e
    exact run_err rfl (ss_go s1 (ss_err (s_fro i1 e)))
  | some u =>
    rw [hp] at e
    exact run_rt rfl (ss_step s1 (ss_step (s_for i1 e) (ss_one (s_ret (v_val rfl) rfl)))) rfl
/-- a value put at a path -/
def putT : List Int → Tr → D → D
  | [], _, x => x
  | i :: r, .node a ps, x => .tuple (.str a :: (encTs ps).set (i.toNat - 1) (match sonOf ps i with
    | some t => putT r t x
    | none => x))
theorem six_nat (n d k : Nat) (h : k ≤ n) : HT.sIx n d (some (k : Int)) = k := by
  rw [HT.sIx_nat]
  omega
theorem cut_head (xs : List D) (k : Nat) (h : k ≤ xs.length) : cutD xs none (some (k : Int)) = xs.take k := by
  unfold cutD
  rw [six_nat _ _ _ h]
  rfl
theorem cut_from (xs : List D) (k : Nat) (h : k ≤ xs.length) : cutD xs (some (k : Int)) none = xs.drop k := by
  unfold cutD
  rw [six_nat _ _ _ h]
  show ((xs.drop k).take (xs.length - k)) = _
  rw [List.take_of_length_le (by simp)]
theorem exch_ok : ∀ (p : List Int) (t u : Tr) (x : D) (n : Nat), partOf p t = some u → p.length < n → (pre t).length ≤ 1000 → call tab n 8 [encT t, encP p, x] = some (.ok (.val (putT p t x), []))
  | [], t, u, x, n + 1, _, _, _ => by
    rw [call_at (d := d_exchanged_part) rfl]
    have t1 : evt (flagsOf tab) (call tab n) (.tr (.cmp .eq (.blt .len (.cons (.var 1) .nil)) (.con (.int 0)))) [some (.val (encT t)), some (.val (encP [])), some (.val x), none] = some (.ok (true, _)) := t_cmp (o_ex (v_blt1 (o_val rfl) rfl (len_tup _)) rfl) (ob := .d (.int 0)) rfl rfl rfl (eq_int _ _)
    exact run_rt rfl (ss_rt (s_if (k := true) t1 (ss_one (s_ret (v_val rfl) rfl)))) rfl
  | i :: p, .node a ps, u, x, n + 1, h, hn, hl => by
    simp only [pre, List.length_cons] at hl
    have hpl := len_pres ps
    have h' : (match sonOf ps i with
      | some t => partOf p t
      | none => none) = some u := h
    cases hs : sonOf ps i with
    | none => rw [hs] at h'; cases h'
    | some t =>
      rw [hs] at h'
      obtain ⟨k, rfl, g⟩ := sonOf_some hs
      have hk : k < ps.length := by
        by_cases z : k < ps.length
        · exact z
        · rw [List.getElem?_eq_none (by omega)] at g; cases g
      have e0 : encT (.node a ps) = .tuple (.str a :: encTs ps) := by simp only [encT]
      simp only [List.length_cons] at hn
      have ih := exch_ok p t u x n h' (by omega) (by have := pre_len g; omega)
      rw [call_at (d := d_exchanged_part) rfl]
      have hcast : ((k + 1 : Nat) : Int) + 1 = ((k + 2 : Nat) : Int) := by push_cast; omega
      obtain ⟨E, hE⟩ : ∃ E : Ev.Env, E = [some (.val (encT (.node a ps))), some (.val (encP (((k + 1 : Nat) : Int) :: p))), some (.val x), some (.val (.int ((k + 1 : Nat) : Int)))] := ⟨_, rfl⟩
      have g0 : E[0]? = some (some (.val (.tuple (.str a :: encTs ps)))) := by rw [hE, e0]; rfl
      have g0' : E[0]? = some (some (.val (encT (.node a ps)))) := by rw [hE]; rfl
      have g1 : E[1]? = some (some (.val (encP (((k + 1 : Nat) : Int) :: p)))) := by rw [hE]; rfl
      have g2 : E[2]? = some (some (.val x)) := by rw [hE]; rfl
      have g3 : E[3]? = some (some (.val (.int ((k + 1 : Nat) : Int)))) := by rw [hE]; rfl
      have t1 : evt (flagsOf tab) (call tab n) (.tr (.cmp .eq (.blt .len (.cons (.var 1) .nil)) (.con (.int 0)))) [some (.val (encT (.node a ps))), some (.val (encP (((k + 1 : Nat) : Int) :: p))), some (.val x), none] = some (.ok (decide ((((((k + 1 : Nat) : Int) :: p).map PyData.int).length : Int) = 0), _)) := t_cmp (o_ex (v_blt1 (o_val rfl) rfl (len_tup _)) rfl) (ob := .d (.int 0)) rfl rfl rfl (eq_int _ _)
      rw [decide_eq_false (by simp; omega)] at t1
      have s2 : evS (flagsOf tab) (call tab n) (.asg 3 (.idx (.var 1) (.con (.int 0)))) [some (.val (encT (.node a ps))), some (.val (encP (((k + 1 : Nat) : Int) :: p))), some (.val x), none] = some (.ok (.nx E)) := by
        rw [hE]
        exact s_asg (v_idx (o_val rfl) (r := .val (.int 0)) rfl rfl (idx_zero _ _)) rfl
      have va : ev (flagsOf tab) (call tab n) (.sl (.var 0) .non (.som (.var 3))) E = some (.ok (.val (.tuple (.str a :: (encTs ps).take k)), E)) := v_sl (o_val g0) x_non (x_som (v_val g3) rfl) rfl (by
        show some (Sl.val (.tuple (cutD _ none (some ((k + 1 : Nat) : Int))))) = _
        rw [cut_head _ (k + 1) (by simp [encTs_len]; omega), List.take_succ_cons])
      have vp : ev (flagsOf tab) (call tab n) (.sl (.var 1) (.som (.con (.int 1))) .non) E = some (.ok (.val (encP p), E)) := v_sl (o_val g1) (x_som (r := .val (.int 1)) rfl rfl) x_non rfl (by
        show some (Sl.val (.tuple (cutD (PyData.int _ :: p.map PyData.int) (some 1) none))) = _
        rw [cut_tail]; rfl)
      have vc : ev (flagsOf tab) (call tab n) (.call 8 (.cons (.idx (.var 0) (.var 3)) (.cons (.sl (.var 1) (.som (.con (.int 1))) .non) (.cons (.var 2) .nil)))) E = some (.ok (.val (putT p t x), E)) :=
        v_call (bs := [false, false, false]) rfl (a_d (v_idx (o_val g0') (v_val g3) rfl (idx_tree g)) (a_d vp (a_d (v_val g2) a_nil))) rfl ⟨(by simp [lentOf]), rfl, rfl⟩ ih rfl
      have vt : ev (flagsOf tab) (call tab n) (.tup (.cons (.call 8 (.cons (.idx (.var 0) (.var 3)) (.cons (.sl (.var 1) (.som (.con (.int 1))) .non) (.cons (.var 2) .nil)))) .nil)) E = some (.ok (.val (.tuple [putT p t x]), E)) := v_tup (f_cons vc f_nil) (by rw [sizeLine_eq]; simp)
      have vq : ev (flagsOf tab) (call tab n) (.bin .add (.var 3) (.con (.int 1))) E = some (.ok (.val (.int ((k + 2 : Nat) : Int)), E)) := v_bin (o_val g3) (ob := .d (.int 1)) rfl rfl rfl (by rw [← hcast]; rfl)
      have vd : ev (flagsOf tab) (call tab n) (.sl (.var 0) (.som (.bin .add (.var 3) (.con (.int 1)))) .non) E = some (.ok (.val (.tuple ((encTs ps).drop (k + 1))), E)) := v_sl (o_val g0) (x_som vq rfl) x_non rfl (by
        show some (Sl.val (.tuple (cutD _ (some ((k + 2 : Nat) : Int)) none))) = _
        rw [cut_from _ (k + 2) (by simp [encTs_len]; omega), List.drop_succ_cons])
      have vab : ev (flagsOf tab) (call tab n) (.bin .add (.sl (.var 0) .non (.som (.var 3))) (.tup (.cons (.call 8 (.cons (.idx (.var 0) (.var 3)) (.cons (.sl (.var 1) (.som (.con (.int 1))) .non) (.cons (.var 2) .nil)))) .nil))) E = some (.ok (.val (.tuple (.str a :: (encTs ps).take k ++ [putT p t x])), E)) := v_bin (o_ex va rfl) (o_ex vt rfl) rfl rfl (by
        show (if _ then _ else _) = _
        rw [if_pos (by simp [encTs_len]; rw [sizeLine_eq]; omega)])
      have vabd : ev (flagsOf tab) (call tab n) (.bin .add (.bin .add (.sl (.var 0) .non (.som (.var 3))) (.tup (.cons (.call 8 (.cons (.idx (.var 0) (.var 3)) (.cons (.sl (.var 1) (.som (.con (.int 1))) .non) (.cons (.var 2) .nil)))) .nil))) (.sl (.var 0) (.som (.bin .add (.var 3) (.con (.int 1)))) .non)) E = some (.ok (.val (putT (((k + 1 : Nat) : Int) :: p) (.node a ps) x), E)) := v_bin (o_ex vab rfl) (o_ex vd rfl) rfl rfl (by
        show (if _ then _ else _) = _
        rw [if_pos (by simp [encTs_len]; rw [sizeLine_eq]; omega)]
        simp only [putT, hs]
        rw [show (((k + 1 : Nat) : Int)).toNat - 1 = k from by omega, List.set_eq_take_append_cons_drop, if_pos (by rw [encTs_len]; exact hk)]
        simp)
      rw [hE] at vabd s2
      exact run_rt rfl (ss_step (s_if (k := false) t1 rfl) (ss_step s2 (ss_one (s_ret vabd rfl)))) rfl
theorem nil_path (p : List Int) : cmpD .eq (encP p) (.tuple []) = some p.isEmpty := by
  have lay : ∀ r : List Int, PyData.canLayAll0 (r.map PyData.int) = true ∧ PyData.depthAll (r.map PyData.int) = 0 := fun r => by
    induction r with
    | nil => exact ⟨rfl, by simp [PyData.depthAll]⟩
    | cons x r ih => exact ⟨by simp [PyData.canLayAll0, PyData.canLay0, ih.1], by simp [PyData.depthAll, PyData.depth, ih.2]⟩
  have ok : eqOk (.tuple (p.map PyData.int)) = true := by
    unfold eqOk SeqAt.shaped
    simp [PyData.canLay0, PyData.depth, (lay p).1, (lay p).2]
  have ok0 : eqOk (.tuple []) = true := rfl
  show (if eqOk (.tuple (p.map PyData.int)) && eqOk (.tuple []) then some (PyData.eqv (.tuple (p.map PyData.int)) (.tuple [])) else none) = _
  rw [ok, ok0]
  cases p <;> rfl
abbrev putE : Ex := (.ite (.tr (.cmp .eq (.var 3) (.idx (.var 1) (.con (.int 0))))) (.call 24 (.cons (.idx (.var 0) (.var 3)) (.cons (.sl (.var 1) (.som (.con (.int 1))) .non) (.cons (.var 2) .nil)))) (.idx (.var 0) (.var 3)))
theorem put_in (n : Nat) (L : List D) (i : Nat) (hi : i < L.length) (p : List Int) (x y : D) (ih : call tab n 24 [L[i], encP p, x] = some (.ok (.val y, []))) : ∀ (c k : Nat), k + c = L.length → ∀ v : Option Sl, ∃ w : Option Sl, clp (Ev.compTurn (.name 3) [3] (evt (flagsOf tab) (call tab n) .yes) (ev (flagsOf tab) (call tab n) putE)) (iotaD (k : Int) c) [some (.val (.tuple L)), some (.val (encP ((i : Int) :: p))), some (.val x), v] =
    some (.ok ((L.set i y).drop k, [some (.val (.tuple L)), some (.val (encP ((i : Int) :: p))), some (.val x), w]))
  | 0, k, hk, v => ⟨v, by rw [List.drop_eq_nil_of_le (by rw [List.length_set]; omega)]; rfl⟩
  | c + 1, k, hk, v => by
    have h1 : k < L.length := by omega
    obtain ⟨w, e⟩ := put_in n L i hi p x y ih c (k + 1) (by omega) (some (.val (.int k)))
    refine ⟨w, ?_⟩
    rw [iotaD, List.drop_eq_getElem_cons (by rw [List.length_set]; exact h1)]
    rw [show ((k : Int) + 1) = ((k + 1 : Nat) : Int) from by push_cast; rfl]
    obtain ⟨E, hE⟩ : ∃ E : Ev.Env, E = [some (.val (.tuple L)), some (.val (encP ((i : Int) :: p))), some (.val x), some (.val (.int k))] := ⟨_, rfl⟩
    have g0 : E[0]? = some (some (.val (.tuple L))) := by rw [hE]; rfl
    have g1 : E[1]? = some (some (.val (encP ((i : Int) :: p)))) := by rw [hE]; rfl
    have g2 : E[2]? = some (some (.val x)) := by rw [hE]; rfl
    have g3 : E[3]? = some (some (.val (.int k))) := by rw [hE]; rfl
    have t : evt (flagsOf tab) (call tab n) (.tr (.cmp .eq (.var 3) (.idx (.var 1) (.con (.int 0))))) E = some (.ok (decide ((k : Int) = (i : Int)), E)) :=
      t_cmp (o_val g3) (o_ex (v_idx (o_val g1) (r := .val (.int 0)) rfl rfl (idx_zero _ _)) rfl) rfl rfl (eq_int _ _)
    have va : ev (flagsOf tab) (call tab n) (.idx (.var 0) (.var 3)) E = some (.ok (.val L[k], E)) := v_idx (o_val g0) (v_val g3) rfl (idx_tup h1)
    have ve : ev (flagsOf tab) (call tab n) putE E = some (.ok (.val ((L.set i y)[k]'(by rw [List.length_set]; exact h1)), E)) := by
      by_cases z : k = i
      · subst z
        rw [decide_eq_true rfl] at t
        have vp : ev (flagsOf tab) (call tab n) (.sl (.var 1) (.som (.con (.int 1))) .non) E = some (.ok (.val (encP p), E)) := v_sl (o_val g1) (x_som (r := .val (.int 1)) rfl rfl) x_non rfl (by
          show some (Sl.val (.tuple (cutD (PyData.int _ :: p.map PyData.int) (some 1) none))) = _
          rw [cut_tail]; rfl)
        refine v_ite t ?_
        rw [List.getElem_set_self]
        exact v_call (bs := [false, false, false]) rfl (a_d va (a_d vp (a_d (v_val g2) a_nil))) rfl ⟨(by simp [lentOf]), rfl, rfl⟩ ih rfl
      · rw [decide_eq_false (by omega)] at t
        refine v_ite t ?_
        rw [List.getElem_set_ne (by omega)]
        exact va
    refine l_cons (c_yes ?_ ve) (by rw [hE]; exact e)
    rw [hE]
    rfl
theorem put_ok : ∀ (p : List Int) (t u : Tr) (x : D) (n : Nat), partOf p t = some u → p.length < n → (pre t).length ≤ 1000 → call tab n 24 [encT t, encP p, x] = some (.ok (.val (putT p t x), []))
  | [], t, u, x, n + 1, _, _, _ => by
    rw [call_at (d := d_law_put) rfl]
    have t1 : evt (flagsOf tab) (call tab n) (.tr (.cmp .eq (.var 1) (.tup .nil))) [some (.val (encT t)), some (.val (encP [])), some (.val x), none] = some (.ok (true, _)) := t_cmp (o_val rfl) (o_ex (v_tup f_nil (Nat.zero_le _)) rfl) rfl rfl (nil_path [])
    exact run_rt rfl (ss_rt (s_if (k := true) t1 (ss_one (s_ret (v_val rfl) rfl)))) rfl
  | i :: p, .node a ps, u, x, n + 1, h, hn, hl => by
    simp only [pre, List.length_cons] at hl
    have hpl := len_pres ps
    have h' : (match sonOf ps i with
      | some t => partOf p t
      | none => none) = some u := h
    cases hs : sonOf ps i with
    | none => rw [hs] at h'; cases h'
    | some t =>
      rw [hs] at h'
      obtain ⟨k, rfl, g⟩ := sonOf_some hs
      have hk : k < ps.length := by
        by_cases z : k < ps.length
        · exact z
        · rw [List.getElem?_eq_none (by omega)] at g; cases g
      have e0 : encT (.node a ps) = .tuple (.str a :: encTs ps) := by simp only [encT]
      simp only [List.length_cons] at hn
      have ih := put_ok p t u x n h' (by omega) (by have := pre_len g; omega)
      have hi : k + 1 < (PyData.str a :: encTs ps).length := by simp [encTs_len]; omega
      have hL : (PyData.str a :: encTs ps)[k + 1] = encT t := by
        have := encTs_at g
        rw [List.getElem_cons_succ]
        rw [List.getElem?_eq_getElem (by rw [encTs_len]; exact hk)] at this
        exact Option.some.inj this
      obtain ⟨w, e⟩ := put_in n (.str a :: encTs ps) (k + 1) hi p x (putT p t x) (by rw [hL]; exact ih) (ps.length + 1) 0 (by simp [encTs_len]) none
      rw [call_at (d := d_law_put) rfl]
      have t1 : evt (flagsOf tab) (call tab n) (.tr (.cmp .eq (.var 1) (.tup .nil))) [some (.val (.tuple (.str a :: encTs ps))), some (.val (encP (((k + 1 : Nat) : Int) :: p))), some (.val x), none] = some (.ok (false, _)) := t_cmp (o_val rfl) (o_ex (v_tup f_nil (Nat.zero_le _)) rfl) rfl rfl (nil_path _)
      have i1 : evi (flagsOf tab) (call tab n) (.rng1 (.blt .len (.cons (.var 0) .nil))) [some (.val (.tuple (.str a :: encTs ps))), some (.val (encP (((k + 1 : Nat) : Int) :: p))), some (.val x), none] = some (.ok (iotaD 0 (ps.length + 1), [some (.val (.tuple (.str a :: encTs ps))), some (.val (encP (((k + 1 : Nat) : Int) :: p))), some (.val x), none])) := i_rng (v_blt1 (o_val rfl) rfl (len_tup _)) (by simp [Sl.d, encTs_len]) (by omega)
      have hc := e_comp (own := [3]) i1 e
      have hb : bltD .tuple [.list (((PyData.str a :: encTs ps).set (k + 1) (putT p t x)).drop 0)] = some (.val (putT (((k + 1 : Nat) : Int) :: p) (.node a ps) x)) := by
        show some (Sl.val (.tuple (((PyData.str a :: encTs ps).set (k + 1) (putT p t x)).drop 0))) = _
        simp only [putT, hs, List.drop_zero, List.set_cons_succ]
        rw [show (((k + 1 : Nat) : Int)).toNat - 1 = k from by omega]
      rw [e0]
      exact run_rt rfl (ss_step (s_if (k := false) t1 rfl) (ss_one (s_ret (v_blt1 (o_ex hc rfl) rfl hb) rfl))) rfl
end EvM
end
section
set_option maxRecDepth 100000
set_option maxHeartbeats 4000000
/-! k01: with_part; what is told of errors. -/
namespace EvM
open PySem Ev
def nm : Tr → Str
  | .node a _ => a
theorem encT_nm (t : Tr) : ∃ xs, encT t = .tuple (.str (nm t) :: xs) := by
  obtain ⟨a, ps⟩ := t
  exact ⟨encTs ps, by simp only [encT, nm]⟩
/-- what with_part does -/
def withE (s : List Mk) (t : Tr) (p : List Int) (v : Tr) : Except Exn (Sl × List D) := match partOf p t with
  | none => .error (badP p)
  | some u => if srtOf s (nm u) = srtOf s (nm v) then .ok (.val (putT p t (encT v)), []) else .error ⟨2, []⟩
theorem srt_okS {s : List Mk} (gs : GoodS s) (a : Str) : PyData.strOk (srtOf s a) = true := by
  unfold srtOf
  cases h : mkOf s a with
  | none =>
    show PyData.strOk Str.empty = true
    decide +kernel
  | some m => exact gs.so m (List.mem_of_find?_eq_some h)
theorem with_ok (s : List Mk) (g : Good s) (gs : GoodS s) (t v : Tr) (p : List Int) (n : Nat) (hn : p.length < n) (hl : (pre t).length ≤ 1000) (hu : ∀ u, partOf p t = some u → nm u ∈ s.map (·.name)) (hv : nm v ∈ s.map (·.name)) : call tab (n + 1) 7 [encS s, encT t, encP p, encT v] = some (withE s t p v) := by
  obtain ⟨n', rfl⟩ : ∃ n', n = n' + 1 := ⟨n - 1, by omega⟩
  have hp := part_ok n' p t
  obtain ⟨vs, ev0⟩ := encT_nm v
  rw [call_at (d := d_with_part) rfl]
  unfold withE
  cases hpt : partOf p t with
  | none =>
    rw [hpt] at hp
    exact run_err rfl (ss_err (s_asgX (v_callX (bs := [false, false]) rfl (a_d (v_val rfl) (a_d (v_val rfl) a_nil)) rfl ⟨(by simp [lentOf]), rfl, rfl⟩ hp)))
  | some u =>
    rw [hpt] at hp
    obtain ⟨us, eu0⟩ := encT_nm u
    have h1 := sort_ok n' s g (nm u) (hu u hpt) us
    have h2 := sort_ok n' s g (nm v) hv vs
    rw [← eu0] at h1
    rw [← ev0] at h2
    obtain ⟨E, hE⟩ : ∃ E : Ev.Env, E = [some (.val (encS s)), some (.val (encT t)), some (.val (encP p)), some (.val (encT v)), some (.val (encT u))] := ⟨_, rfl⟩
    have g0 : E[0]? = some (some (.val (encS s))) := by rw [hE]; rfl
    have g1 : E[1]? = some (some (.val (encT t))) := by rw [hE]; rfl
    have g2 : E[2]? = some (some (.val (encP p))) := by rw [hE]; rfl
    have g3 : E[3]? = some (some (.val (encT v))) := by rw [hE]; rfl
    have g4 : E[4]? = some (some (.val (encT u))) := by rw [hE]; rfl
    have s1 : evS (flagsOf tab) (call tab (n' + 1)) (.asg 4 (.call 6 (.cons (.var 1) (.cons (.var 2) .nil)))) [some (.val (encS s)), some (.val (encT t)), some (.val (encP p)), some (.val (encT v)), none] = some (.ok (.nx E)) := by
      rw [hE]
      exact s_asg (v_call (bs := [false, false]) rfl (a_d (v_val rfl) (a_d (v_val rfl) a_nil)) rfl ⟨(by simp [lentOf]), rfl, rfl⟩ hp rfl) rfl
    have v1 : ev (flagsOf tab) (call tab (n' + 1)) (.call 2 (.cons (.var 0) (.cons (.var 4) .nil))) E = some (.ok (.val (.str (srtOf s (nm u))), E)) := v_call (bs := [false, false]) rfl (a_d (v_val g0) (a_d (v_val g4) a_nil)) rfl ⟨(by simp [lentOf]), rfl, rfl⟩ h1 rfl
    have v2 : ev (flagsOf tab) (call tab (n' + 1)) (.call 2 (.cons (.var 0) (.cons (.var 3) .nil))) E = some (.ok (.val (.str (srtOf s (nm v))), E)) := v_call (bs := [false, false]) rfl (a_d (v_val g0) (a_d (v_val g3) a_nil)) rfl ⟨(by simp [lentOf]), rfl, rfl⟩ h2 rfl
    have t1 : evt (flagsOf tab) (call tab (n' + 1)) (.tr (.cmp .ne (.call 2 (.cons (.var 0) (.cons (.var 4) .nil))) (.call 2 (.cons (.var 0) (.cons (.var 3) .nil))))) E = some (.ok (!decide (srtOf s (nm u) = srtOf s (nm v)), E)) := t_cmp (o_ex v1 rfl) (o_ex v2 rfl) rfl rfl (ne_str (srt_okS gs _) (srt_okS gs _))
    by_cases z : srtOf s (nm u) = srtOf s (nm v)
    · rw [decide_eq_true z] at t1
      simp only [if_pos z]
      have he := exch_ok p t u (encT v) (n' + 1) hpt (by omega) hl
      refine run_rt (ρ' := E) rfl (ss_step s1 (ss_step (s_if (k := false) t1 rfl) (ss_one (s_ret (v_call (bs := [false, false, false]) rfl (a_d (v_val g1) (a_d (v_val g2) (a_d (v_val g3) a_nil))) rfl ⟨(by simp [lentOf]), rfl, rfl⟩ he rfl) rfl)))) (by rw [hE]; rfl)
    · rw [decide_eq_false z] at t1
      simp only [if_neg z]
      exact run_err rfl (ss_go s1 (ss_err (s_ifo (k := true) t1 (ss_1 (s_rse f_nil rfl)))))
def pathL (p : List Int) : D := .list [.str "path", encP p, .bool true, .bool false]
theorem lpart_ok (n : Nat) (p : List Int) (t : Tr) : call tab (n + 2) 25 [encT t, encP p] = (match partOf p t with
    | some u => some (.ok (.val (encT u), []))
    | none => some (.ok (.own false (pathL p), []))) := by
  have hp := part_ok n p t
  rw [call_at (d := d_law_part) rfl]
  cases hpt : partOf p t with
  | none =>
    rw [hpt] at hp
    refine run_rt (ρ' := [some (.val (encT t)), some (.val (encP p)), none]) rfl (ss_1 (s_trx (x := badP p) (ss_1 (s_retX (v_callX (bs := [false, false]) rfl (a_d (v_val rfl) (a_d (v_val rfl) a_nil)) rfl ⟨(by simp [lentOf]), rfl, rfl⟩ hp) rfl)) rfl)) rfl
  | some u =>
    rw [hpt] at hp
    exact run_rt rfl (ss_1 (s_tri (ss_1 (s_ret (v_call (bs := [false, false]) rfl (a_d (v_val rfl) (a_d (v_val rfl) a_nil)) rfl ⟨(by simp [lentOf]), rfl, rfl⟩ hp rfl) rfl)))) rfl
def exchD (s : List Mk) (t : Tr) (p : List Int) (v : Tr) : Sl := match partOf p t with
  | none => .own false (.list [.str "path", encP p])
  | some u => if srtOf s (nm u) = srtOf s (nm v) then .val (putT p t (encT v)) else .own false (.list [.str "sorts", .bool false])
theorem lexch_ok (s : List Mk) (g : Good s) (gs : GoodS s) (t v : Tr) (p : List Int) (n : Nat) (hn : p.length < n) (hl : (pre t).length ≤ 1000) (hu : ∀ u, partOf p t = some u → nm u ∈ s.map (·.name)) (hv : nm v ∈ s.map (·.name)) : call tab (n + 2) 26 [encS s, encT t, encP p, encT v] = some (.ok (exchD s t p v, [])) := by
  have hp := with_ok s g gs t v p n hn hl hu hv
  rw [call_at (d := d_law_exchanged) rfl]
  unfold withE at hp
  unfold exchD
  have er : ∀ x, call tab (n + 1) 7 [encS s, encT t, encP p, encT v] = some (.error x) → evSs (flagsOf tab) (call tab (n + 1)) (.cons (.ret (.call 7 (.cons (.var 0) (.cons (.var 1) (.cons (.var 2) (.cons (.var 3) .nil)))))) .nil) [some (.val (encS s)), some (.val (encT t)), some (.val (encP p)), some (.val (encT v)), none] = some (.error x) := fun x hx =>
    ss_1 (s_retX (v_callX (bs := [false, false, false, false]) rfl (a_d (v_val rfl) (a_d (v_val rfl) (a_d (v_val rfl) (a_d (v_val rfl) a_nil)))) rfl ⟨(by simp [lentOf]), rfl, rfl⟩ hx) rfl)
  cases hpt : partOf p t with
  | none =>
    rw [hpt] at hp
    exact run_rt (ρ' := [some (.val (encS s)), some (.val (encT t)), some (.val (encP p)), some (.val (encT v)), none]) rfl (ss_1 (s_trx (x := badP p) (er _ hp) rfl)) rfl
  | some u =>
    rw [hpt] at hp
    by_cases z : srtOf s (nm u) = srtOf s (nm v)
    · simp only [if_pos z] at hp ⊢
      exact run_rt rfl (ss_1 (s_tri (ss_1 (s_ret (v_call (bs := [false, false, false, false]) rfl (a_d (v_val rfl) (a_d (v_val rfl) (a_d (v_val rfl) (a_d (v_val rfl) a_nil)))) rfl ⟨(by simp [lentOf]), rfl, rfl⟩ hp rfl) rfl)))) rfl
    · simp only [if_neg z] at hp ⊢
      exact run_rt (ρ' := [some (.val (encS s)), some (.val (encT t)), some (.val (encP p)), some (.val (encT v)), none]) rfl (ss_1 (s_trx (x := ⟨2, []⟩) (er _ hp) rfl)) rfl
end EvM
end
section
set_option maxRecDepth 100000
set_option maxHeartbeats 4000000
/-! k01: what is known of trees and values. -/
namespace EvM
open PySem Ev
mutual
theorem wf_of {s : List Mk} : ∀ (t : Tr) (o : Option Str), wf s t o → Of s t
  | .node a ps, o, h => by
    simp only [wf] at h
    obtain ⟨m, hm, e, _, h2⟩ := h
    intro b hb
    simp only [pre] at hb
    rcases List.mem_cons.mp hb with rfl | hb
    · exact List.mem_map.mpr ⟨m, hm, e⟩
    · exact wfs_of ps m.places h2 b hb
theorem wfs_of {s : List Mk} : ∀ (ts : List Tr) (qs : List Str), wfs s ts qs → ∀ b ∈ pres ts, b ∈ s.map (·.name)
  | [], _, _, b, hb => by cases hb
  | t :: ts, qs, h, b, hb => by
    simp only [wfs] at h
    obtain ⟨q, r, _, h1, h2⟩ := h
    simp only [pres] at hb
    rcases List.mem_append.mp hb with hb | hb
    · exact wf_of t _ h1 b hb
    · exact wfs_of ts r h2 b hb
end
theorem mkOf_mem {s : List Mk} (nd : (s.map (·.name)).Nodup) {m : Mk} (h : m ∈ s) : mkOf s m.name = some m := by
  rw [mkOf_num]; exact numOf_mem nd h
mutual
theorem isV_wf {s : List Mk} (nd : (s.map (·.name)).Nodup) : ∀ (t : Tr) (o : Option Str) (n : Nat), wf s t o → ht t < n → isV s n o (encT t) = true
  | .node a ps, o, n + 1, h, hn => by
    simp only [wf] at h
    obtain ⟨m, hm, rfl, ho, h2⟩ := h
    have e0 : encT (.node m.name ps) = .tuple (.str m.name :: encTs ps) := by simp only [encT]
    rw [e0]
    have b : isV s (n + 1) o (.tuple (.str m.name :: encTs ps)) = (match mkOf s m.name with
      | none => false
      | some q => (o.isNone || decide (o = some q.sort)) && decide (q.places.length = (encTs ps).length) && allV (fun p x => isV s n (some p) x) q.places (encTs ps)) := rfl
    rw [b, mkOf_mem nd hm]
    simp only [ht] at hn
    have hl := wfs_len h2
    have c1 : (o.isNone || decide (o = some m.sort)) = true := by
      rcases ho with rfl | rfl <;> simp
    simp only [c1, encTs_len, hl, decide_true, Bool.true_and]
    exact isVs_wf nd ps m.places n h2 (by omega)
theorem isVs_wf {s : List Mk} (nd : (s.map (·.name)).Nodup) : ∀ (ts : List Tr) (qs : List Str) (n : Nat), wfs s ts qs → hts ts ≤ n → allV (fun p x => isV s n (some p) x) qs (encTs ts) = true
  | [], qs, n, h, _ => by
    cases qs <;> rfl
  | t :: ts, qs, n, h, hn => by
    simp only [wfs] at h
    obtain ⟨q, r, rfl, h1, h2⟩ := h
    simp only [hts] at hn
    simp only [encTs, allV]
    rw [isV_wf nd t (some q) n h1 (by omega), isVs_wf nd ts r n h2 (by omega)]
    rfl
end
/-- a part at a path -/
structure Sub (t : Tr) (p : List Int) (u : Tr) : Prop where
  nms : ∀ a ∈ pre u, a ∈ pre t
  len : (pre u).length ≤ (pre t).length
  ht : p.length + ht u ≤ ht t
theorem nm_pre (t : Tr) : nm t ∈ pre t := by
  obtain ⟨a, ps⟩ := t
  simp [nm, pre]
theorem part_sub : ∀ (p : List Int) (t u : Tr), partOf p t = some u → Sub t p u
  | [], t, u, h => by
    cases h
    exact ⟨fun a h => h, Nat.le_refl _, by simp⟩
  | i :: p, .node a ps, u, h => by
    have h' : (match sonOf ps i with
      | some t => partOf p t
      | none => none) = some u := h
    cases hs : sonOf ps i with
    | none => rw [hs] at h'; cases h'
    | some t =>
      rw [hs] at h'
      obtain ⟨k, rfl, g⟩ := sonOf_some hs
      have ih := part_sub p t u h'
      refine ⟨fun b hb => ?_, ?_, ?_⟩
      · simp only [pre]; exact List.mem_cons_of_mem _ (pre_at g b (ih.nms b hb))
      · simp only [pre, List.length_cons]
        have := pre_len g
        have := ih.len
        omega
      · have h1 := hts_at g
        have := ih.ht
        simp only [List.length_cons, EvM.ht]
        omega
theorem Shl_mono : ∀ {n : Nat} {d : D}, Shl n d → Shl (n + 1) d
  | n + 1, .tuple xs, h => ⟨h.1, fun x hx => Shl_mono (h.2 x hx)⟩
  | _ + 1, .str x, h => h
  | _ + 1, .int _, h => trivial
  | _ + 1, .none, h => trivial
  | 0, d, h => by cases d <;> exact h.elim
  | _ + 1, .bool _, h => h.elim
  | _ + 1, .list _, h => h.elim
  | _ + 1, .dict _, h => h.elim
theorem Shl_le {n m : Nat} {d : D} (h : Shl n d) (hm : n ≤ m) : Shl m d := by
  obtain ⟨k, rfl⟩ := Nat.exists_eq_add_of_le hm
  clear hm
  induction k with
  | zero => exact h
  | succ k ih => exact Shl_mono ih
mutual
theorem Shl_tree : ∀ (t : Tr), (∀ a ∈ pre t, PyData.strOk a = true) → (pre t).length ≤ 99 → Shl (ht t + 2) (encT t)
  | .node a ps, h, hl => by
    simp only [pre, List.length_cons] at hl
    have hp := len_pres ps
    have e0 : encT (.node a ps) = .tuple (.str a :: encTs ps) := by simp only [encT]
    rw [e0]
    refine ⟨by simp [encTs_len]; omega, fun x hx => ?_⟩
    rcases List.mem_cons.mp hx with rfl | hx
    · exact h a (by simp [pre])
    · exact Shl_trees ps (fun b hb => h b (by simp only [pre]; exact List.mem_cons_of_mem _ hb)) (by omega) x hx
theorem Shl_trees : ∀ (ts : List Tr), (∀ a ∈ pres ts, PyData.strOk a = true) → (pres ts).length ≤ 99 → ∀ x ∈ encTs ts, Shl (hts ts + 1) x
  | [], _, _, x, hx => by cases hx
  | t :: ts, h, hl, x, hx => by
    simp only [pres, List.length_append] at hl
    simp only [encTs] at hx
    rcases List.mem_cons.mp hx with rfl | hx
    · exact Shl_le (Shl_tree t (fun b hb => h b (by simp only [pres]; exact List.mem_append.mpr (.inl hb))) (by omega)) (by simp only [hts]; omega)
    · exact Shl_le (Shl_trees ts (fun b hb => h b (by simp only [pres]; exact List.mem_append.mpr (.inr hb))) (by omega) x hx) (by simp only [hts]; omega)
end
theorem mem_set {L : List D} {i : Nat} {y x : D} (h : x ∈ L.set i y) : x ∈ L ∨ x = y := List.mem_or_eq_of_mem_set h
theorem Shl_put {M : Nat} {x : D} (hx : Shl M x) : ∀ (p : List Int) (t u : Tr), partOf p t = some u → (∀ a ∈ pre t, PyData.strOk a = true) → (pre t).length ≤ 99 → ht t + 2 ≤ M → Shl (p.length + M) (putT p t x)
  | [], t, u, _, _, _, _ => by simpa [putT] using hx
  | i :: p, .node a ps, u, h, ho, hl, hM => by
    have h' : (match sonOf ps i with
      | some t => partOf p t
      | none => none) = some u := h
    simp only [pre, List.length_cons] at hl
    have hp := len_pres ps
    simp only [ht] at hM
    cases hs : sonOf ps i with
    | none => rw [hs] at h'; cases h'
    | some t =>
      rw [hs] at h'
      obtain ⟨k, rfl, g⟩ := sonOf_some hs
      have hpl := pre_len g
      have hh := hts_at g
      have ih := Shl_put hx p t u h' (fun b hb => ho b (by simp only [pre]; exact List.mem_cons_of_mem _ (pre_at g b hb))) (by omega) (by omega)
      simp only [putT, hs, List.length_cons]
      rw [show p.length + 1 + M = (p.length + M) + 1 from by omega]
      refine ⟨by simp [encTs_len]; omega, fun y hy => ?_⟩
      rcases List.mem_cons.mp hy with rfl | hy
      · obtain ⟨q, hq⟩ : ∃ q, p.length + M = q + 1 := ⟨p.length + M - 1, by omega⟩
        rw [hq]
        exact ho a (by simp [pre])
      · rcases mem_set hy with hy | rfl
        · exact Shl_le (Shl_trees ps (fun b hb => ho b (by simp only [pre]; exact List.mem_cons_of_mem _ hb)) (by omega) y hy) (by omega)
        · exact ih
theorem okS_put {M : Nat} {x : D} (hx : okS M x = true) : ∀ (p : List Int) (t u : Tr), partOf p t = some u → (∀ a ∈ pre t, PyData.strOk a = true) → (pre t).length ≤ 1000 → ht t + 1 ≤ M → okS (p.length + M) (putT p t x) = true
  | [], t, u, _, _, _, _ => by simpa [putT] using hx
  | i :: p, .node a ps, u, h, ho, hl, hM => by
    have h' : (match sonOf ps i with
      | some t => partOf p t
      | none => none) = some u := h
    simp only [pre, List.length_cons] at hl
    have hp := len_pres ps
    simp only [ht] at hM
    cases hs : sonOf ps i with
    | none => rw [hs] at h'; cases h'
    | some t =>
      rw [hs] at h'
      obtain ⟨k, rfl, g⟩ := sonOf_some hs
      have hpl := pre_len g
      have hh := hts_at g
      have ih := okS_put hx p t u h' (fun b hb => ho b (by simp only [pre]; exact List.mem_cons_of_mem _ (pre_at g b hb))) (by omega) (by omega)
      simp only [putT, hs, List.length_cons]
      rw [show p.length + 1 + M = (p.length + M) + 1 from by omega]
      simp only [okS, Bool.and_eq_true, decide_eq_true_eq]
      refine ⟨by simp [encTs_len]; rw [sizeLine_eq]; omega, List.all_eq_true.mpr fun y hy => ?_⟩
      rcases List.mem_cons.mp hy with rfl | hy
      · have : okS (p.length + M) (.str a) = PyData.strOk a := by
          cases p.length + M <;> rfl
        rw [this]
        exact ho a (by simp [pre])
      · rcases mem_set hy with hy | rfl
        · exact okS_le (okS_trees ps (fun b hb => ho b (by simp only [pre]; exact List.mem_cons_of_mem _ hb)) (by omega) y hy) (by omega)
        · exact ih
theorem okS_path (p : List Int) (hp : p.length ≤ 1000) : okS 1 (encP p) = true := by
  simp only [encP, okS, Bool.and_eq_true, decide_eq_true_eq, List.length_map]
  refine ⟨by rw [sizeLine_eq]; omega, List.all_eq_true.mpr fun y hy => ?_⟩
  obtain ⟨i, _, rfl⟩ := List.mem_map.mp hy
  rfl
theorem okS_paths (L : List (List Int)) (h : ∀ p ∈ L, p.length ≤ 1000) (hl : L.length ≤ 1000) : okS 2 (.list (L.map encP)) = true := by
  simp only [okS, Bool.and_eq_true, decide_eq_true_eq, List.length_map]
  refine ⟨by rw [sizeLine_eq]; omega, List.all_eq_true.mpr fun y hy => ?_⟩
  obtain ⟨p, hp, rfl⟩ := List.mem_map.mp hy
  exact okS_path p (h p hp)
theorem okS_knots (N : Nat) (L : List (List Int × Tr)) (h : ∀ q ∈ L, q.1.length ≤ 1000 ∧ okS N (encT q.2) = true) (hN : 1 ≤ N) (hl : L.length ≤ 1000) : okS (N + 2) (.list (L.map encK)) = true := by
  simp only [okS, Bool.and_eq_true, decide_eq_true_eq, List.length_map]
  refine ⟨by rw [sizeLine_eq]; omega, List.all_eq_true.mpr fun y hy => ?_⟩
  obtain ⟨q, hq, rfl⟩ := List.mem_map.mp hy
  obtain ⟨h1, h2⟩ := h q hq
  have h3 := okS_le (okS_path q.1 h1) hN
  simp only [encK, okS, Bool.and_eq_true, decide_eq_true_eq, List.all_cons, List.all_nil, h2, h3]
  exact ⟨by rw [sizeLine_eq]; simp, trivial, trivial, trivial⟩
theorem allV_congr {f g : Str → D → Bool} : ∀ (ps : List Str) (xs : List D), (∀ p, ∀ x ∈ xs, f p x = g p x) → allV f ps xs = allV g ps xs
  | [], _, _ => by simp [allV]
  | _ :: _, [], _ => by simp [allV]
  | p :: ps, x :: xs, h => by
    simp only [allV]
    rw [h p x List.mem_cons_self, allV_congr ps xs fun q y hy => h q y (List.mem_cons_of_mem _ hy)]
theorem isV_fuel {s : List Mk} : ∀ (n : Nat) (d : D) (o : Option Str), Shl n d → isV s (n + 1) o d = isV s n o d
  | 0, d, o, h => by cases d <;> exact h.elim
  | n + 1, .tuple [], o, h => rfl
  | n + 1, .tuple (.str a :: xs), o, h => by
    have b1 : isV s (n + 2) o (.tuple (.str a :: xs)) = (match mkOf s a with
      | none => false
      | some q => (o.isNone || decide (o = some q.sort)) && decide (q.places.length = xs.length) && allV (fun p x => isV s (n + 1) (some p) x) q.places xs) := rfl
    have b2 : isV s (n + 1) o (.tuple (.str a :: xs)) = (match mkOf s a with
      | none => false
      | some q => (o.isNone || decide (o = some q.sort)) && decide (q.places.length = xs.length) && allV (fun p x => isV s n (some p) x) q.places xs) := rfl
    rw [b1, b2]
    cases mkOf s a with
    | none => rfl
    | some q =>
      simp only []
      rw [allV_congr q.places xs fun p x hx => isV_fuel n x (some p) (h.2 x (List.mem_cons_of_mem _ hx))]
  | n + 1, .tuple (.none :: xs), o, h => rfl
  | n + 1, .tuple (.bool _ :: xs), o, h => rfl
  | n + 1, .tuple (.int _ :: xs), o, h => rfl
  | n + 1, .tuple (.list _ :: xs), o, h => rfl
  | n + 1, .tuple (.tuple _ :: xs), o, h => rfl
  | n + 1, .tuple (.dict _ :: xs), o, h => rfl
  | n + 1, .none, o, h => rfl
  | n + 1, .bool _, o, h => rfl
  | n + 1, .int _, o, h => rfl
  | n + 1, .str _, o, h => rfl
  | n + 1, .list _, o, h => rfl
  | n + 1, .dict _, o, h => rfl
theorem is_tree_ok (n : Nat) (s : List Mk) (g : Good s) (gs : GoodS s) (d : D) (h : Shl n d) : call tab (n + 1) 1 [encS s, d] = some (.ok (.val (.bool (isV s n none d)), [])) := by
  have e := is_tree_of_ok s g gs n d h none (fun x hx => by cases hx)
  have e' : call tab n 0 [encS s, .none, d] = some (.ok (.val (.bool (isV s n none d)), [])) := e
  rw [call_at (d := d_is_tree) rfl]
  exact run_rt rfl (ss_1 (s_ret (v_call (bs := [false, false, false]) rfl (a_d (v_val rfl) (a_d (r := .val .none) rfl (a_d (v_val rfl) a_nil))) rfl ⟨(by simp [lentOf]), rfl, rfl⟩ e' rfl) rfl)) rfl
end EvM
end
section
set_option maxRecDepth 100000
set_option maxHeartbeats 4000000
/-! k01: the law's loops. -/
namespace EvM
open PySem Ev
abbrev O := Option Sl
abbrev Y (x0 x1 x2 x3 x4 x5 x6 x7 x8 x9 x10 x11 x12 x13 x14 x15 : O) : Ev.Env := [x0, x1, x2, x3, x4, x5, x6, x7, x8, x9, x10, x11, x12, x13, x14, x15]
/-- [path for path, part in knots] -/
theorem pths_in (n : Nat) (x0 x1 x2 x3 x4 x5 x6 x9 x10 x11 x12 x13 x14 x15 : O) : ∀ (L : List (List Int × Tr)) (x7 x8 : O), ∃ w7 w8, clp (Ev.compTurn (.tup [7, 8]) [7, 8] (evt (flagsOf tab) (call tab n) .yes) (ev (flagsOf tab) (call tab n) (.var 7))) (L.map encK) (Y x0 x1 x2 x3 x4 x5 x6 x7 x8 x9 x10 x11 x12 x13 x14 x15) = some (.ok (L.map (fun q => encP q.1), Y x0 x1 x2 x3 x4 x5 x6 w7 w8 x9 x10 x11 x12 x13 x14 x15))
  | [], x7, x8 => ⟨x7, x8, rfl⟩
  | q :: L, x7, x8 => by
    obtain ⟨w7, w8, e⟩ := pths_in n x0 x1 x2 x3 x4 x5 x6 x9 x10 x11 x12 x13 x14 x15 L (some (.val (encP q.1))) (some (.val (encT q.2)))
    exact ⟨w7, w8, l_cons (c_yes (ρ2 := Y x0 x1 x2 x3 x4 x5 x6 (some (.val (encP q.1))) (some (.val (encT q.2))) x9 x10 x11 x12 x13 x14 x15) rfl (v_val rfl)) e⟩
abbrev pthE : Ex := (.comp [7, 8] (.var 7) (.tup [7, 8]) (.seq (.var 6)) .yes)
theorem pths_val (n : Nat) (L : List (List Int × Tr)) (x0 x1 x2 x3 x4 x5 x7 x8 x9 x10 x11 x12 x13 x14 x15 : O) : ev (flagsOf tab) (call tab n) pthE (Y x0 x1 x2 x3 x4 x5 (some (.val (.list (L.map encK)))) x7 x8 x9 x10 x11 x12 x13 x14 x15) = some (.ok (.own false (.list (L.map fun q => encP q.1)), Y x0 x1 x2 x3 x4 x5 (some (.val (.list (L.map encK)))) x7 x8 x9 x10 x11 x12 x13 x14 x15)) := by
  obtain ⟨w7, w8, e⟩ := pths_in n x0 x1 x2 x3 x4 x5 (some (.val (.list (L.map encK)))) x9 x10 x11 x12 x13 x14 x15 L x7 x8
  exact e_comp (own := [7, 8]) (i_seq (v_val rfl) rfl) e
theorem pths_own (n : Nat) (L : List (List Int × Tr)) (x0 x1 x2 x3 x4 x5 x7 x8 x9 x10 x11 x12 x13 x14 x15 : O) : ev (flagsOf tab) (call tab n) pthE (Y x0 x1 x2 x3 x4 x5 (some (.own false (.list (L.map encK)))) x7 x8 x9 x10 x11 x12 x13 x14 x15) = some (.ok (.own false (.list (L.map fun q => encP q.1)), Y x0 x1 x2 x3 x4 x5 (some (.val (.list (L.map encK)))) x7 x8 x9 x10 x11 x12 x13 x14 x15)) := by
  obtain ⟨w7, w8, e⟩ := pths_in n x0 x1 x2 x3 x4 x5 (some (.val (.list (L.map encK)))) x9 x10 x11 x12 x13 x14 x15 L x7 x8
  exact e_comp (own := [7, 8]) (ρ' := Y x0 x1 x2 x3 x4 x5 (some (.val (.list (L.map encK)))) x7 x8 x9 x10 x11 x12 x13 x14 x15) (i_seq (v_own rfl) rfl) e
/-- for path, part in knots -/
abbrev bodyA : Sts := (.cons (.iff (.not (.tr (.call 9 (.cons (.call 25 (.cons (.var 5) (.cons (.var 7) .nil))) (.cons (.var 8) .nil))))) (.cons (.ret (.con (.bool false))) .nil) .nil) .nil)
theorem loopA (N : Nat) (hN : N < 57) (t : Tr) (x0 x1 x2 x3 x4 x6 x9 x10 x11 x12 x13 x14 x15 : O) : ∀ (L : List (List Int × Tr)), (∀ q ∈ L, partOf q.1 t = some q.2 ∧ okS N (encT q.2) = true) → ∀ (v7 v8 : Option D), ∃ w7 w8 : Option D,
    flp (turn (flagsOf tab) (call tab 59) (.tup [7, 8]) bodyA) (L.map encK) (Y x0 x1 x2 x3 x4 (some (.val (encT t))) x6 (v7.map Sl.val) (v8.map Sl.val) x9 x10 x11 x12 x13 x14 x15) = some (.ok (.nx (Y x0 x1 x2 x3 x4 (some (.val (encT t))) x6 (w7.map Sl.val) (w8.map Sl.val) x9 x10 x11 x12 x13 x14 x15)))
  | [], _, v7, v8 => ⟨v7, v8, rfl⟩
  | q :: L, h, v7, v8 => by
    obtain ⟨w7, w8, e⟩ := loopA N hN t x0 x1 x2 x3 x4 x6 x9 x10 x11 x12 x13 x14 x15 L (fun r hr => h r (List.mem_cons_of_mem _ hr)) (some (encP q.1)) (some (encT q.2))
    obtain ⟨h1, h2⟩ := h q List.mem_cons_self
    have hp := lpart_ok 57 q.1 t
    rw [h1] at hp
    refine ⟨w7, w8, ?_⟩
    obtain ⟨E, hE⟩ : ∃ E : Ev.Env, E = Y x0 x1 x2 x3 x4 (some (.val (encT t))) x6 (some (.val (encP q.1))) (some (.val (encT q.2))) x9 x10 x11 x12 x13 x14 x15 := ⟨_, rfl⟩
    have g5 : E[5]? = some (some (.val (encT t))) := by rw [hE]; rfl
    have g7 : E[7]? = some (some (.val (encP q.1))) := by rw [hE]; rfl
    have g8 : E[8]? = some (some (.val (encT q.2))) := by rw [hE]; rfl
    have v1 : ev (flagsOf tab) (call tab 59) (.call 25 (.cons (.var 5) (.cons (.var 7) .nil))) E = some (.ok (.val (encT q.2), E)) := v_call (bs := [false, false]) rfl (a_d (v_val g5) (a_d (v_val g7) a_nil)) rfl ⟨(by simp [lentOf]), rfl, rfl⟩ hp rfl
    have t1 := same_test 59 N (by omega) (encT q.2) h2 v1 (v_val g8) rfl rfl
    have st : turn (flagsOf tab) (call tab 59) (.tup [7, 8]) bodyA (encK q) (Y x0 x1 x2 x3 x4 (some (.val (encT t))) x6 (v7.map Sl.val) (v8.map Sl.val) x9 x10 x11 x12 x13 x14 x15) = some (.ok (.nx E)) := turn_ok (ρ2 := E) (by rw [hE]; cases v7 <;> cases v8 <;> rfl) (ss_one (s_if (k := false) t1 rfl))
    rw [List.map_cons, flp_step st, hE]
    exact e
/-- for wrong in .. -/
abbrev bodyB : Sts := (.cons (.iff (.tr (.cmp .isin (.var 13) pthE)) (.cons .cnt .nil) .nil) (.cons (.iff (.or (.not (.tr (.call 9 (.cons (.call 25 (.cons (.var 5) (.cons (.var 13) .nil))) (.cons (.lst (.cons (.con (.str "path")) (.cons (.var 13) (.cons (.con (.bool true)) (.cons (.con (.bool false)) .nil))))) .nil))))) (.not (.tr (.call 9 (.cons (.call 26 (.cons (.var 3) (.cons (.var 5) (.cons (.var 13) (.cons (.var 11) .nil))))) (.cons (.lst (.cons (.con (.str "path")) (.cons (.var 13) .nil))) .nil)))))) (.cons (.ret (.con (.bool false))) .nil) .nil) .nil))
theorem any_self {m : Nat} {d : D} {ds : List D} (h : okS m d = true) (hm : d ∈ ds) : (ds.any fun x => PyData.eqv x d) = true := List.any_eq_true.mpr ⟨d, hm, eqv_self h⟩
theorem loopB (s : List Mk) (g : Good s) (gs : GoodS s) (t v : Tr) (hl : (pre t).length ≤ 1000) (hh : ht t ≤ 50) (ho : Of s t) (hv : nm v ∈ s.map (·.name)) (x0 x1 x2 x4 x7 x8 x9 x10 x12 x14 x15 : O) : ∀ (ws : List (List Int)), (∀ w ∈ ws, w.length ≤ 50) → ∀ (v13 : Option D), ∃ w13 : Option D,
    flp (turn (flagsOf tab) (call tab 59) (.name 13) bodyB) (ws.map encP) (Y x0 x1 x2 (some (.val (encS s))) x4 (some (.val (encT t))) (some (.val (.list ((kn t).map encK)))) x7 x8 x9 x10 (some (.val (encT v))) x12 (v13.map Sl.val) x14 x15) = some (.ok (.nx (Y x0 x1 x2 (some (.val (encS s))) x4 (some (.val (encT t))) (some (.val (.list ((kn t).map encK)))) x7 x8 x9 x10 (some (.val (encT v))) x12 (w13.map Sl.val) x14 x15)))
  | [], _, v13 => ⟨v13, rfl⟩
  | w :: ws, h, v13 => by
    obtain ⟨w13, e⟩ := loopB s g gs t v hl hh ho hv x0 x1 x2 x4 x7 x8 x9 x10 x12 x14 x15 ws (fun r hr => h r (List.mem_cons_of_mem _ hr)) (some (encP w))
    have hw := h w List.mem_cons_self
    refine ⟨w13, ?_⟩
    obtain ⟨E, hE⟩ : ∃ E : Ev.Env, E = Y x0 x1 x2 (some (.val (encS s))) x4 (some (.val (encT t))) (some (.val (.list ((kn t).map encK)))) x7 x8 x9 x10 (some (.val (encT v))) x12 (some (.val (encP w))) x14 x15 := ⟨_, rfl⟩
    have tg : tgS (.name 13) (encP w) (Y x0 x1 x2 (some (.val (encS s))) x4 (some (.val (encT t))) (some (.val (.list ((kn t).map encK)))) x7 x8 x9 x10 (some (.val (encT v))) x12 (v13.map Sl.val) x14 x15) = some E := by rw [hE]; cases v13 <;> rfl
    have g3 : E[3]? = some (some (.val (encS s))) := by rw [hE]; rfl
    have g5 : E[5]? = some (some (.val (encT t))) := by rw [hE]; rfl
    have g11 : E[11]? = some (some (.val (encT v))) := by rw [hE]; rfl
    have g13 : E[13]? = some (some (.val (encP w))) := by rw [hE]; rfl
    have pv : ev (flagsOf tab) (call tab 59) pthE E = some (.ok (.own false (.list ((kn t).map fun q => encP q.1)), E)) := by
      rw [hE]; exact pths_val 59 (kn t) x0 x1 x2 (some (.val (encS s))) x4 (some (.val (encT t))) x7 x8 x9 x10 (some (.val (encT v))) x12 (some (.val (encP w))) x14 x15
    have ow : okS 2 (encP w) = true := okS_mono (okS_path w (by omega))
    have ol : okS 2 (.list ((kn t).map fun q => encP q.1)) = true := by
      have := okS_paths ((kn t).map (·.1)) (fun p hp => by
        obtain ⟨q, hq, rfl⟩ := List.mem_map.mp hp
        have := kn_path t q hq
        omega) (by rw [List.length_map, kn_len]; omega)
      rw [List.map_map] at this
      exact this
    have t1 : evt (flagsOf tab) (call tab 59) (.tr (.cmp .isin (.var 13) pthE)) E = some (.ok (((kn t).map fun q => encP q.1).any fun x => PyData.eqv x (encP w), E)) := t_cmp (o_val g13) (o_ex pv rfl) rfl rfl (in_self ow ol (by decide))
    rw [List.map_cons]
    by_cases z : (((kn t).map fun q => encP q.1).any fun x => PyData.eqv x (encP w)) = true
    · rw [z] at t1
      rw [flp_ct (turn_o (o := some (.ok (.ct E))) tg ?_), hE]
      · exact e
      · show bd (evS (flagsOf tab) (call tab 59) (.iff (.tr (.cmp .isin (.var 13) pthE)) (.cons .cnt .nil) .nil) E) _ = _
        rw [s_ifo (k := true) t1 (o := some (.ok (.ct E))) rfl]
        rfl
    · have z' : (((kn t).map fun q => encP q.1).any fun x => PyData.eqv x (encP w)) = false := by rwa [Bool.not_eq_true] at z
      rw [z'] at t1
      have hn : partOf w t = none := by
        cases hp : partOf w t with
        | none => rfl
        | some u =>
          exfalso
          have := part_kn w t u hp
          exact z (any_self ow (List.mem_map.mpr ⟨(w, u), this, rfl⟩))
      have hp := lpart_ok 57 w t
      rw [hn] at hp
      have hx := lexch_ok s g gs t v w 57 (by omega) hl (fun u hu => by rw [hn] at hu; cases hu) hv
      have hx2 : exchD s t w v = .own false (.list [.str "path", encP w]) := by
        unfold exchD; rw [hn]
      rw [hx2] at hx
      have v1 : ev (flagsOf tab) (call tab 59) (.call 25 (.cons (.var 5) (.cons (.var 13) .nil))) E = some (.ok (.own false (pathL w), E)) := v_call (bs := [false, false]) rfl (a_d (v_val g5) (a_d (v_val g13) a_nil)) rfl ⟨(by simp [lentOf]), rfl, rfl⟩ hp rfl
      have v2 : ev (flagsOf tab) (call tab 59) (.lst (.cons (.con (.str "path")) (.cons (.var 13) (.cons (.con (.bool true)) (.cons (.con (.bool false)) .nil))))) E = some (.ok (.own false (pathL w), E)) := v_lst (f_cons (r := .val (.str "path")) rfl (f_cons (v_val g13) (f_cons (r := .val (.bool true)) rfl (f_cons (r := .val (.bool false)) rfl f_nil)))) (by rw [sizeLine_eq]; simp)
      have op : okS 3 (pathL w) = true := by
        have : PyData.strOk (Str.ofString "path") = true := by decide +kernel
        simp only [pathL, okS, Bool.and_eq_true, decide_eq_true_eq, List.all_cons, List.all_nil, ow]
        exact ⟨by rw [sizeLine_eq]; simp, this, trivial, trivial, trivial, trivial⟩
      have t2 := same_test 59 3 (by decide) (pathL w) op v1 v2 rfl rfl
      have v3 : ev (flagsOf tab) (call tab 59) (.call 26 (.cons (.var 3) (.cons (.var 5) (.cons (.var 13) (.cons (.var 11) .nil))))) E = some (.ok (.own false (.list [.str "path", encP w]), E)) := v_call (bs := [false, false, false, false]) rfl (a_d (v_val g3) (a_d (v_val g5) (a_d (v_val g13) (a_d (v_val g11) a_nil)))) rfl ⟨(by simp [lentOf]), rfl, rfl⟩ hx rfl
      have v4 : ev (flagsOf tab) (call tab 59) (.lst (.cons (.con (.str "path")) (.cons (.var 13) .nil))) E = some (.ok (.own false (.list [.str "path", encP w]), E)) := v_lst (f_cons (r := .val (.str "path")) rfl (f_cons (v_val g13) f_nil)) (by rw [sizeLine_eq]; simp)
      have op2 : okS 3 (.list [.str "path", encP w]) = true := by
        have : PyData.strOk (Str.ofString "path") = true := by decide +kernel
        simp only [okS, Bool.and_eq_true, decide_eq_true_eq, List.all_cons, List.all_nil, ow]
        exact ⟨by rw [sizeLine_eq]; simp, this, trivial, trivial⟩
      have t3 := same_test 59 3 (by decide) (.list [.str "path", encP w]) op2 v3 v4 rfl rfl
      have st : turn (flagsOf tab) (call tab 59) (.name 13) bodyB (encP w) (Y x0 x1 x2 (some (.val (encS s))) x4 (some (.val (encT t))) (some (.val (.list ((kn t).map encK)))) x7 x8 x9 x10 (some (.val (encT v))) x12 (v13.map Sl.val) x14 x15) = some (.ok (.nx E)) := turn_ok tg (ss_step (s_if (k := false) t1 rfl) (ss_one (s_if (k := false) (t_orF t2 t3) rfl)))
      rw [flp_step st, hE]
      exact e
/-- for value in broken -/
abbrev bodyC : Sts := (.cons (.iff (.not (.tr (.call 9 (.cons (.call 1 (.cons (.var 3) (.cons (.var 15) .nil))) (.cons (.call 22 (.cons (.var 3) (.cons (.con .none) (.cons (.var 15) .nil)))) .nil))))) (.cons (.ret (.con (.bool false))) .nil) .nil) .nil)
theorem loopC (s : List Mk) (g : Good s) (gs : GoodS s) (x0 x1 x2 x4 x5 x6 x7 x8 x9 x10 x11 x12 x13 x14 : O) : ∀ (ds : List D), (∀ d ∈ ds, Shl 58 d) → ∀ (v15 : Option D), ∃ w15 : Option D,
    flp (turn (flagsOf tab) (call tab 59) (.name 15) bodyC) ds (Y x0 x1 x2 (some (.val (encS s))) x4 x5 x6 x7 x8 x9 x10 x11 x12 x13 x14 (v15.map Sl.val)) = some (.ok (.nx (Y x0 x1 x2 (some (.val (encS s))) x4 x5 x6 x7 x8 x9 x10 x11 x12 x13 x14 (w15.map Sl.val))))
  | [], _, v15 => ⟨v15, rfl⟩
  | d :: ds, h, v15 => by
    obtain ⟨w15, e⟩ := loopC s g gs x0 x1 x2 x4 x5 x6 x7 x8 x9 x10 x11 x12 x13 x14 ds (fun r hr => h r (List.mem_cons_of_mem _ hr)) (some d)
    have hd := h d List.mem_cons_self
    refine ⟨w15, ?_⟩
    obtain ⟨E, hE⟩ : ∃ E : Ev.Env, E = Y x0 x1 x2 (some (.val (encS s))) x4 x5 x6 x7 x8 x9 x10 x11 x12 x13 x14 (some (.val d)) := ⟨_, rfl⟩
    have tg : tgS (.name 15) d (Y x0 x1 x2 (some (.val (encS s))) x4 x5 x6 x7 x8 x9 x10 x11 x12 x13 x14 (v15.map Sl.val)) = some E := by rw [hE]; cases v15 <;> rfl
    have g3 : E[3]? = some (some (.val (encS s))) := by rw [hE]; rfl
    have g15 : E[15]? = some (some (.val d)) := by rw [hE]; rfl
    have h1 := is_tree_ok 58 s g gs d hd
    have h2 := lis_ok s g gs 59 d (Shl_mono hd) none (fun x hx => by cases hx)
    rw [isV_fuel 58 d none hd] at h2
    have h2' : call tab 59 22 [encS s, .none, d] = some (.ok (.val (.bool (isV s 58 none d)), [])) := h2
    have v1 : ev (flagsOf tab) (call tab 59) (.call 1 (.cons (.var 3) (.cons (.var 15) .nil))) E = some (.ok (.val (.bool (isV s 58 none d)), E)) := v_call (bs := [false, false]) rfl (a_d (v_val g3) (a_d (v_val g15) a_nil)) rfl ⟨(by simp [lentOf]), rfl, rfl⟩ h1 rfl
    have v2 : ev (flagsOf tab) (call tab 59) (.call 22 (.cons (.var 3) (.cons (.con .none) (.cons (.var 15) .nil)))) E = some (.ok (.val (.bool (isV s 58 none d)), E)) := v_call (bs := [false, false, false]) rfl (a_d (v_val g3) (a_d (r := .val .none) rfl (a_d (v_val g15) a_nil))) rfl ⟨(by simp [lentOf]), rfl, rfl⟩ h2' rfl
    have t1 := same_test 59 0 (by decide) (.bool (isV s 58 none d)) rfl v1 v2 rfl rfl
    have st : turn (flagsOf tab) (call tab 59) (.name 15) bodyC d (Y x0 x1 x2 (some (.val (encS s))) x4 x5 x6 x7 x8 x9 x10 x11 x12 x13 x14 (v15.map Sl.val)) = some (.ok (.nx E)) := turn_ok tg (ss_one (s_if (k := false) t1 rfl))
    rw [flp_step st, hE]
    exact e
end EvM
end
section
set_option maxRecDepth 100000
set_option maxHeartbeats 1500000
/-! k01: the law. -/
namespace EvM
open PySem Ev
local macro_rules | `(tactic| infer_instance) => `(tactic| repeat' (first
  | ((with_reducible apply X_d); first | with_reducible exact dv | with_reducible exact dw | rfl)
  | ((with_reducible apply G_set); repeat (first | with_reducible exact SetAt.zero | with_reducible apply SetAt.succ))
  | ((with_reducible apply G_o); first | ((with_reducible apply o_val); rfl) | ((with_reducible apply o_own); rfl) | ((with_reducible apply w_o); rfl) | with_reducible assumption)
  | ((with_reducible apply G_ev); first | with_reducible assumption | ((with_reducible apply v_val); rfl) | with_reducible exact w_con | ((with_reducible apply v_cmp)) | ((with_reducible apply v_bin)) | ((with_reducible apply w_idx)) | ((with_reducible apply w_call)) | ((with_reducible apply w_blt)) | ((with_reducible apply w_own); rfl) | ((with_reducible apply v_tup)) | ((with_reducible apply v_lst)) | ((with_reducible apply v_sl)) | with_reducible exact w_glo | with_reducible exact w_dct | ((with_reducible apply w_neg)) | ((with_reducible apply w_isn)) | ((with_reducible apply w_isb)) | ((with_reducible apply w_and)) | ((with_reducible apply w_or)) | ((with_reducible apply w_not)) | ((with_reducible apply w_ite)) | ((with_reducible apply w_chn)) | ((with_reducible apply v_isi)) | ((with_reducible apply v_mth)) | ((with_reducible apply w_mut); rfl) | ((with_reducible apply v_mxd)))
  | ((with_reducible apply G_rdo); first | with_reducible exact rdo_d | ((with_reducible apply rdo_sv); rfl) | ((with_reducible apply rdo_so); rfl) | with_reducible exact rdo_t)
  | ((with_reducible apply G_a); first | ((with_reducible apply w_ad); rfl) | ((with_reducible apply w_an); rfl) | ((with_reducible apply w_ai); rfl; rfl) | ((with_reducible apply w_at); rfl; rfl))
  | ((with_reducible apply G_rda); first | with_reducible exact r_nil | ((with_reducible apply r_cons)))
  | ((with_reducible apply G_f); first | with_reducible exact f_nil | ((with_reducible apply w_f)))
  | ((with_reducible apply G_os); first | with_reducible exact s_nil | ((with_reducible apply s_cons)))
  | ((with_reducible apply G_t); first | with_reducible assumption | ((with_reducible apply t_cmp)) | ((with_reducible apply t_not)) | ((with_reducible apply t_tr)) | ((with_reducible apply w_tand)) | ((with_reducible apply w_tor)) | ((with_reducible apply w_tite)) | with_reducible exact w_tyes)
  | ((with_reducible apply G_pick); first | ((with_reducible apply pk_T); first | with_reducible assumption | exact decide_eq_true (by with_reducible assumption) | exact ndT (by with_reducible assumption) | exact nnT (decide_eq_false (by with_reducible assumption)) | rfl | exact decide_eq_true (by omega) | exact ndT (by omega) | exact nnT (by first | rfl | with_reducible assumption | exact decide_eq_false (by first | with_reducible assumption | omega))) | ((with_reducible apply pk_F); first | with_reducible assumption | exact decide_eq_false (by with_reducible assumption) | exact ndF (by with_reducible assumption) | exact nnF (decide_eq_true (by with_reducible assumption)) | rfl | exact decide_eq_false (by omega) | exact ndF (by omega) | exact nnF (by first | rfl | with_reducible assumption | exact decide_eq_true (by first | with_reducible assumption | omega))))
  | ((with_reducible apply G_Ss); first | with_reducible assumption | ((with_reducible apply ss_1)) | ((with_reducible apply ss_any)) | with_reducible exact w_ss0)
  | ((with_reducible apply G_S); first | with_reducible assumption | ((with_reducible apply w_asg)) | ((with_reducible apply w_iff)) | ((with_reducible apply s_drop)) | ((with_reducible apply s_fro)) | ((with_reducible apply w_rv); rfl) | ((with_reducible apply w_ro); rfl) | ((with_reducible apply w_rx); rfl) | ((with_reducible apply w_asgT)) | with_reducible exact w_rN | with_reducible exact w_brk | with_reducible exact w_cnt | with_reducible exact w_pas | ((with_reducible apply w_sto)))
  | ((with_reducible apply G_cont); first | ((with_reducible apply c_nx)) | with_reducible exact c_rt | with_reducible exact c_bk | with_reducible exact c_ct | with_reducible exact c_er)
  | ((with_reducible apply X_free); first | rfl | exact free_map | exact free_mapf)
  | ((with_reducible apply G_lent); first | ((with_reducible apply l_0); rfl; rfl) | ((with_reducible apply l_1); rfl; rfl; rfl))
  | ((with_reducible apply G_back); first | ((with_reducible apply b_f); rfl) | ((with_reducible apply b_n); rfl; rfl) | ((with_reducible apply b_t); rfl; rfl) | ((with_reducible apply b_tt); rfl))
  | ((with_reducible apply G_call); with_reducible assumption)
  | ((with_reducible apply G_i); first | with_reducible assumption | ((with_reducible apply w_seq)) | ((with_reducible apply w_rng)) | ((with_reducible apply w_rng2)))
  | ((with_reducible apply G_x); first | with_reducible exact x_non | ((with_reducible apply w_som)))
  | ((with_reducible apply G_flp); with_reducible assumption)
  | ((with_reducible apply G_tg); first | ((with_reducible apply g_name)) | ((with_reducible apply g_tup)))
  | ((with_reducible apply G_sls); first | with_reducible exact g_nil | ((with_reducible apply g_cons)))
  | ((with_reducible apply X_bin); first | with_reducible assumption | ((with_reducible apply mod_pos); first | decide | with_reducible assumption) | ((with_reducible apply mul_r); decide) | ((with_reducible apply mul_l); decide) | ((with_reducible apply fdiv_pos); decide) | rfl | ((with_reducible apply add_tup); first | with_reducible assumption | (simp; done) | (simp; omega)) | ((with_reducible apply add_lst); first | with_reducible assumption | (simp; done) | (simp; omega)))
  | ((with_reducible apply X_cmp); first | with_reducible assumption | with_reducible exact eq_int _ _ | with_reducible exact ne_int _ _ | rfl)
  | ((with_reducible apply X_tru); first | with_reducible exact tru_b | with_reducible assumption | rfl)
  | ((with_reducible apply X_blt); first | with_reducible assumption | rfl)
  | ((with_reducible apply X_idx); first | with_reducible assumption | (apply idxL; rfl) | (apply idxT; rfl) | rfl)
  | ((with_reducible apply X_sl); first | with_reducible assumption | rfl)
  | ((with_reducible apply X_mth); first | with_reducible assumption | rfl)
  | ((with_reducible apply X_mut); first | with_reducible assumption | ((with_reducible apply mut_app); first | with_reducible assumption | (simp; omega)) | rfl)
  | ((with_reducible apply X_itm); first | with_reducible assumption | rfl)
  | ((with_reducible apply X_isi); first | with_reducible assumption | rfl)
  | ((with_reducible apply X_ty); rfl)
  | ((with_reducible apply X_get); rfl)
  | ((with_reducible apply X_set); first | with_reducible assumption | rfl)
  | ((with_reducible apply X_outs); rfl)
  | ((with_reducible apply X_own); rfl)
  | ((with_reducible apply G_sz); first | ((with_reducible apply sz); rfl) | with_reducible assumption)
  | ((with_reducible apply G_turn); ((with_reducible apply w_turn)))
  | ((with_reducible apply G_rngn); first | ((with_reducible apply rn_lit); rfl) | ((with_reducible apply rn_cast); first | with_reducible assumption | omega | (simp; omega)))
  | ((with_reducible apply G_bnd); ((with_reducible apply bnd) <;> omega))
  | ((with_reducible apply G_chn2); ((with_reducible apply w_chn2)))
  | ((with_reducible apply asP); with_reducible assumption)))

theorem wf_none {s : List Mk} {t : Tr} {o : Option Str} (h : wf s t o) : wf s t none := by
  cases t with
  | node a ps =>
    obtain ⟨m, h1, h2, _, h4⟩ := h
    exact ⟨m, h1, h2, .inl rfl, h4⟩
theorem idx_L (L : List D) (a : Int) (h : L ≠ []) (ha : 0 ≤ a) : ∃ x ∈ L, idxD (.tuple L) (.int (a % (L.length : Int))) = some x ∧ idxD (.list L) (.int (a % (L.length : Int))) = some x := by
  have hl : 0 < L.length := List.length_pos_iff.mpr h
  have h1 : 0 ≤ a % (L.length : Int) := Int.emod_nonneg _ (by omega)
  have h2 : a % (L.length : Int) < L.length := Int.emod_lt_of_pos _ (by omega)
  obtain ⟨k, hk⟩ : ∃ k : Nat, a % (L.length : Int) = k := ⟨(a % (L.length : Int)).toNat, by omega⟩
  rw [hk] at h2 ⊢
  have h3 : k < L.length := by omega
  refine ⟨L[k], List.getElem_mem h3, ?_, ?_⟩ <;> (show atD L (k : Int) = _; rw [atD_nat]; exact List.getElem?_eq_getElem h3)
theorem put_at (p : List Int) (t u : Tr) (h : partOf p t = some u) (hl : (pre t).length ≤ 1000) (hp : p.length ≤ 50) (x : D) : call tab 59 24 [encT t, encP p, x] = some (.ok (.val (putT p t x), [])) := put_ok p t u x 59 h (by omega) hl
theorem law_true (ns : List Int) (h : ns.length ≤ 63) : call tab 60 27 [.list (ns.map PyData.int)] = some (.ok (.val (.bool true), [])) := by
  obtain ⟨sh, hsl, hs1, e1⟩ := draws_ok (T := tab) (i := 11) (j := 10) rfl rfl 57 ns 0 4 720 (by decide) (by decide) (by decide)
  obtain ⟨a0, a1, a2, a3, rfl⟩ : ∃ a0 a1 a2 a3, sh = [a0, a1, a2, a3] := by
    match sh, hsl with
    | [a, b, c, d], _ => exact ⟨a, b, c, d, rfl⟩
  have ha0 := (hs1 a0 (by simp)).1
  have ha1 := (hs1 a1 (by simp)).1
  have ha2 := (hs1 a2 (by simp)).1
  have ha3 := (hs1 a3 (by simp)).1
  replace e1 : call tab 59 11 [encI ns, .int 0, .int 4, .int 720] = some (.ok (.own false (encI [a0, a1, a2, a3]), [])) := e1
  obtain ⟨q, hq1, hq2, e2⟩ := picks_ok (T := tab) (i := 13) (j := 11) (l := 10) rfl rfl rfl 56 ns 1 60 (by decide)
  have hq : nn q := fun y hy => (hq2 y hy).1
  replace e2 : call tab 59 13 [encI ns, .int 1, .int 60] = some (.ok (.own false (encI q), [])) := e2
  obtain ⟨σ, hσ0, hσ3, hσ⟩ : ∃ σ : Nat, 0 < σ ∧ σ ≤ 3 ∧ (1 + a0 % 3 : Int) = (σ : Int) := ⟨(1 + a0 % 3).toNat, by omega, by omega, by omega⟩
  obtain ⟨s, q1, hs, VV, hq1', e3⟩ := stock_ok 57 σ hσ0 hσ3 q hq
  rw [← hσ] at e3
  obtain ⟨L, hL, hL2, e4⟩ := sorts_ok s (srtL σ) VV 58 hs
  obtain ⟨p, hp1, hp2, e5⟩ := picks_ok (T := tab) (i := 13) (j := 11) (l := 10) rfl rfl rfl 56 ns 2 60 (by decide)
  have hp : nn p := fun y hy => (hp2 y hy).1
  replace e5 : call tab 59 13 [encI ns, .int 2, .int 60] = some (.ok (.own false (encI p), [])) := e5
  have hLn : L.map PyData.str ≠ [] := by simpa using hL
  obtain ⟨X, hX, i1, _⟩ := idx_L (L.map PyData.str) a1 hLn ha1
  obtain ⟨x, hx, rfl⟩ := List.mem_map.mp hX
  obtain ⟨t, p1, e6, dt, np1⟩ := stree_ok s (srtL σ) VV 56 4 20 (by decide) x p hp (hL2 x hx)
  replace e6 : call tab 59 21 [encI p, encS s, .str x, .int 4, .int 20] = some (.ok (.val (encT t), [encI p1])) := e6
  have tl : (pre t).length ≤ 31 := dt.len
  have th : ht t ≤ 4 := dt.ht
  have tw := wf_none dt.wf
  have to := wf_of t _ dt.wf
  have tok : ∀ a ∈ pre t, PyData.strOk a = true := fun a ha => (VV.g.name (to a ha)).2
  have e7 := lknots_ok 58 t (by omega) (by omega) (by omega)
  have e8 := is_tree_ok 58 s VV.g VV.gs (encT t) (Shl_le (Shl_tree t tok (by omega)) (by omega))
  rw [isV_wf VV.g.nd t none 58 tw (by omega)] at e8
  have e9 := paths_ok 58 t (by omega) (by omega) (by omega)
  have ntm : nm t ∈ s.map (·.name) := to _ (nm_pre t)
  have e10 : call tab 59 2 [encS s, encT t] = some (.ok (.val (.str (srtOf s (nm t))), [])) := by
    obtain ⟨xs, hxs⟩ := encT_nm t
    rw [hxs]; exact sort_ok 58 s VV.g (nm t) ntm xs
  have ls : ∀ u : Tr, nm u ∈ s.map (·.name) → call tab 59 17 [encS s, encT u] = some (.ok (.val (.str (srtOf s (nm u))), [])) := fun u hu => by
    obtain ⟨xs, hxs⟩ := encT_nm u
    rw [hxs]; exact lsort_ok 57 s VV.g (nm u) hu xs
  have e11 := ls t ntm
  have e12 := size3_ok 58 t (by omega)
  have e13 := depth_ok 58 t (by omega) (by omega)
  have e14 := ldepth_ok 58 t (by omega) (by omega)
  have l6 : bltD .len [.list ((kn t).map encK)] = some (.val (.int ((pre t).length : Int))) := by rw [len_lst, List.length_map, kn_len]
  have okp : okS 2 (.list ((kn t).map fun q => encP q.1)) = true := by
    have := okS_paths ((kn t).map (·.1)) (fun p hp => by
      obtain ⟨q, hq, rfl⟩ := List.mem_map.mp hp
      have := kn_path t q hq
      omega) (by rw [List.length_map, kn_len]; omega)
    rw [List.map_map] at this
    exact this
  have c1 := same_ok (T := tab) (i := 9) rfl 2 _ okp 59 (by decide)
  have ok3 : okS 1 (.list [.int ((pre t).length : Int), .int ((ht t + 1 : Nat) : Int), .str (srtOf s (nm t))]) = true := by
    simp only [okS, Bool.and_eq_true, decide_eq_true_eq, List.all_cons, List.all_nil, srt_okS VV.gs]
    exact ⟨by rw [sizeLine_eq]; simp, trivial, trivial, trivial, trivial⟩
  have c2 := same_ok (T := tab) (i := 9) rfl 1 _ ok3 59 (by decide)
  have oku : ∀ q ∈ kn t, partOf q.1 t = some q.2 ∧ okS 6 (encT q.2) = true := fun q hq => by
    have h1 := kn_part t q.1 q.2 hq
    have h2 := part_sub _ _ _ h1
    have h3 := h2.ht
    have h4 := h2.len
    exact ⟨h1, okS_le (okS_tree q.2 (fun a ha => tok a (h2.nms a ha)) (by omega)) (by omega)⟩
  obtain ⟨w7, w8, f1⟩ := loopA 6 (by decide) t (some (.val (encI ns))) (some (.own false (encI [a0, a1, a2, a3]))) (some (.own false (encI p1))) (some (.val (encS s))) (some (.val (.tuple (L.map PyData.str)))) (some (.val (.list ((kn t).map encK)))) none none none none none none none (kn t) oku none none
  obtain ⟨r, hr1, hr2, e15⟩ := picks_ok (T := tab) (i := 13) (j := 11) (l := 10) rfl rfl rfl 56 ns 3 60 (by decide)
  have hr : nn r := fun y hy => (hr2 y hy).1
  replace e15 : call tab 59 13 [encI ns, .int 3, .int 60] = some (.ok (.own false (encI r), [])) := e15
  have hkn : (kn t).map encK ≠ [] := by
    intro z
    have y := congrArg List.length z
    rw [List.length_map, kn_len] at y
    have y2 := List.length_pos_of_mem (nm_pre t)
    simp only [List.length_nil] at y
    omega
  obtain ⟨K, hK, _, i2⟩ := idx_L ((kn t).map encK) a2 hkn ha2
  rw [List.length_map, kn_len] at i2
  obtain ⟨⟨w, u⟩, hwu, rfl⟩ := List.mem_map.mp hK
  replace i2 : idxD (.list ((kn t).map encK)) (.int (a2 % ((pre t).length : Int))) = some (.tuple [encP w, encT u]) := i2
  have hpu := kn_part t w u hwu
  have su := part_sub _ _ _ hpu
  have uh := su.ht
  have ul := su.len
  have wl : w.length ≤ 4 := by omega
  have uok : ∀ a ∈ pre u, PyData.strOk a = true := fun a ha => tok a (su.nms a ha)
  obtain ⟨Z, hZ, i3, _⟩ := idx_L (L.map PyData.str) a3 hLn ha3
  obtain ⟨z, hz, rfl⟩ := List.mem_map.mp hZ
  obtain ⟨v, r1, e16, dv1, nr1⟩ := stree_ok s (srtL σ) VV 56 2 9 (by decide) z r hr (hL2 z hz)
  replace e16 : call tab 59 21 [encI r, encS s, .str z, .int 2, .int 9] = some (.ok (.val (encT v), [encI r1])) := e16
  have vl : (pre v).length ≤ 7 := dv1.len
  have vh : ht v ≤ 2 := dv1.ht
  have vo := wf_of v _ dv1.wf
  have vok : ∀ a ∈ pre v, PyData.strOk a = true := fun a ha => (VV.g.name (vo a ha)).2
  have num : nm u ∈ s.map (·.name) := to _ (su.nms _ (nm_pre u))
  have nvm : nm v ∈ s.map (·.name) := vo _ (nm_pre v)
  have e17 := ls u num
  have e18 := ls v nvm
  have q1 := eq_str (srt_okS VV.gs (nm u)) (srt_okS VV.gs (nm v))
  have e19 := lexch_ok s VV.g VV.gs t v w 57 (by omega) (by omega) (fun u' hu' => by rw [hpu] at hu'; cases hu'; exact num) nvm
  have okv : okS 3 (encT v) = true := okS_le (okS_tree v vok (by omega)) (by omega)
  have pa := put_at w t u hpu (by omega) (by omega)
  have e20 := pa (encT v)
  have okk : okS 8 (.list ((kn t).map encK)) = true := okS_knots 6 (kn t) (fun q hq => ⟨by have := kn_path t q hq; omega, (oku q hq).2⟩) (by decide) (by rw [kn_len]; omega)
  have n1 := ne_self okk (by decide)
  obtain ⟨xs, hu⟩ := encT_nm u
  have lu : bltD .len [encT u] = some (.val (.int ((xs.length : Int) + 1))) := by
    rw [hu, len_tup]; rfl
  have xl : xs.length ≤ 31 := by
    cases u with
    | node a ps =>
      have y : xs = encTs ps := by
        have y : PyData.tuple (.str a :: encTs ps) = .tuple (.str (nm (.node a ps)) :: xs) := hu
        have y2 := PyData.tuple.inj y
        exact ((List.cons.inj y2).2).symm
      rw [y, encTs_len]
      have := len_pres ps
      have : (pres ps).length < (pre (.node a ps)).length := by simp [pre]
      omega
  have b1 : binD .add (encT u) (.tuple [encT v]) = some (.val (.tuple (.str (nm u) :: xs ++ [encT v]))) := by rw [hu]; exact add_tup (by simp; omega)
  have b2 : slD (encT u) none (some (-1)) = some (.val (.tuple (cutD (.str (nm u) :: xs) none (some (-1))))) := by rw [hu]; rfl
  have b3 : slD (encT u) (some 1) none = some (.val (.tuple xs)) := by
    rw [hu]
    show some (Sl.val (.tuple (cutD _ _ _))) = _
    rw [cut_tail]
  have b4 : binD .add (.tuple [.str "zz"]) (.tuple xs) = some (.val (.tuple (.str "zz" :: xs))) := add_tup (by simp; omega)
  have b5 : binD .add (.tuple [.int a0]) (.tuple xs) = some (.val (.tuple (.int a0 :: xs))) := add_tup (by simp; omega)
  have pq : ∀ i : Int, binD .add (encP w) (.tuple [.int i]) = some (.val (encP (w ++ [i]))) := fun i => by
    unfold encP
    rw [add_tup (by simp; omega), List.map_append]; rfl
  have p3 := pq 3
  have p0 := pq 0
  have pl := pq ((xs.length : Int) + 1)
  have hxu : ∀ y ∈ xs, Shl 10 y := by
    have : Shl 11 (encT u) := Shl_le (Shl_tree u uok (by omega)) (by omega)
    rw [hu] at this
    exact fun y hy => this.2 y (List.mem_cons_of_mem _ hy)
  have hsu : Shl 10 (.str (nm u)) := uok _ (nm_pre u)
  have hsv : Shl 10 (encT v) := Shl_le (Shl_tree v vok (by omega)) (by omega)
  have mk : ∀ ys : List D, ys.length ≤ 50 → (∀ y ∈ ys, Shl 10 y) → Shl 11 (.tuple ys) := fun ys h1 h2 => ⟨by omega, h2⟩
  have P : ∀ X, Shl 11 X → Shl 58 (putT w t X) := fun X hX => Shl_le (Shl_put hX w t u hpu tok (by omega) (by omega)) (by omega)
  have hus : ∀ y ∈ (PyData.str (nm u) :: xs), Shl 10 y := fun y hy => by
    rcases List.mem_cons.mp hy with rfl | hy
    · exact hsu
    · exact hxu y hy
  have sds : ∀ d ∈ ([putT w t (.tuple (.str (nm u) :: xs ++ [encT v])), putT w t (.tuple (cutD (.str (nm u) :: xs) none (some (-1)))), putT w t (.tuple (.str "zz" :: xs)), putT w t (encT v), putT w t (.tuple (.int a0 :: xs)), putT w t (.str "e0"), putT w t (.tuple []), putT w t .none] : List D), Shl 58 d := by
    intro d hd
    simp only [List.mem_cons, List.not_mem_nil, or_false] at hd
    rcases hd with rfl | rfl | rfl | rfl | rfl | rfl | rfl | rfl <;> apply P
    · refine mk _ (by simp; omega) fun y hy => ?_
      rcases List.mem_append.mp hy with hy | hy
      · exact hus y hy
      · rw [List.mem_singleton.mp hy]; exact hsv
    · refine mk _ ?_ fun y hy => hus y (List.mem_of_mem_drop (List.mem_of_mem_take hy))
      unfold cutD
      rw [List.length_take, List.length_drop]
      simp only [List.length_cons]
      omega
    · refine mk _ (by simp; omega) fun y hy => ?_
      rcases List.mem_cons.mp hy with rfl | hy
      · show PyData.strOk _ = true
        decide +kernel
      · exact hxu y hy
    · exact Shl_le hsv (by omega)
    · refine mk _ (by simp; omega) fun y hy => ?_
      rcases List.mem_cons.mp hy with rfl | hy
      · trivial
      · exact hxu y hy
    · show PyData.strOk _ = true
      decide +kernel
    · exact mk [] (by simp) (by simp)
    · trivial
  have x1 := pa (.tuple (.str (nm u) :: xs ++ [encT v]))
  have x2 := pa (.tuple (cutD (.str (nm u) :: xs) none (some (-1))))
  have x3 := pa (.tuple (.str "zz" :: xs))
  have x4 := pa (.tuple (.int a0 :: xs))
  have x5 := pa (.str "e0")
  have x6 := pa (.tuple [])
  have x7 := pa .none
  have tail : ∀ X12 : O, ∃ w13 w15 : Option D,
     flp (turn (flagsOf tab) (call tab 59) (.name 13) bodyB) [encP (w ++ [3]), encP (w ++ [0]), encP (w ++ [(xs.length : Int) + 1]), .tuple [.int (0 - 1)], .tuple [.int 1, .int 2, .int 1, .int 2, .int 1, .int 2]] (Y (some (.val (encI ns))) (some (.own false (encI [a0, a1, a2, a3]))) (some (.own false (encI r1))) (some (.val (encS s))) (some (.val (.tuple (L.map PyData.str)))) (some (.val (encT t))) (some (.val (.list ((kn t).map encK)))) (w7.map Sl.val) (w8.map Sl.val) (some (.val (encP w))) (some (.val (encT u))) (some (.val (encT v))) X12 none none none) = some (.ok (.nx (Y (some (.val (encI ns))) (some (.own false (encI [a0, a1, a2, a3]))) (some (.own false (encI r1))) (some (.val (encS s))) (some (.val (.tuple (L.map PyData.str)))) (some (.val (encT t))) (some (.val (.list ((kn t).map encK)))) (w7.map Sl.val) (w8.map Sl.val) (some (.val (encP w))) (some (.val (encT u))) (some (.val (encT v))) X12 (w13.map Sl.val) none none))) ∧
     flp (turn (flagsOf tab) (call tab 59) (.name 15) bodyC) [putT w t (.tuple (.str (nm u) :: xs ++ [encT v])), putT w t (.tuple (cutD (.str (nm u) :: xs) none (some (-1)))), putT w t (.tuple (.str "zz" :: xs)), putT w t (encT v), putT w t (.tuple (.int a0 :: xs)), putT w t (.str "e0"), putT w t (.tuple []), putT w t .none] (Y (some (.val (encI ns))) (some (.own false (encI [a0, a1, a2, a3]))) (some (.own false (encI r1))) (some (.val (encS s))) (some (.val (.tuple (L.map PyData.str)))) (some (.val (encT t))) (some (.val (.list ((kn t).map encK)))) (w7.map Sl.val) (w8.map Sl.val) (some (.val (encP w))) (some (.val (encT u))) (some (.val (encT v))) X12 (w13.map Sl.val) (some (.val (.list ([putT w t (.tuple (.str (nm u) :: xs ++ [encT v])), putT w t (.tuple (cutD (.str (nm u) :: xs) none (some (-1)))), putT w t (.tuple (.str "zz" :: xs)), putT w t (encT v), putT w t (.tuple (.int a0 :: xs)), putT w t (.str "e0"), putT w t (.tuple []), putT w t .none])))) none) = some (.ok (.nx (Y (some (.val (encI ns))) (some (.own false (encI [a0, a1, a2, a3]))) (some (.own false (encI r1))) (some (.val (encS s))) (some (.val (.tuple (L.map PyData.str)))) (some (.val (encT t))) (some (.val (.list ((kn t).map encK)))) (w7.map Sl.val) (w8.map Sl.val) (some (.val (encP w))) (some (.val (encT u))) (some (.val (encT v))) X12 (w13.map Sl.val) (some (.val (.list ([putT w t (.tuple (.str (nm u) :: xs ++ [encT v])), putT w t (.tuple (cutD (.str (nm u) :: xs) none (some (-1)))), putT w t (.tuple (.str "zz" :: xs)), putT w t (encT v), putT w t (.tuple (.int a0 :: xs)), putT w t (.str "e0"), putT w t (.tuple []), putT w t .none])))) (w15.map Sl.val)))) := fun X12 => by
    obtain ⟨w13, g1⟩ := loopB s VV.g VV.gs t v (by omega) (by omega) to nvm (some (.val (encI ns))) (some (.own false (encI [a0, a1, a2, a3]))) (some (.own false (encI r1))) (some (.val (.tuple (L.map PyData.str)))) (w7.map Sl.val) (w8.map Sl.val) (some (.val (encP w))) (some (.val (encT u))) X12 none none [w ++ [3], w ++ [0], w ++ [(xs.length : Int) + 1], [0 - 1], [1, 2, 1, 2, 1, 2]] (by
      intro y hy
      simp only [List.mem_cons, List.not_mem_nil, or_false] at hy
      rcases hy with rfl | rfl | rfl | rfl | rfl <;> simp <;> omega) none
    obtain ⟨w15, g2⟩ := loopC s VV.g VV.gs (some (.val (encI ns))) (some (.own false (encI [a0, a1, a2, a3]))) (some (.own false (encI r1))) (some (.val (.tuple (L.map PyData.str)))) (some (.val (encT t))) (some (.val (.list ((kn t).map encK)))) (w7.map Sl.val) (w8.map Sl.val) (some (.val (encP w))) (some (.val (encT u))) (some (.val (encT v))) X12 (w13.map Sl.val) (some (.val (.list ([putT w t (.tuple (.str (nm u) :: xs ++ [encT v])), putT w t (.tuple (cutD (.str (nm u) :: xs) none (some (-1)))), putT w t (.tuple (.str "zz" :: xs)), putT w t (encT v), putT w t (.tuple (.int a0 :: xs)), putT w t (.str "e0"), putT w t (.tuple []), putT w t .none])))) [putT w t (.tuple (.str (nm u) :: xs ++ [encT v])), putT w t (.tuple (cutD (.str (nm u) :: xs) none (some (-1)))), putT w t (.tuple (.str "zz" :: xs)), putT w t (encT v), putT w t (.tuple (.int a0 :: xs)), putT w t (.str "e0"), putT w t (.tuple []), putT w t .none] sds none
    exact ⟨w13, w15, g1, g2⟩
  have pv := pths_own 59 (kn t) (some (.val (encI ns))) (some (.own false (encI [a0, a1, a2, a3]))) (some (.own false (encI p1))) (some (.val (encS s))) (some (.val (.tuple (L.map PyData.str)))) (some (.val (encT t))) none none none none none none none none none
  have f1' : flp (turn (flagsOf tab) (call tab 59) (.tup [7, 8]) bodyA) ((kn t).map encK) (Y (some (.val (encI ns))) (some (.own false (encI [a0, a1, a2, a3]))) (some (.own false (encI p1))) (some (.val (encS s))) (some (.val (.tuple (L.map PyData.str)))) (some (.val (encT t))) (some (.val (.list ((kn t).map encK)))) none none none none none none none none none) = _ := f1
  have lL : bltD .len [.tuple (L.map PyData.str)] = some (.val (.int (L.map PyData.str).length)) := rfl
  have stp : PyData.strOk (Str.ofString "sorts") = true := by decide +kernel
  have mp1 : (0 : Int) < ((L.map PyData.str).length : Int) := by have := List.length_pos_iff.mpr hLn; omega
  have mp2 : (0 : Int) < ((pre t).length : Int) := by have := List.length_pos_of_mem (nm_pre t); omega
  have a8 : binD .add (.list [putT w t (.tuple (.str (nm u) :: xs ++ [encT v])), putT w t (.tuple (cutD (.str (nm u) :: xs) none (some (-1)))), putT w t (.tuple (.str "zz" :: xs)), putT w t (encT v)]) (.list [putT w t (.tuple (.int a0 :: xs)), putT w t (.str "e0"), putT w t (.tuple []), putT w t .none]) = some (.own false (.list [putT w t (.tuple (.str (nm u) :: xs ++ [encT v])), putT w t (.tuple (cutD (.str (nm u) :: xs) none (some (-1)))), putT w t (.tuple (.str "zz" :: xs)), putT w t (encT v), putT w t (.tuple (.int a0 :: xs)), putT w t (.str "e0"), putT w t (.tuple []), putT w t .none])) := add_lst (by simp)
  clear oku hkn hus hxu sds mk P pa pq ls hs1 hq2 hp2 hr2
  by_cases hAB : srtOf s (nm u) = srtOf s (nm v)
  · have e19' : call tab 59 26 [encS s, encT t, encP w, encT v] = some (.ok (.val (putT w t (encT v)), [])) := by
      rw [e19]; unfold exchD; rw [hpu]; simp only [hAB, if_true]
    have okq : okS (w.length + 5) (putT w t (encT v)) = true := okS_put (okS_le okv (by omega)) w t u hpu tok (by omega) (by omega)
    have c3 := same_ok (T := tab) (i := 9) rfl _ _ okq 59 (by omega)
    obtain ⟨w13, w15, g1, g2⟩ := tail (some (.val (putT w t (encT v))))
    refine go_law (x0 := encI ns) ?_
    apply ro_rt
    infer_instance
  · have e19' : call tab 59 26 [encS s, encT t, encP w, encT v] = some (.ok (.own false (.list [.str "sorts", .bool false]), [])) := by
      rw [e19]; unfold exchD; rw [hpu]; simp only [hAB, if_false]
    have okq : okS 1 (.list [.str "sorts", .bool false]) = true := by
      simp only [okS, Bool.and_eq_true, decide_eq_true_eq, List.all_cons, List.all_nil, stp]
      exact ⟨by rw [sizeLine_eq]; simp, trivial, trivial, trivial⟩
    have c3 := same_ok (T := tab) (i := 9) rfl _ _ okq 59 (by decide)
    obtain ⟨w13, w15, g1, g2⟩ := tail (some (.val (.list [.str "sorts", .bool false])))
    refine go_law (x0 := encI ns) ?_
    apply ro_rt
    infer_instance
end EvM
end
section
set_option maxRecDepth 100000
set_option maxHeartbeats 0
/-! The head of the claim: written by wip/gen.py. -/
namespace EvH
open PySem PySem.Spec PyProof.Rows L2 Ev EvM
def top (i : Nat) : Stmt := PySem.Challenge.pw_treestold_k01_trees_and_parts.main.body.getD i (.Pass ⟨0, 0, 0, 0⟩)
def N_is_tree_of : List Str := ["stock", "sort", "value", "name", "own", "places", "place"]
theorem c_is_tree_of : chkDef N_is_tree_of 3 FN d_is_tree_of (defBody (top 5)) (defScope (top 5)) = true := by decide +kernel
theorem s_is_tree_of : FnScope N_is_tree_of ["stock", "sort", "value"] (defScope (top 5)) := ⟨rfl, rfl, rfl, by decide +kernel, rfl, by decide +kernel, by decide +kernel⟩
def e_is_tree_of : He.DefD := ⟨("is_tree_of", none), "is_tree_of", "is_tree_of", defArgs (top 5), defBody (top 5), defScope (top 5), [], []⟩
def N_is_tree : List Str := ["stock", "value"]
theorem c_is_tree : chkDef N_is_tree 2 FN d_is_tree (defBody (top 6)) (defScope (top 6)) = true := by decide +kernel
theorem s_is_tree : FnScope N_is_tree ["stock", "value"] (defScope (top 6)) := ⟨rfl, rfl, rfl, by decide +kernel, rfl, by decide +kernel, by decide +kernel⟩
def e_is_tree : He.DefD := ⟨("is_tree", none), "is_tree", "is_tree", defArgs (top 6), defBody (top 6), defScope (top 6), [], []⟩
def N_sort_of : List Str := ["stock", "tree", "name", "sort", "places"]
theorem c_sort_of : chkDef N_sort_of 2 FN d_sort_of (defBody (top 7)) (defScope (top 7)) = true := by decide +kernel
theorem s_sort_of : FnScope N_sort_of ["stock", "tree"] (defScope (top 7)) := ⟨rfl, rfl, rfl, by decide +kernel, rfl, by decide +kernel, by decide +kernel⟩
def e_sort_of : He.DefD := ⟨("sort_of", none), "sort_of", "sort_of", defArgs (top 7), defBody (top 7), defScope (top 7), [], []⟩
def N_size : List Str := ["tree", "part"]
theorem c_size : chkDef N_size 1 FN d_size (defBody (top 8)) (defScope (top 8)) = true := by decide +kernel
theorem s_size : FnScope N_size ["tree"] (defScope (top 8)) := ⟨rfl, rfl, rfl, by decide +kernel, rfl, by decide +kernel, by decide +kernel⟩
def e_size : He.DefD := ⟨("size", none), "size", "size", defArgs (top 8), defBody (top 8), defScope (top 8), [], []⟩
def N_depth : List Str := ["tree", "part"]
theorem c_depth : chkDef N_depth 1 FN d_depth (defBody (top 9)) (defScope (top 9)) = true := by decide +kernel
theorem s_depth : FnScope N_depth ["tree"] (defScope (top 9)) := ⟨rfl, rfl, rfl, by decide +kernel, rfl, by decide +kernel, by decide +kernel⟩
def e_depth : He.DefD := ⟨("depth", none), "depth", "depth", defArgs (top 9), defBody (top 9), defScope (top 9), [], []⟩
def N_paths : List Str := ["tree", "found", "place", "path"]
theorem c_paths : chkDef N_paths 1 FN d_paths (defBody (top 10)) (defScope (top 10)) = true := by decide +kernel
theorem s_paths : FnScope N_paths ["tree"] (defScope (top 10)) := ⟨rfl, rfl, rfl, by decide +kernel, rfl, by decide +kernel, by decide +kernel⟩
def e_paths : He.DefD := ⟨("paths", none), "paths", "paths", defArgs (top 10), defBody (top 10), defScope (top 10), [], []⟩
def N_part_at : List Str := ["tree", "path", "part", "place"]
theorem c_part_at : chkDef N_part_at 2 FN d_part_at (defBody (top 11)) (defScope (top 11)) = true := by decide +kernel
theorem s_part_at : FnScope N_part_at ["tree", "path"] (defScope (top 11)) := ⟨rfl, rfl, rfl, by decide +kernel, rfl, by decide +kernel, by decide +kernel⟩
def e_part_at : He.DefD := ⟨("part_at", none), "part_at", "part_at", defArgs (top 11), defBody (top 11), defScope (top 11), [], []⟩
def N_with_part : List Str := ["stock", "tree", "path", "part", "old"]
theorem c_with_part : chkDef N_with_part 4 FN d_with_part (defBody (top 12)) (defScope (top 12)) = true := by decide +kernel
theorem s_with_part : FnScope N_with_part ["stock", "tree", "path", "part"] (defScope (top 12)) := ⟨rfl, rfl, rfl, by decide +kernel, rfl, by decide +kernel, by decide +kernel⟩
def e_with_part : He.DefD := ⟨("with_part", none), "with_part", "with_part", defArgs (top 12), defBody (top 12), defScope (top 12), [], []⟩
def N_exchanged_part : List Str := ["tree", "path", "part", "place"]
theorem c_exchanged_part : chkDef N_exchanged_part 3 FN d_exchanged_part (defBody (top 13)) (defScope (top 13)) = true := by decide +kernel
theorem s_exchanged_part : FnScope N_exchanged_part ["tree", "path", "part"] (defScope (top 13)) := ⟨rfl, rfl, rfl, by decide +kernel, rfl, by decide +kernel, by decide +kernel⟩
def e_exchanged_part : He.DefD := ⟨("exchanged_part", none), "exchanged_part", "exchanged_part", defArgs (top 13), defBody (top 13), defScope (top 13), [], []⟩
def N_law_same : List Str := ["tells", "due", "k"]
theorem c_law_same : chkDef N_law_same 2 FN d_law_same (defBody (top 15)) (defScope (top 15)) = true := by decide +kernel
theorem s_law_same : FnScope N_law_same ["tells", "due"] (defScope (top 15)) := ⟨rfl, rfl, rfl, by decide +kernel, rfl, by decide +kernel, by decide +kernel⟩
def e_law_same : He.DefD := ⟨("_law_same", none), "_law_same", "_law_same", defArgs (top 15), defBody (top 15), defScope (top 15), [], []⟩
def N_law_number : List Str := ["script", "k", "number"]
theorem c_law_number : chkDef N_law_number 2 FN d_law_number (defBody (top 16)) (defScope (top 16)) = true := by decide +kernel
theorem s_law_number : FnScope N_law_number ["script", "k"] (defScope (top 16)) := ⟨rfl, rfl, rfl, by decide +kernel, rfl, by decide +kernel, by decide +kernel⟩
def e_law_number : He.DefD := ⟨("_law_number", none), "_law_number", "_law_number", defArgs (top 16), defBody (top 16), defScope (top 16), [], []⟩
def N_law_draws : List Str := ["script", "k", "count", "many", "number", "found", "at", "state", "another"]
theorem c_law_draws : chkDef N_law_draws 4 FN d_law_draws (defBody (top 17)) (defScope (top 17)) = true := by decide +kernel
theorem s_law_draws : FnScope N_law_draws ["script", "k", "count", "many"] (defScope (top 17)) := ⟨rfl, rfl, rfl, by decide +kernel, rfl, by decide +kernel, by decide +kernel⟩
def e_law_draws : He.DefD := ⟨("_law_draws", none), "_law_draws", "_law_draws", defArgs (top 17), defBody (top 17), defScope (top 17), [], []⟩
def N_law_pick : List Str := ["picks"]
theorem c_law_pick : chkDef N_law_pick 1 FN d_law_pick (defBody (top 18)) (defScope (top 18)) = true := by decide +kernel
theorem s_law_pick : FnScope N_law_pick ["picks"] (defScope (top 18)) := ⟨rfl, rfl, rfl, by decide +kernel, rfl, by decide +kernel, by decide +kernel⟩
def e_law_pick : He.DefD := ⟨("_law_pick", none), "_law_pick", "_law_pick", defArgs (top 18), defBody (top 18), defScope (top 18), [], []⟩
def N_law_picks : List Str := ["script", "k", "count", "picks"]
theorem c_law_picks : chkDef N_law_picks 3 FN d_law_picks (defBody (top 19)) (defScope (top 19)) = true := by decide +kernel
theorem s_law_picks : FnScope N_law_picks ["script", "k", "count"] (defScope (top 19)) := ⟨rfl, rfl, rfl, by decide +kernel, rfl, by decide +kernel, by decide +kernel⟩
def e_law_picks : He.DefD := ⟨("_law_picks", none), "_law_picks", "_law_picks", defArgs (top 19), defBody (top 19), defScope (top 19), [], []⟩
def N_law_sorts : List Str := ["stock", "maker"]
theorem c_law_sorts : chkDef N_law_sorts 1 FN d_law_sorts (defBody (top 20)) (defScope (top 20)) = true := by decide +kernel
theorem s_law_sorts : FnScope N_law_sorts ["stock"] (defScope (top 20)) := ⟨rfl, rfl, rfl, by decide +kernel, rfl, by decide +kernel, by decide +kernel⟩
def e_law_sorts : He.DefD := ⟨("_law_sorts", none), "_law_sorts", "_law_sorts", defArgs (top 20), defBody (top 20), defScope (top 20), [], []⟩
def N_law_stock : List Str := ["picks", "sorts", "more", "names", "leaves", "j", "others", "places", "k"]
theorem c_law_stock : chkDef N_law_stock 3 FN d_law_stock (defBody (top 21)) (defScope (top 21)) = true := by decide +kernel
theorem s_law_stock : FnScope N_law_stock ["picks", "sorts", "more"] (defScope (top 21)) := ⟨rfl, rfl, rfl, by decide +kernel, rfl, by decide +kernel, by decide +kernel⟩
def e_law_stock : He.DefD := ⟨("_law_stock", none), "_law_stock", "_law_stock", defArgs (top 21), defBody (top 21), defScope (top 21), [], []⟩
def N_law_maker : List Str := ["stock", "name", "j"]
theorem c_law_maker : chkDef N_law_maker 2 FN d_law_maker (defBody (top 22)) (defScope (top 22)) = true := by decide +kernel
theorem s_law_maker : FnScope N_law_maker ["stock", "name"] (defScope (top 22)) := ⟨rfl, rfl, rfl, by decide +kernel, rfl, by decide +kernel, by decide +kernel⟩
def e_law_maker : He.DefD := ⟨("_law_maker", none), "_law_maker", "_law_maker", defArgs (top 22), defBody (top 22), defScope (top 22), [], []⟩
def N_law_sort : List Str := ["stock", "tree"]
theorem c_law_sort : chkDef N_law_sort 2 FN d_law_sort (defBody (top 23)) (defScope (top 23)) = true := by decide +kernel
theorem s_law_sort : FnScope N_law_sort ["stock", "tree"] (defScope (top 23)) := ⟨rfl, rfl, rfl, by decide +kernel, rfl, by decide +kernel, by decide +kernel⟩
def e_law_sort : He.DefD := ⟨("_law_sort", none), "_law_sort", "_law_sort", defArgs (top 23), defBody (top 23), defScope (top 23), [], []⟩
def N_law_knots : List Str := ["tree", "found", "at", "path", "part"]
theorem c_law_knots : chkDef N_law_knots 1 FN d_law_knots (defBody (top 24)) (defScope (top 24)) = true := by decide +kernel
theorem s_law_knots : FnScope N_law_knots ["tree"] (defScope (top 24)) := ⟨rfl, rfl, rfl, by decide +kernel, rfl, by decide +kernel, by decide +kernel⟩
def e_law_knots : He.DefD := ⟨("_law_knots", none), "_law_knots", "_law_knots", defArgs (top 24), defBody (top 24), defScope (top 24), [], []⟩
def N_law_size : List Str := ["tree", "part"]
theorem c_law_size : chkDef N_law_size 1 FN d_law_size (defBody (top 25)) (defScope (top 25)) = true := by decide +kernel
theorem s_law_size : FnScope N_law_size ["tree"] (defScope (top 25)) := ⟨rfl, rfl, rfl, by decide +kernel, rfl, by decide +kernel, by decide +kernel⟩
def e_law_size : He.DefD := ⟨("_law_size", none), "_law_size", "_law_size", defArgs (top 25), defBody (top 25), defScope (top 25), [], []⟩
def N_law_tree : List Str := ["picks", "stock", "sort", "deep", "makers", "maker", "place"]
theorem c_law_tree : chkDef N_law_tree 4 FN d_law_tree (defBody (top 26)) (defScope (top 26)) = true := by decide +kernel
theorem s_law_tree : FnScope N_law_tree ["picks", "stock", "sort", "deep"] (defScope (top 26)) := ⟨rfl, rfl, rfl, by decide +kernel, rfl, by decide +kernel, by decide +kernel⟩
def e_law_tree : He.DefD := ⟨("_law_tree", none), "_law_tree", "_law_tree", defArgs (top 26), defBody (top 26), defScope (top 26), [], []⟩
def N_law_small_tree : List Str := ["picks", "stock", "sort", "deep", "most", "tree"]
theorem c_law_small_tree : chkDef N_law_small_tree 5 FN d_law_small_tree (defBody (top 27)) (defScope (top 27)) = true := by decide +kernel
theorem s_law_small_tree : FnScope N_law_small_tree ["picks", "stock", "sort", "deep", "most"] (defScope (top 27)) := ⟨rfl, rfl, rfl, by decide +kernel, rfl, by decide +kernel, by decide +kernel⟩
def e_law_small_tree : He.DefD := ⟨("_law_small_tree", none), "_law_small_tree", "_law_small_tree", defArgs (top 27), defBody (top 27), defScope (top 27), [], []⟩
def N_law_is_tree : List Str := ["stock", "sort", "value", "found", "maker", "parts", "at"]
theorem c_law_is_tree : chkDef N_law_is_tree 3 FN d_law_is_tree (defBody (top 28)) (defScope (top 28)) = true := by decide +kernel
theorem s_law_is_tree : FnScope N_law_is_tree ["stock", "sort", "value"] (defScope (top 28)) := ⟨rfl, rfl, rfl, by decide +kernel, rfl, by decide +kernel, by decide +kernel⟩
def e_law_is_tree : He.DefD := ⟨("_law_is_tree", none), "_law_is_tree", "_law_is_tree", defArgs (top 28), defBody (top 28), defScope (top 28), [], []⟩
def N_law_depth : List Str := ["tree", "part"]
theorem c_law_depth : chkDef N_law_depth 1 FN d_law_depth (defBody (top 29)) (defScope (top 29)) = true := by decide +kernel
theorem s_law_depth : FnScope N_law_depth ["tree"] (defScope (top 29)) := ⟨rfl, rfl, rfl, by decide +kernel, rfl, by decide +kernel, by decide +kernel⟩
def e_law_depth : He.DefD := ⟨("_law_depth", none), "_law_depth", "_law_depth", defArgs (top 29), defBody (top 29), defScope (top 29), [], []⟩
def N_law_put : List Str := ["tree", "path", "part", "at"]
theorem c_law_put : chkDef N_law_put 3 FN d_law_put (defBody (top 30)) (defScope (top 30)) = true := by decide +kernel
theorem s_law_put : FnScope N_law_put ["tree", "path", "part"] (defScope (top 30)) := ⟨rfl, rfl, rfl, by decide +kernel, rfl, by decide +kernel, by decide +kernel⟩
def e_law_put : He.DefD := ⟨("_law_put", none), "_law_put", "_law_put", defArgs (top 30), defBody (top 30), defScope (top 30), [], []⟩
def N_law_part : List Str := ["tree", "path", "error"]
theorem c_law_part : chkDef N_law_part 2 FN d_law_part (defBody (top 31)) (defScope (top 31)) = true := by decide +kernel
theorem s_law_part : FnScope N_law_part ["tree", "path"] (defScope (top 31)) := ⟨rfl, rfl, rfl, by decide +kernel, rfl, by decide +kernel, by decide +kernel⟩
def e_law_part : He.DefD := ⟨("_law_part", none), "_law_part", "_law_part", defArgs (top 31), defBody (top 31), defScope (top 31), [], []⟩
def N_law_exchanged : List Str := ["stock", "tree", "path", "part", "error"]
theorem c_law_exchanged : chkDef N_law_exchanged 4 FN d_law_exchanged (defBody (top 32)) (defScope (top 32)) = true := by decide +kernel
theorem s_law_exchanged : FnScope N_law_exchanged ["stock", "tree", "path", "part"] (defScope (top 32)) := ⟨rfl, rfl, rfl, by decide +kernel, rfl, by decide +kernel, by decide +kernel⟩
def e_law_exchanged : He.DefD := ⟨("_law_exchanged", none), "_law_exchanged", "_law_exchanged", defArgs (top 32), defBody (top 32), defScope (top 32), [], []⟩
def N_law : List Str := ["script", "shape", "picks", "stock", "sorts", "tree", "knots", "path", "part", "at", "old", "new", "due", "wrong", "broken", "value"]
theorem c_law : chkDef N_law 1 FN d_law (defBody (top 33)) (defScope (top 33)) = true := by decide +kernel
theorem s_law : FnScope N_law ["script"] (defScope (top 33)) := ⟨rfl, rfl, rfl, by decide +kernel, rfl, by decide +kernel, by decide +kernel⟩
def e_law : He.DefD := ⟨("law", none), "law", "law", defArgs (top 33), defBody (top 33), defScope (top 33), [], []⟩
def fn : List He.DefD := [e_is_tree_of, e_is_tree, e_sort_of, e_size, e_depth, e_paths, e_part_at, e_with_part, e_exchanged_part, e_law_same, e_law_number, e_law_draws, e_law_pick, e_law_picks, e_law_sorts, e_law_stock, e_law_maker, e_law_sort, e_law_knots, e_law_size, e_law_tree, e_law_small_tree, e_law_is_tree, e_law_depth, e_law_put, e_law_part, e_law_exchanged, e_law]
def gl : List Str := ["is_tree_of", "is_tree", "sort_of", "size", "depth", "paths", "part_at", "with_part", "exchanged_part", "_law_same", "_law_number", "_law_draws", "_law_pick", "_law_picks", "_law_sorts", "_law_stock", "_law_maker", "_law_sort", "_law_knots", "_law_size", "_law_tree", "_law_small_tree", "_law_is_tree", "_law_depth", "_law_put", "_law_part", "_law_exchanged", "law"]
abbrev PP : Program := (PySem.Challenge.rw_treestold_k01_trees_and_parts).prog
def meth (i j : Nat) : Stmt := (cbody (top i)).getD j (.Pass ⟨0, 0, 0, 0⟩)
def ini_BadPath : IniD := ⟨"BadPath", ["path"], "self", "__init__", "BadPath.__init__", defArgs (meth 2 0), defBody (meth 2 0), defScope (meth 2 0)⟩
theorem is_BadPath : IniS PP ini_BadPath := ⟨NdefX.nscope_by (by decide +kernel), by decide +kernel, by decide +kernel, by decide +kernel, by decide, by decide, by decide +kernel, by decide +kernel, fun kV doc pm ct an cdv cc us hl => match us, hl with | [_, _], _ => rfl⟩
def inis : List IniD := [ini_BadPath]
theorem inis_ok : ∀ d ∈ inis, IniS PP d := List.forall_mem_cons.mpr ⟨is_BadPath, (fun d hd => by cases hd)⟩
theorem inis_all : ∀ c ∈ FN.cl, c.flds ≠ [] → ∃ d ∈ inis, d.cls = c.name ∧ d.flds = c.flds := by decide +kernel
def ex (K : PySem.W.Frag) : Bool := tabB PP FN.cl inis K && true
def cs : List He.Fa := []
def fa : List He.Fa := (gl.map He.Fa.glo ++ bltNames.map He.Fa.free) ++ cs
abbrev R : PySem.W.OpenRow := PySem.W.OpenLaw.row PySem.Challenge.rw_treestold_k01_trees_and_parts
abbrev hk : PySem.W.Hook := hookV 4 fa fn inis ex
def ob (s : PySem.W.SharedT) : AlV := obsV 4 fa fn inis ex (HandSHeadRun.getT s)
theorem ob_eq (s : PySem.W.SharedT) : ob s = hk.obs s.abs := obsV_eq (HandSHeadRun.getT_eq s)
abbrev Says (K : PySem.W.Frag) : Prop := SaysV fa fn inis ex K
def nm0 : List PySem.Str := ["TreeError", "BadPath", "UnlikeSorts", "is_tree_of", "is_tree", "sort_of", "size", "depth", "paths", "part_at", "with_part", "exchanged_part", "_law_same", "_law_number", "_law_draws", "_law_pick", "_law_picks", "_law_sorts", "_law_stock", "_law_maker", "_law_sort", "_law_knots", "_law_size", "_law_tree", "_law_small_tree", "_law_is_tree", "_law_depth", "_law_put", "_law_part", "_law_exchanged"]
def names : List PySem.Str := nm0
theorem run (w : World) : HandSHeadRun.RunEq R (PySem.W.view R.prog [33]) hk ob 3000 names w := by
  intro os
  kernel_rfl
section
variable {w : World} {K : PySem.W.Frag} {h : Heap} {mg : Str → Option Value} {f : Addr}
theorem fact_mem (c : He.SaysD fa fn K) {q : He.Fa} (hm : q ∈ fa) : q.ok K = true := by
  obtain ⟨i, hi⟩ := List.getElem?_of_mem hm
  exact c.fact i hi
theorem frees (X : K.In h) (G : h.Ns mainGlobals mg) (c : He.SaysD fa fn K) : ∀ b ∈ bltNames, mg b = none := fun b hb => He.free_ok X G (fact_mem c (List.mem_append_left _ (List.mem_append_right _ (List.mem_map.mpr ⟨b, hb, rfl⟩))))
theorem globs (X : K.In h) (G : h.Ns mainGlobals mg) (c : He.SaysD fa fn K) (x : Str) (hx : x ∈ gl) : mg x = some (.ref (He.ga K x)) := He.glo_ok X G (fact_mem c (List.mem_append_left _ (List.mem_append_left _ (List.mem_map.mpr ⟨x, hx, rfl⟩))))
theorem o_is_tree_of (X : K.In h) (G : h.Ns mainGlobals mg) (c : He.SaysD fa fn K) : DefOk K mg FN d_is_tree_of "is_tree_of" := by
  obtain ⟨fd, F⟩ := c.def_ 0 (d := e_is_tree_of) rfl
  exact ⟨_, fd, ["stock", "sort", "value"], N_is_tree_of, 3, _, _, _, _, _, globs X G c _ (by decide +kernel), FunD.bindsN F (fun _ _ _ _ _ _ us hl => match us, hl with | [_, _, _], _ => rfl), F, s_is_tree_of, rfl, c_is_tree_of⟩
theorem o_is_tree (X : K.In h) (G : h.Ns mainGlobals mg) (c : He.SaysD fa fn K) : DefOk K mg FN d_is_tree "is_tree" := by
  obtain ⟨fd, F⟩ := c.def_ 1 (d := e_is_tree) rfl
  exact ⟨_, fd, ["stock", "value"], N_is_tree, 2, _, _, _, _, _, globs X G c _ (by decide +kernel), FunD.bindsN F (fun _ _ _ _ _ _ us hl => match us, hl with | [_, _], _ => rfl), F, s_is_tree, rfl, c_is_tree⟩
theorem o_sort_of (X : K.In h) (G : h.Ns mainGlobals mg) (c : He.SaysD fa fn K) : DefOk K mg FN d_sort_of "sort_of" := by
  obtain ⟨fd, F⟩ := c.def_ 2 (d := e_sort_of) rfl
  exact ⟨_, fd, ["stock", "tree"], N_sort_of, 2, _, _, _, _, _, globs X G c _ (by decide +kernel), FunD.bindsN F (fun _ _ _ _ _ _ us hl => match us, hl with | [_, _], _ => rfl), F, s_sort_of, rfl, c_sort_of⟩
theorem o_size (X : K.In h) (G : h.Ns mainGlobals mg) (c : He.SaysD fa fn K) : DefOk K mg FN d_size "size" := by
  obtain ⟨fd, F⟩ := c.def_ 3 (d := e_size) rfl
  exact ⟨_, fd, ["tree"], N_size, 1, _, _, _, _, _, globs X G c _ (by decide +kernel), FunD.bindsN F (fun _ _ _ _ _ _ us hl => match us, hl with | [_], _ => rfl), F, s_size, rfl, c_size⟩
theorem o_depth (X : K.In h) (G : h.Ns mainGlobals mg) (c : He.SaysD fa fn K) : DefOk K mg FN d_depth "depth" := by
  obtain ⟨fd, F⟩ := c.def_ 4 (d := e_depth) rfl
  exact ⟨_, fd, ["tree"], N_depth, 1, _, _, _, _, _, globs X G c _ (by decide +kernel), FunD.bindsN F (fun _ _ _ _ _ _ us hl => match us, hl with | [_], _ => rfl), F, s_depth, rfl, c_depth⟩
theorem o_paths (X : K.In h) (G : h.Ns mainGlobals mg) (c : He.SaysD fa fn K) : DefOk K mg FN d_paths "paths" := by
  obtain ⟨fd, F⟩ := c.def_ 5 (d := e_paths) rfl
  exact ⟨_, fd, ["tree"], N_paths, 1, _, _, _, _, _, globs X G c _ (by decide +kernel), FunD.bindsN F (fun _ _ _ _ _ _ us hl => match us, hl with | [_], _ => rfl), F, s_paths, rfl, c_paths⟩
theorem o_part_at (X : K.In h) (G : h.Ns mainGlobals mg) (c : He.SaysD fa fn K) : DefOk K mg FN d_part_at "part_at" := by
  obtain ⟨fd, F⟩ := c.def_ 6 (d := e_part_at) rfl
  exact ⟨_, fd, ["tree", "path"], N_part_at, 2, _, _, _, _, _, globs X G c _ (by decide +kernel), FunD.bindsN F (fun _ _ _ _ _ _ us hl => match us, hl with | [_, _], _ => rfl), F, s_part_at, rfl, c_part_at⟩
theorem o_with_part (X : K.In h) (G : h.Ns mainGlobals mg) (c : He.SaysD fa fn K) : DefOk K mg FN d_with_part "with_part" := by
  obtain ⟨fd, F⟩ := c.def_ 7 (d := e_with_part) rfl
  exact ⟨_, fd, ["stock", "tree", "path", "part"], N_with_part, 4, _, _, _, _, _, globs X G c _ (by decide +kernel), FunD.bindsN F (fun _ _ _ _ _ _ us hl => match us, hl with | [_, _, _, _], _ => rfl), F, s_with_part, rfl, c_with_part⟩
theorem o_exchanged_part (X : K.In h) (G : h.Ns mainGlobals mg) (c : He.SaysD fa fn K) : DefOk K mg FN d_exchanged_part "exchanged_part" := by
  obtain ⟨fd, F⟩ := c.def_ 8 (d := e_exchanged_part) rfl
  exact ⟨_, fd, ["tree", "path", "part"], N_exchanged_part, 3, _, _, _, _, _, globs X G c _ (by decide +kernel), FunD.bindsN F (fun _ _ _ _ _ _ us hl => match us, hl with | [_, _, _], _ => rfl), F, s_exchanged_part, rfl, c_exchanged_part⟩
theorem o_law_same (X : K.In h) (G : h.Ns mainGlobals mg) (c : He.SaysD fa fn K) : DefOk K mg FN d_law_same "_law_same" := by
  obtain ⟨fd, F⟩ := c.def_ 9 (d := e_law_same) rfl
  exact ⟨_, fd, ["tells", "due"], N_law_same, 2, _, _, _, _, _, globs X G c _ (by decide +kernel), FunD.bindsN F (fun _ _ _ _ _ _ us hl => match us, hl with | [_, _], _ => rfl), F, s_law_same, rfl, c_law_same⟩
theorem o_law_number (X : K.In h) (G : h.Ns mainGlobals mg) (c : He.SaysD fa fn K) : DefOk K mg FN d_law_number "_law_number" := by
  obtain ⟨fd, F⟩ := c.def_ 10 (d := e_law_number) rfl
  exact ⟨_, fd, ["script", "k"], N_law_number, 2, _, _, _, _, _, globs X G c _ (by decide +kernel), FunD.bindsN F (fun _ _ _ _ _ _ us hl => match us, hl with | [_, _], _ => rfl), F, s_law_number, rfl, c_law_number⟩
theorem o_law_draws (X : K.In h) (G : h.Ns mainGlobals mg) (c : He.SaysD fa fn K) : DefOk K mg FN d_law_draws "_law_draws" := by
  obtain ⟨fd, F⟩ := c.def_ 11 (d := e_law_draws) rfl
  exact ⟨_, fd, ["script", "k", "count", "many"], N_law_draws, 4, _, _, _, _, _, globs X G c _ (by decide +kernel), FunD.bindsN F (fun _ _ _ _ _ _ us hl => match us, hl with | [_, _, _, _], _ => rfl), F, s_law_draws, rfl, c_law_draws⟩
theorem o_law_pick (X : K.In h) (G : h.Ns mainGlobals mg) (c : He.SaysD fa fn K) : DefOk K mg FN d_law_pick "_law_pick" := by
  obtain ⟨fd, F⟩ := c.def_ 12 (d := e_law_pick) rfl
  exact ⟨_, fd, ["picks"], N_law_pick, 1, _, _, _, _, _, globs X G c _ (by decide +kernel), FunD.bindsN F (fun _ _ _ _ _ _ us hl => match us, hl with | [_], _ => rfl), F, s_law_pick, rfl, c_law_pick⟩
theorem o_law_picks (X : K.In h) (G : h.Ns mainGlobals mg) (c : He.SaysD fa fn K) : DefOk K mg FN d_law_picks "_law_picks" := by
  obtain ⟨fd, F⟩ := c.def_ 13 (d := e_law_picks) rfl
  exact ⟨_, fd, ["script", "k", "count"], N_law_picks, 3, _, _, _, _, _, globs X G c _ (by decide +kernel), FunD.bindsN F (fun _ _ _ _ _ _ us hl => match us, hl with | [_, _, _], _ => rfl), F, s_law_picks, rfl, c_law_picks⟩
theorem o_law_sorts (X : K.In h) (G : h.Ns mainGlobals mg) (c : He.SaysD fa fn K) : DefOk K mg FN d_law_sorts "_law_sorts" := by
  obtain ⟨fd, F⟩ := c.def_ 14 (d := e_law_sorts) rfl
  exact ⟨_, fd, ["stock"], N_law_sorts, 1, _, _, _, _, _, globs X G c _ (by decide +kernel), FunD.bindsN F (fun _ _ _ _ _ _ us hl => match us, hl with | [_], _ => rfl), F, s_law_sorts, rfl, c_law_sorts⟩
theorem o_law_stock (X : K.In h) (G : h.Ns mainGlobals mg) (c : He.SaysD fa fn K) : DefOk K mg FN d_law_stock "_law_stock" := by
  obtain ⟨fd, F⟩ := c.def_ 15 (d := e_law_stock) rfl
  exact ⟨_, fd, ["picks", "sorts", "more"], N_law_stock, 3, _, _, _, _, _, globs X G c _ (by decide +kernel), FunD.bindsN F (fun _ _ _ _ _ _ us hl => match us, hl with | [_, _, _], _ => rfl), F, s_law_stock, rfl, c_law_stock⟩
theorem o_law_maker (X : K.In h) (G : h.Ns mainGlobals mg) (c : He.SaysD fa fn K) : DefOk K mg FN d_law_maker "_law_maker" := by
  obtain ⟨fd, F⟩ := c.def_ 16 (d := e_law_maker) rfl
  exact ⟨_, fd, ["stock", "name"], N_law_maker, 2, _, _, _, _, _, globs X G c _ (by decide +kernel), FunD.bindsN F (fun _ _ _ _ _ _ us hl => match us, hl with | [_, _], _ => rfl), F, s_law_maker, rfl, c_law_maker⟩
theorem o_law_sort (X : K.In h) (G : h.Ns mainGlobals mg) (c : He.SaysD fa fn K) : DefOk K mg FN d_law_sort "_law_sort" := by
  obtain ⟨fd, F⟩ := c.def_ 17 (d := e_law_sort) rfl
  exact ⟨_, fd, ["stock", "tree"], N_law_sort, 2, _, _, _, _, _, globs X G c _ (by decide +kernel), FunD.bindsN F (fun _ _ _ _ _ _ us hl => match us, hl with | [_, _], _ => rfl), F, s_law_sort, rfl, c_law_sort⟩
theorem o_law_knots (X : K.In h) (G : h.Ns mainGlobals mg) (c : He.SaysD fa fn K) : DefOk K mg FN d_law_knots "_law_knots" := by
  obtain ⟨fd, F⟩ := c.def_ 18 (d := e_law_knots) rfl
  exact ⟨_, fd, ["tree"], N_law_knots, 1, _, _, _, _, _, globs X G c _ (by decide +kernel), FunD.bindsN F (fun _ _ _ _ _ _ us hl => match us, hl with | [_], _ => rfl), F, s_law_knots, rfl, c_law_knots⟩
theorem o_law_size (X : K.In h) (G : h.Ns mainGlobals mg) (c : He.SaysD fa fn K) : DefOk K mg FN d_law_size "_law_size" := by
  obtain ⟨fd, F⟩ := c.def_ 19 (d := e_law_size) rfl
  exact ⟨_, fd, ["tree"], N_law_size, 1, _, _, _, _, _, globs X G c _ (by decide +kernel), FunD.bindsN F (fun _ _ _ _ _ _ us hl => match us, hl with | [_], _ => rfl), F, s_law_size, rfl, c_law_size⟩
theorem o_law_tree (X : K.In h) (G : h.Ns mainGlobals mg) (c : He.SaysD fa fn K) : DefOk K mg FN d_law_tree "_law_tree" := by
  obtain ⟨fd, F⟩ := c.def_ 20 (d := e_law_tree) rfl
  exact ⟨_, fd, ["picks", "stock", "sort", "deep"], N_law_tree, 4, _, _, _, _, _, globs X G c _ (by decide +kernel), FunD.bindsN F (fun _ _ _ _ _ _ us hl => match us, hl with | [_, _, _, _], _ => rfl), F, s_law_tree, rfl, c_law_tree⟩
theorem o_law_small_tree (X : K.In h) (G : h.Ns mainGlobals mg) (c : He.SaysD fa fn K) : DefOk K mg FN d_law_small_tree "_law_small_tree" := by
  obtain ⟨fd, F⟩ := c.def_ 21 (d := e_law_small_tree) rfl
  exact ⟨_, fd, ["picks", "stock", "sort", "deep", "most"], N_law_small_tree, 5, _, _, _, _, _, globs X G c _ (by decide +kernel), FunD.bindsN F (fun _ _ _ _ _ _ us hl => match us, hl with | [_, _, _, _, _], _ => rfl), F, s_law_small_tree, rfl, c_law_small_tree⟩
theorem o_law_is_tree (X : K.In h) (G : h.Ns mainGlobals mg) (c : He.SaysD fa fn K) : DefOk K mg FN d_law_is_tree "_law_is_tree" := by
  obtain ⟨fd, F⟩ := c.def_ 22 (d := e_law_is_tree) rfl
  exact ⟨_, fd, ["stock", "sort", "value"], N_law_is_tree, 3, _, _, _, _, _, globs X G c _ (by decide +kernel), FunD.bindsN F (fun _ _ _ _ _ _ us hl => match us, hl with | [_, _, _], _ => rfl), F, s_law_is_tree, rfl, c_law_is_tree⟩
theorem o_law_depth (X : K.In h) (G : h.Ns mainGlobals mg) (c : He.SaysD fa fn K) : DefOk K mg FN d_law_depth "_law_depth" := by
  obtain ⟨fd, F⟩ := c.def_ 23 (d := e_law_depth) rfl
  exact ⟨_, fd, ["tree"], N_law_depth, 1, _, _, _, _, _, globs X G c _ (by decide +kernel), FunD.bindsN F (fun _ _ _ _ _ _ us hl => match us, hl with | [_], _ => rfl), F, s_law_depth, rfl, c_law_depth⟩
theorem o_law_put (X : K.In h) (G : h.Ns mainGlobals mg) (c : He.SaysD fa fn K) : DefOk K mg FN d_law_put "_law_put" := by
  obtain ⟨fd, F⟩ := c.def_ 24 (d := e_law_put) rfl
  exact ⟨_, fd, ["tree", "path", "part"], N_law_put, 3, _, _, _, _, _, globs X G c _ (by decide +kernel), FunD.bindsN F (fun _ _ _ _ _ _ us hl => match us, hl with | [_, _, _], _ => rfl), F, s_law_put, rfl, c_law_put⟩
theorem o_law_part (X : K.In h) (G : h.Ns mainGlobals mg) (c : He.SaysD fa fn K) : DefOk K mg FN d_law_part "_law_part" := by
  obtain ⟨fd, F⟩ := c.def_ 25 (d := e_law_part) rfl
  exact ⟨_, fd, ["tree", "path"], N_law_part, 2, _, _, _, _, _, globs X G c _ (by decide +kernel), FunD.bindsN F (fun _ _ _ _ _ _ us hl => match us, hl with | [_, _], _ => rfl), F, s_law_part, rfl, c_law_part⟩
theorem o_law_exchanged (X : K.In h) (G : h.Ns mainGlobals mg) (c : He.SaysD fa fn K) : DefOk K mg FN d_law_exchanged "_law_exchanged" := by
  obtain ⟨fd, F⟩ := c.def_ 26 (d := e_law_exchanged) rfl
  exact ⟨_, fd, ["stock", "tree", "path", "part"], N_law_exchanged, 4, _, _, _, _, _, globs X G c _ (by decide +kernel), FunD.bindsN F (fun _ _ _ _ _ _ us hl => match us, hl with | [_, _, _, _], _ => rfl), F, s_law_exchanged, rfl, c_law_exchanged⟩
theorem o_law (X : K.In h) (G : h.Ns mainGlobals mg) (c : He.SaysD fa fn K) : DefOk K mg FN d_law "law" := by
  obtain ⟨fd, F⟩ := c.def_ 27 (d := e_law) rfl
  exact ⟨_, fd, ["script"], N_law, 1, _, _, _, _, _, globs X G c _ (by decide +kernel), FunD.bindsN F (fun _ _ _ _ _ _ us hl => match us, hl with | [_], _ => rfl), F, s_law, rfl, c_law⟩
theorem all_ok (X : K.In h) (G : h.Ns mainGlobals mg) (c : He.SaysD fa fn K) : ∀ (f : Nat) (y : Str), FN.fn[f]? = some y → ∃ d : Def, tab[f]? = some d ∧ DefOk K mg FN d y
  | 0, y, e => by cases e; exact ⟨d_is_tree_of, rfl, o_is_tree_of X G c⟩
  | 1, y, e => by cases e; exact ⟨d_is_tree, rfl, o_is_tree X G c⟩
  | 2, y, e => by cases e; exact ⟨d_sort_of, rfl, o_sort_of X G c⟩
  | 3, y, e => by cases e; exact ⟨d_size, rfl, o_size X G c⟩
  | 4, y, e => by cases e; exact ⟨d_depth, rfl, o_depth X G c⟩
  | 5, y, e => by cases e; exact ⟨d_paths, rfl, o_paths X G c⟩
  | 6, y, e => by cases e; exact ⟨d_part_at, rfl, o_part_at X G c⟩
  | 7, y, e => by cases e; exact ⟨d_with_part, rfl, o_with_part X G c⟩
  | 8, y, e => by cases e; exact ⟨d_exchanged_part, rfl, o_exchanged_part X G c⟩
  | 9, y, e => by cases e; exact ⟨d_law_same, rfl, o_law_same X G c⟩
  | 10, y, e => by cases e; exact ⟨d_law_number, rfl, o_law_number X G c⟩
  | 11, y, e => by cases e; exact ⟨d_law_draws, rfl, o_law_draws X G c⟩
  | 12, y, e => by cases e; exact ⟨d_law_pick, rfl, o_law_pick X G c⟩
  | 13, y, e => by cases e; exact ⟨d_law_picks, rfl, o_law_picks X G c⟩
  | 14, y, e => by cases e; exact ⟨d_law_sorts, rfl, o_law_sorts X G c⟩
  | 15, y, e => by cases e; exact ⟨d_law_stock, rfl, o_law_stock X G c⟩
  | 16, y, e => by cases e; exact ⟨d_law_maker, rfl, o_law_maker X G c⟩
  | 17, y, e => by cases e; exact ⟨d_law_sort, rfl, o_law_sort X G c⟩
  | 18, y, e => by cases e; exact ⟨d_law_knots, rfl, o_law_knots X G c⟩
  | 19, y, e => by cases e; exact ⟨d_law_size, rfl, o_law_size X G c⟩
  | 20, y, e => by cases e; exact ⟨d_law_tree, rfl, o_law_tree X G c⟩
  | 21, y, e => by cases e; exact ⟨d_law_small_tree, rfl, o_law_small_tree X G c⟩
  | 22, y, e => by cases e; exact ⟨d_law_is_tree, rfl, o_law_is_tree X G c⟩
  | 23, y, e => by cases e; exact ⟨d_law_depth, rfl, o_law_depth X G c⟩
  | 24, y, e => by cases e; exact ⟨d_law_put, rfl, o_law_put X G c⟩
  | 25, y, e => by cases e; exact ⟨d_law_part, rfl, o_law_part X G c⟩
  | 26, y, e => by cases e; exact ⟨d_law_exchanged, rfl, o_law_exchanged X G c⟩
  | 27, y, e => by cases e; exact ⟨d_law, rfl, o_law X G c⟩
  | n + 28, y, e => by cases e
theorem gconst (X : K.In h) (G : h.Ns mainGlobals mg) (c : Says K) : ∀ (x : Str) (d : Ev.D), FN.gl.lookup x = some d → GlV K mg x d := by
  intro x d hx
  have hn : FN.gl.lookup x = none := by
    simp [FN]
  rw [hn] at hx; cases hx
theorem xtab (X : K.In h) (G : h.Ns mainGlobals mg) (c : Says K) : XTab PP K mg FN.cl := tab_ok X G inis_all inis_ok c.ini (Bool.and_eq_true_iff.mp (show (tabB PP FN.cl inis K && _) = true from c.x)).1
theorem cmpR : CmpR := fun Y hu o => cmp_rule hu o
theorem facts (X : K.In h) (G : h.Ns mainGlobals mg) (hfa : mg ("law" : Str) = some (.ref f)) (c : Says K) :
    ∃ fd : FuncData, (∀ (s : Shared) (v : Value), BindsTo s fd ⟨[v], []⟩ [("script", v)]) ∧ ∀ base : Heap, K.In base → base.Ns mainGlobals mg → FnOk PP w K mg base (CXA PP) 62 f fd ["script"] (spF w K mg FN.cl [false] (call tab 60 27)) := by
  obtain ⟨fd, F⟩ := c.d.def_ 27 (d := e_law) rfl
  have e := hfa.symm.trans (globs X G c.d "law" (by decide +kernel))
  cases e
  have b := FunD.bindsA (ps := ["script"]) F fun _ _ _ _ _ _ us hl => match us, hl with | [_], _ => rfl
  exact ⟨fd, fun s v => b s [v] rfl, fun base _ _ => fn_cxa (fn_ok (d := d_law) (FN := FN) F s_law rfl c_law (frees X G c.d) (fun f' y' h' => call_ok (frees X G c.d) (all_ok X G c.d) (gconst X G c) rules_all (xtab X G c) cmpR 59 f' y' h') (gconst X G c) (rules_all 61) (by decide) (xtab X G c) cmpR)⟩
theorem sp_law {H : Hp} {a : Addr} {ns : List Int} (hl : ns.length ≤ 63) (hS : SqL K H a (ns.map V.int)) : spF w K mg FN.cl [false] (call tab 60 27) [.ref a] H (fun v _ => v = .bl true) fun _ _ _ => False := by
  have hr : ∀ l : List Int, Reps w K H (l.map PyData.int) (l.map V.int) := fun l => by
    induction l with
    | nil => exact Reps.nil
    | cons i l ih => exact Reps.cons (by simp [Rep]) ih
  refine ⟨H, [.list (ns.map PyData.int)], Sub.refl H, ⟨.ref a, [], rfl, by simp only [Rep]; exact ⟨a, _, rfl, hS, hr ns⟩, rfl⟩, List.nodup_nil, ?_⟩
  rw [law_true ns hl]
  intro v Hf' H' _ _ r _
  simpa [ResR, Rep] using r
end
end EvH
open PySem PySem.W PySem.Calls PyProof.Rows
theorem PySem.Challenge.cw_treestold_k01_trees_and_parts_holds : PySem.Challenge.rw_treestold_k01_trees_and_parts.Holds := by
  w_on; o_law
  refine HandSHeadRun.head_any (r := OpenLaw.row PySem.Challenge.rw_treestold_k01_trees_and_parts) (q := view (OpenLaw.row PySem.Challenge.rw_treestold_k01_trees_and_parts).prog [33]) (H := EvH.hk) (ob := EvH.ob) (M := 3000) (loose := EvH.names) (d := HandSHeadRun.topDef (OpenLaw.row PySem.Challenge.rw_treestold_k01_trees_and_parts).prog 33) (kwd := []) EvH.ob_eq
    (by kernel_rfl) (fun s => by kernel_rfl) EvH.run (by kernel_rfl) (by kernel_rfl) (by kernel_rfl) (by rfl) (by first | assumption | decide +kernel) (by decide +kernel) ⟨rfl, rfl, rfl, rfl, rfl, by decide +kernel⟩ ?hw ?hc
  case hw => w_witness2
  case hc =>
    refine L2.walk_ofE (l := PySem.Challenge.rw_treestold_k01_trees_and_parts) (n := 63) (k := 62) (x := "script") (CX := Ev.CXA EvH.PP) rfl (by decide) (by kernel_rfl) ⟨rfl, by decide, by decide⟩ ?F (fun H s e s' z => Ev.cxa_none H s e s' z)
    intro w mg fa h Y G hmg0
    obtain ⟨K, KX, c⟩ := Y
    have hmg : mg ("law" : PySem.Str) = some (.ref fa) := by
      have e : (HandSHeadRun.topDef (OpenLaw.row PySem.Challenge.rw_treestold_k01_trees_and_parts).prog 33).name = ("law" : PySem.Str) := by kernel_rfl
      rw [← e]
      exact hmg0
    obtain ⟨fd, hb, hF⟩ := EvH.facts (w := w) KX G hmg c
    exact ⟨K, fd, _, KX, hb, fun H a ns hl _ hS => EvH.sp_law hl hS, hF⟩
end
