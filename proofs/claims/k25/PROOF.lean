import PyProof.Rows.All
import PyProof.P3Statements
import HandS.Text
import HandS.ForMost
import HandS.DictTup
import HandS.DictComp
import HandS.TupAny
import HandS.TupLen
import HandS.Deep
import HandS.SortRule
import HandS.SortInts
import HandS.TupSets
import HandS.SetFor
import HandS.Conv
import HandS.Zip
import HandS.IsInst
import HandS.Flow
import HandS.Walk
import HandS.TupLe
import KE.SortData
import KE.KDictKeyed
import KE.KDictWalk
import HandS.Strs
import KE.DataMinMax
import HandS.Style
import HandS.RaiseMore
import HandS.Iter
import KE.GoesMore
import KE.GoesEnum
import HandS.Words
import KE.SortKeyHeap
import HandS.SortKw
import PySem.Challenge.RW_orderstold_k25_shapes
set_option Elab.async false
set_option linter.all false
set_option maxRecDepth 100000
set_option maxHeartbeats 4000000
/-! Orp, part 1: a small pure language over data, and what it computes. -/
namespace Orp
open PySem (PyData Str)
abbrev D := PySem.PyData

inductive O1 where
  | neg | inv | len | sum | any | all | max | min | sorted | list | tuple | sset | lset | int | str
  | isN | notN | isT | isF | rev | tInt | tBool | tTuple | tStr | tList
  deriving DecidableEq
inductive O2 where
  | add | sub | mul | fdiv | mod | pow | shl | shr | band | bor
  | eq | ne | lt | le | gt | ge | isIn | notIn | idx | max2 | min2 | index | from_ | upto | join | split
  deriving DecidableEq
inductive O3 where
  | cut | dget | repl
  deriving DecidableEq

inductive Tg where
  | one (i : Nat)
  | tup (is : List Nat)
  deriving DecidableEq

mutual
/-- expressions -/
inductive Ep where
  | var (i : Nat)
  | cst (d : D)
  | o1 (o : O1) (a : Ep)
  | o2 (o : O2) (a b : Ep)
  | o3 (o : O3) (a b c : Ep)
  | chain (o p : O2) (a b c : Ep)
  | and (a b : Ep)
  | or (a b : Ep)
  | not (a : Ep)
  | ite (c a b : Ep)
  | tup (es : Eps)
  | lst (es : Eps)
  | rgl (tup : Bool) (a b : Ep)
  | call (f : Nat) (es : Eps)
  | skey (f : Nat) (e : Ep)
  | dnew (tk : Bool)
  | done (tk : Bool) (k v : Ep)
  | comp (own : List Nat) (elt : Ep) (c : Cl)
  | dcomp (own : List Nat) (tk : Bool) (k v : Ep) (c : Cl)
inductive Eps where
  | nil
  | cons (e : Ep) (r : Eps)
/-- what is walked -/
inductive Wk where
  | dat (e : Ep)
  | rng (a : Ep)
  | rng2 (a b : Ep)
  | rngD (a b : Ep)
  | enu (e : Ep)
  | zip (a b : Ep)
/-- the clauses of a comprehension -/
inductive Cl where
  | nil
  | cons (t : Tg) (s : Wk) (q : Ep) (r : Cl)
end

/-- what is known of a slot: nothing; data that nobody changes; a list, a dict (ints, tuples as keys) of the def's own; such a one while it is walked -/
inductive Stat where
  | dead | sh | own | lck | dI | dT | dIl | dTl
  deriving DecidableEq

mutual
/-- statements -/
inductive Sm where
  | asg (t : Tg) (e : Ep)
  | par (is : List Nat) (es : Eps)
  | aug (i : Nat) (o : O2) (e : Ep)
  | app (i : Nat) (e : Ep)
  | ext (i : Nat) (e : Ep)
  | set (i : Nat) (k e : Ep)
  | set2 (i : Nat) (k l e : Ep)
  | ite (c : Ep) (a b : Bk)
  | for_ (t : Tg) (s : Wk) (b : Bk) (st : List Stat)
  | while_ (c : Ep) (b : Bk) (st : List Stat)
  | ret (e : Ep)
  | pass
  | frz (i : Nat)
  | mov (i j : Nat)
  | nvr
  | mc (aug : Bool) (t : Nat) (f : Nat) (es : Eps) (i : Nat)
  | retm (e : Ep) (i : Nat)
inductive Bk where
  | nil
  | cons (s : Sm) (r : Bk)
end

/-! ### data -/
def BIG : Nat := 16777216
def okD (d : D) : Bool := d.canLay0 && decide (d.depth ≤ 60)
def intOf : D → Option Int
  | .int i => some i
  | _ => none
def boolOf : D → Option Bool
  | .bool b => some b
  | _ => none
def intsOf : List D → Option (List Int)
  | [] => some []
  | d :: r => (intOf d).bind fun i => (intsOf r).map fun is => i :: is
def boolsOf : List D → Option (List Bool)
  | [] => some []
  | d :: r => (boolOf d).bind fun i => (boolsOf r).map fun is => i :: is
/-- a list's or a tuple's items -/
def seqOf : D → Option (List D)
  | .list ds => some ds
  | .tuple ds => some ds
  | _ => none

mutual
/-- two data of one form, place by place -/
def alk : D → D → Bool
  | .int _, .int _ => true
  | .str _, .str _ => true
  | .tuple xs, .tuple ys => alkAll xs ys
  | _, _ => false
def alkAll : List D → List D → Bool
  | x :: xs, y :: ys => alk x y && alkAll xs ys
  | _, _ => true
end
mutual
/-- less, of data of one form -/
def ltD : D → D → Bool
  | .int i, .int j => decide (i < j)
  | .str x, .str y => decide (x.cps.toList < y.cps.toList)
  | .tuple xs, .tuple ys => ltAll xs ys
  | _, _ => false
def ltAll : List D → List D → Bool
  | [], [] => false
  | [], _ :: _ => true
  | _ :: _, [] => false
  | x :: xs, y :: ys => if PySem.PyData.eqv x y = true then ltAll xs ys else ltD x y
end
def leD (x y : D) : Bool := !ltD y x
/-- all of one form: the first against each, each against each is what sorting needs -/
def alkL (ds : List D) : Bool := ds.all fun x => okD x && ds.all fun y => alk x y
/-- sorted, as a list -/
def insD (x : D) : List D → List D
  | [] => [x]
  | y :: r => if leD x y = true then x :: y :: r else y :: insD x r
def sortD (ds : List D) : List D := ds.foldr insD []
def dedup : List D → List D
  | [] => []
  | x :: r => if (r.any fun y => PySem.PyData.eqv y x) = true then dedup r else x :: dedup r
def minD : List D → Option D
  | [] => none
  | x :: r => some (r.foldl (fun m y => if ltD y m = true then y else m) x)
def maxI : List Int → Option Int
  | [] => none
  | x :: r => some (r.foldl (fun m y => if m < y then y else m) x)

/-! ### places -/
def ixD (n : Nat) (i : Int) : Option Nat := if 0 ≤ i then (if i < n then some i.toNat else none) else if -(n : Int) ≤ i then some (i + n).toNat else none
def atD {α : Type} (xs : List α) (i : Int) : Option α := (ixD xs.length i).bind fun j => xs[j]?
def sIxD (n d : Nat) : Option Int → Nat
  | none => d
  | some v => if v < 0 then (v + (n : Int)).toNat else min v.toNat n
def cutD {α : Type} (xs : List α) (lo hi : Option Int) : List α := (xs.drop (sIxD xs.length 0 lo)).take (sIxD xs.length xs.length hi - sIxD xs.length 0 lo)
def sliceD (d : D) (lo hi : Option Int) : Option D :=
  match d with
  | .list ds => some (.list (cutD ds lo hi))
  | .tuple ds => some (.tuple (cutD ds lo hi))
  | .str s => if s.cps.size ≤ BIG then some (.str ⟨(cutD s.cps.toList lo hi).toArray⟩) else none
  | _ => none
def idxOf (d : D) : List D → Option Nat
  | [] => none
  | x :: r => if PySem.PyData.eqv x d = true then some 0 else (idxOf d r).map (· + 1)

/-! ### dicts -/
/-- a dict as a datum: its kind of keys, its pairs -/
abbrev mkD (tk : Bool) (kvs : List (D × D)) : D := .dict ((.bool tk, .none) :: kvs)
def keyEq (a b : D) : Bool := PySem.PyData.eqv a b
def getK (kvs : List (D × D)) (k : D) : Option D := (kvs.find? fun p => keyEq p.1 k).map (·.2)
def putKD (kvs : List (D × D)) (k v : D) : List (D × D) :=
  if (kvs.any fun p => keyEq p.1 k) = true then kvs.map (fun p => if keyEq p.1 k = true then (p.1, v) else p) else kvs ++ [(k, v)]
def isIntK : D → Bool
  | .int _ => true
  | _ => false
def isTupK : D → Bool
  | .tuple xs => xs.all isIntK
  | _ => false
def keyOk (tk : Bool) (k : D) : Bool := if tk then isTupK k else isIntK k

/-! ### numbers -/
def sm64 (i : Int) : Bool := decide (-(2 ^ 64) < i) && decide (i < 2 ^ 64)
def rngOk (i : Int) : Bool := decide (-8000000 ≤ i) && decide (i ≤ 8000000)
def rangeD (lo hi : Int) : List D := (List.range (hi - lo).toNat).map fun (i : Nat) => .int (lo + (i : Int))
def rangeDn (hi lo : Int) : List D := (List.range (hi - lo).toNat).map fun (i : Nat) => .int (hi - (i : Int))
def bandI (i j : Int) : Option Int :=
  if 0 ≤ i then (if 0 ≤ j then some ((i.toNat &&& j.toNat : Nat) : Int) else some (i - ((i.toNat &&& (-j - 1).toNat : Nat) : Int))) else none
def borI (i j : Int) : Option Int := if 0 ≤ i then (if 0 ≤ j then some ((i.toNat ||| j.toNat : Nat) : Int) else none) else none
def okL {α : Type} (ds : List α) : Bool := decide (ds.length ≤ BIG)
def signs (s : Str) : List D := s.cps.toList.map fun c => .str ⟨#[c]⟩

def truthF : D → Option Bool
  | .none => some false
  | .bool b => some b
  | .int i => some (i != 0)
  | .str s => if s.cps.size ≤ BIG then some (s.cps.size != 0) else none
  | .list ds => some (!ds.isEmpty)
  | .tuple ds => some (!ds.isEmpty)
  | .dict _ => none

def o1F : O1 → D → Option D
  | .neg, .int i => some (.int (-i))
  | .inv, .int i => some (.int (-i - 1))
  | .len, .list ds => some (.int ds.length)
  | .len, .tuple ds => some (.int ds.length)
  | .len, .str s => if s.cps.size ≤ BIG then some (.int s.cps.size) else none
  | .len, .dict ((.bool _, .none) :: kvs) => some (.int kvs.length)
  | .sum, d => (seqOf d).bind fun ds => (intsOf ds).map fun is => .int is.sum
  | .any, .list ds => (boolsOf ds).map fun bs => .bool (bs.any id)
  | .all, .list ds => (boolsOf ds).map fun bs => .bool (bs.all id)
  | .max, d => (seqOf d).bind fun ds => (intsOf ds).bind fun is => (maxI is).map .int
  | .min, d => (seqOf d).bind fun ds => if alkL ds = true then minD ds else none
  | .sorted, .list ds => if alkL ds = true then some (.list (sortD ds)) else none
  | .sorted, .tuple ds => if alkL ds = true then some (.list (sortD ds)) else none
  | .sorted, .dict ((.bool _, .none) :: kvs) => if alkL (kvs.map (·.1)) = true then some (.list (sortD (kvs.map (·.1)))) else none
  | .sset, d => (seqOf d).bind fun ds => if alkL ds = true ∧ ((ds.all isTupK = true ∧ (dedup ds).length < 63) ∨ (ds.all isIntK = true ∧ ds.length < 4000)) then some (.list (sortD (dedup ds))) else none
  | .lset, d => (seqOf d).bind fun ds => if (ds.all isTupK = true ∧ (dedup ds).length < 63) ∨ (ds.all isIntK = true ∧ ds.length < 4000) then some (.int (dedup ds).length) else none
  | .list, d => (seqOf d).map .list
  | .tuple, d => (seqOf d).map .tuple
  | .int, .int i => some (.int i)
  | .int, .bool b => some (.int (if b then 1 else 0))
  | .int, .str s => if s.length ≤ 640 then (PySem.intText? s).map .int else none
  | .str, .int i => if i.natAbs < 10 ^ 18 then some (.str (toString i)) else none
  | .str, .str s => some (.str s)
  | .isN, .none => some (.bool true)
  | .isN, .dict _ => none
  | .isN, _ => some (.bool false)
  | .notN, .none => some (.bool false)
  | .notN, .dict _ => none
  | .notN, _ => some (.bool true)
  | .isT, .bool b => some (.bool b)
  | .isF, .bool b => some (.bool (!b))
  | .rev, .list ds => some (.list ds.reverse)
  | .rev, .tuple ds => some (.tuple ds.reverse)
  | .tInt, .int _ => some (.bool true)
  | .tInt, .bool _ => some (.bool true)
  | .tInt, .dict _ => none
  | .tInt, _ => some (.bool false)
  | .tBool, .bool _ => some (.bool true)
  | .tBool, .dict _ => none
  | .tBool, _ => some (.bool false)
  | .tTuple, .tuple _ => some (.bool true)
  | .tTuple, .dict _ => none
  | .tTuple, _ => some (.bool false)
  | .tStr, .str _ => some (.bool true)
  | .tStr, .dict _ => none
  | .tStr, _ => some (.bool false)
  | .tList, .list _ => some (.bool true)
  | .tList, .dict _ => none
  | .tList, _ => some (.bool false)
  | _, _ => none

/-- texts -/
def strsOf : List D → Option (List Str)
  | [] => some []
  | .str s :: r => (strsOf r).map fun ss => s :: ss
  | _ :: _ => none
def joinF (a : Str) (d : D) : Option D := (seqOf d).bind fun ds => (strsOf ds).bind fun ys => if (ys.map (·.length)).sum + ys.length * a.length ≤ BIG then some (.str (PySem.Txt.join a ys)) else none
def splitF (a b : Str) : Option D := if (b.length == 0) = false ∧ a.length + 2 ≤ BIG then some (.list ((PySem.Txt.split a b).map .str)) else none
def eqF (a b : D) : Option Bool := if okD a = true ∧ okD b = true then some (PySem.PyData.eqv a b) else none
def ltF (a b : D) : Option Bool := if alk a b = true ∧ okD a = true ∧ okD b = true then some (ltD a b) else none
/-- a text of one sign -/
def signOf (s : Str) : Option Nat := match s.cps.toList with
  | [c] => some c
  | _ => none
def inF (x y : D) : Option Bool :=
  match y with
  | .dict ((.bool tk, .none) :: kvs) => if keyOk tk x = true then some (getK kvs x).isSome else none
  | .list ds => if okD x = true ∧ (ds.all okD) = true then some (ds.any fun z => PySem.PyData.eqv z x) else none
  | .tuple ds => if okD x = true ∧ (ds.all okD) = true then some (ds.any fun z => PySem.PyData.eqv z x) else none
  | .str s => match x with
    | .str z => (signOf z).map fun c => s.cps.toList.any fun z => z == c
    | _ => none
  | _ => none

def o2F : O2 → D → D → Option D
  | .add, .int i, .int j => some (.int (i + j))
  | .add, .tuple a, .tuple b => if a.length + b.length ≤ BIG then some (.tuple (a ++ b)) else none
  | .add, .list a, .list b => if a.length + b.length ≤ BIG then some (.list (a ++ b)) else none
  | .add, .str a, .str b => if a.cps.size + b.cps.size ≤ BIG then some (.str (a ++ b)) else none
  | .sub, .int i, .int j => some (.int (i - j))
  | .mul, .int i, .int j => if sm64 i || sm64 j then some (.int (i * j)) else none
  | .fdiv, .int i, .int j => if 0 < j ∧ j < 1073741824 then some (.int (i / j)) else none
  | .mod, .int i, .int j => if 0 < j then some (.int (i % j)) else none
  | .pow, .int i, .int j => if sm64 i = true ∧ 0 ≤ j ∧ j ≤ 1000 then some (.int (i ^ j.toNat)) else none
  | .shl, .int i, .int j => if sm64 i = true ∧ 0 ≤ j ∧ j ≤ 1000 then some (.int (i * 2 ^ j.toNat)) else none
  | .shr, .int i, .int j => if 0 ≤ j then some (.int (i / 2 ^ j.toNat)) else none
  | .band, .int i, .int j => (bandI i j).map .int
  | .bor, .int i, .int j => (borI i j).map .int
  | .eq, a, b => (eqF a b).map .bool
  | .ne, a, b => (eqF a b).map fun t => .bool (!t)
  | .lt, a, b => (ltF a b).map .bool
  | .le, .int i, .int j => some (.bool (decide (i ≤ j)))
  | .gt, .int i, .int j => some (.bool (decide (j < i)))
  | .ge, .int i, .int j => some (.bool (decide (j ≤ i)))
  | .isIn, x, y => (inF x y).map .bool
  | .notIn, x, y => (inF x y).map fun t => .bool (!t)
  | .idx, .list ds, .int i => atD ds i
  | .idx, .tuple ds, .int i => atD ds i
  | .idx, .str s, .int i => if s.cps.size ≤ BIG then (atD s.cps.toList i).map fun c => .str ⟨#[c]⟩ else none
  | .idx, .dict ((.bool tk, .none) :: kvs), k => if keyOk tk k = true then getK kvs k else none
  | .max2, .int i, .int j => some (.int (if i < j then j else i))
  | .min2, .int i, .int j => some (.int (if j < i then j else i))
  | .index, d, x => (seqOf d).bind fun ds => if okD x = true ∧ (ds.all okD) = true then (idxOf x ds).map fun (n : Nat) => .int (n : Int) else none
  | .from_, d, .int i => sliceD d (some i) none
  | .upto, d, .int i => sliceD d none (some i)
  | .join, .str a, d => joinF a d
  | .split, .str a, .str b => splitF a b
  | _, _, _ => none

def o3F : O3 → D → D → D → Option D
  | .cut, d, .int i, .int j => sliceD d (some i) (some j)
  | .dget, .dict ((.bool tk, .none) :: kvs), k, x => if keyOk tk k = true then some ((getK kvs k).getD x) else none
  | _, _, _, _ => none

/-! ### sorting by a key -/
mutual
def flatD : D → Bool
  | .none => true
  | .bool _ => true
  | .int _ => true
  | .str _ => true
  | .tuple xs => flatAll xs
  | _ => false
def flatAll : List D → Bool
  | [] => true
  | x :: xs => flatD x && flatAll xs
end
def sortKD (ps : List (D × D)) : List D := (ps.mergeSort fun a b => leD a.2 b.2).map Prod.fst
def keysOf (φ : List D → Option D) : List D → Option (List D)
  | [] => some []
  | d :: r => (φ [d]).bind fun k => (keysOf φ r).map fun ks => k :: ks
def skeyF (φ : List D → Option D) : D → Option D
  | .list ds => if ds.all flatD = true then (keysOf φ ds).bind fun ks => if alkL ks = true then some (.list (sortKD (ds.zip ks))) else none else none
  | _ => none

/-! ### what is computed -/
abbrev Rho := List D
def setAll : List Nat → List D → Rho → Option Rho
  | [], [], ρ => some ρ
  | i :: is, d :: ds, ρ => setAll is ds (ρ.set i d)
  | _, _, _ => none
def bindT : Tg → D → Rho → Option Rho
  | .one i, d, ρ => some (ρ.set i d)
  | .tup is, .tuple ds, ρ => setAll is ds ρ
  | _, _, _ => none
def itemsF : D → Option (List D)
  | .list ds => some ds
  | .tuple ds => some ds
  | .dict ((.bool _, .none) :: kvs) => some (kvs.map (·.1))
  | .str s => some (signs s)
  | _ => none
def enuD (i : Nat) : List D → List D
  | [] => []
  | d :: r => .tuple [.int (i : Int), d] :: enuD (i + 1) r
def zipD : List D → List D → List D
  | x :: xs, y :: ys => .tuple [x, y] :: zipD xs ys
  | _, _ => []
def zipF : D → D → Option (List D)
  | .list xs, .list ys => some (zipD xs ys)
  | .tuple xs, .tuple ys => some (zipD xs ys)
  | _, _ => none
/-- the items of one clause, one after another -/
def flatF (f : D → Option (List D)) : List D → Option (List D)
  | [] => some []
  | d :: ds => (f d).bind fun xs => (flatF f ds).map fun ys => xs ++ ys
/-- the pairs of one clause, put in one after another -/
def foldF (f : D → List (D × D) → Option (List (D × D))) : List D → List (D × D) → Option (List (D × D))
  | [], acc => some acc
  | d :: ds, acc => (f d acc).bind (foldF f ds)

variable (Φ : Nat → List D → Option D)
mutual
def evX : Ep → Rho → Option D
  | .var i, ρ => ρ[i]?
  | .cst d, _ => some d
  | .o1 o a, ρ => (evX a ρ).bind fun x => o1F o x
  | .o2 o a b, ρ => (evX a ρ).bind fun x => (evX b ρ).bind fun y => o2F o x y
  | .o3 o a b c, ρ => (evX a ρ).bind fun x => (evX b ρ).bind fun y => (evX c ρ).bind fun z => o3F o x y z
  | .chain o p a b c, ρ => (evX a ρ).bind fun x => (evX b ρ).bind fun y => (o2F o x y).bind fun r => (boolOf r).bind fun t =>
      if t = true then (evX c ρ).bind fun z => o2F p y z else some (.bool false)
  | .and a b, ρ => (evX a ρ).bind fun x => (boolOf x).bind fun t => if t = true then evX b ρ else some (.bool false)
  | .or a b, ρ => (evX a ρ).bind fun x => (boolOf x).bind fun t => if t = true then some (.bool true) else evX b ρ
  | .not a, ρ => (evX a ρ).bind fun x => (truthF x).map fun t => .bool (!t)
  | .ite c a b, ρ => (evX c ρ).bind fun x => (truthF x).bind fun t => if t = true then evX a ρ else evX b ρ
  | .tup es, ρ => (evXs es ρ).map .tuple
  | .lst es, ρ => (evXs es ρ).map .list
  | .rgl t a b, ρ => (evX a ρ).bind fun x => (evX b ρ).bind fun y => (intOf x).bind fun i => (intOf y).bind fun j => if rngOk i = true ∧ rngOk j = true then some (if t = true then .tuple (rangeD i j) else .list (rangeD i j)) else none
  | .call f es, ρ => (evXs es ρ).bind fun ds => Φ f ds
  | .skey f e, ρ => (evX e ρ).bind fun x => skeyF (Φ f) x
  | .dnew tk, _ => some (mkD tk [])
  | .done tk k v, ρ => (evX k ρ).bind fun x => (evX v ρ).bind fun y => if keyOk tk x = true then some (mkD tk [(x, y)]) else none
  | .comp _ elt c, ρ => (evC c ρ fun ρ' => (evX elt ρ').map fun d => [d]).bind fun ds => if okL ds = true then some (.list ds) else none
  | .dcomp _ tk k v c, ρ => (evD c ρ (fun ρ' acc => (evX k ρ').bind fun x => (evX v ρ').bind fun y => if keyOk tk x = true ∧ acc.length < BIG then some (putKD acc x y) else none) []).map (mkD tk)
def evXs : Eps → Rho → Option (List D)
  | .nil, _ => some []
  | .cons e r, ρ => (evX e ρ).bind fun x => (evXs r ρ).map fun xs => x :: xs
def evW : Wk → Rho → Option (List D)
  | .dat e, ρ => (evX e ρ).bind itemsF
  | .rng a, ρ => (evX a ρ).bind fun x => (intOf x).bind fun i => if rngOk i = true then some (rangeD 0 i) else none
  | .rng2 a b, ρ => (evX a ρ).bind fun x => (evX b ρ).bind fun y => (intOf x).bind fun i => (intOf y).bind fun j => if rngOk i = true ∧ rngOk j = true then some (rangeD i j) else none
  | .rngD a b, ρ => (evX a ρ).bind fun x => (evX b ρ).bind fun y => (intOf x).bind fun i => (intOf y).bind fun j => if rngOk i = true ∧ rngOk j = true then some (rangeDn i j) else none
  | .enu e, ρ => (evX e ρ).bind fun x => (seqOf x).map fun ds => enuD 0 ds
  | .zip a b, ρ => (evX a ρ).bind fun x => (evX b ρ).bind fun y => zipF x y
def evC : Cl → Rho → (Rho → Option (List D)) → Option (List D)
  | .nil, ρ, k => k ρ
  | .cons t s q r, ρ, k => (evW s ρ).bind fun ds => flatF (fun d => (bindT t d ρ).bind fun ρ' => (evX q ρ').bind fun x => (truthF x).bind fun b => if b = true then evC r ρ' k else some []) ds
def evD : Cl → Rho → (Rho → List (D × D) → Option (List (D × D))) → List (D × D) → Option (List (D × D))
  | .nil, ρ, k, acc => k ρ acc
  | .cons t s q r, ρ, k, acc => (evW s ρ).bind fun ds => foldF (fun d acc => (bindT t d ρ).bind fun ρ' => (evX q ρ').bind fun x => (truthF x).bind fun b => if b = true then evD r ρ' k acc else some acc) ds acc
end
def evT (p : Ep) (ρ : Rho) : Option Bool := (evX Φ p ρ).bind truthF

/-- how a statement ends -/
inductive Res where
  | next (ρ : Rho)
  | ret (d : D)
def loopF (f : Rho → Option Res) (t : Tg) : List D → Rho → Option Res
  | [], ρ => some (.next ρ)
  | d :: ds, ρ => (bindT t d ρ).bind fun ρ1 => (f ρ1).bind fun r => match r with
    | .next ρ2 => loopF f t ds ρ2
    | .ret x => some (.ret x)
def whileF (c : Rho → Option Bool) (f : Rho → Option Res) : Nat → Rho → Option Res
  | 0, _ => none
  | n + 1, ρ => (c ρ).bind fun t => if t = true then (f ρ).bind fun r => match r with
    | .next ρ2 => whileF c f n ρ2
    | .ret x => some (.ret x)
    else some (.next ρ)
/-- the turns that a while may take -/
def TURNS : Nat := 4000
def nextSet (i : Nat) (ρ : Rho) (o : Option D) : Option Res := o.map fun d => .next (ρ.set i d)
def augF : O2 → D → D → Option D
  | .add, .int i, .int j => some (.int (i + j))
  | .sub, .int i, .int j => some (.int (i - j))
  | .mul, .int i, .int j => if sm64 i || sm64 j then some (.int (i * j)) else none
  | _, _, _ => none
def appF (x d : D) : Option D := match x with
  | .list ds => if ds.length < BIG then some (.list (ds ++ [d])) else none
  | _ => none
def extF (x d : D) : Option D := match x, d with
  | .list ds, .list es => if ds.length + es.length ≤ BIG then some (.list (ds ++ es)) else none
  | _, _ => none
def setF (x k d : D) : Option D := match x, k with
  | .list ds, .int i => (ixD ds.length i).map fun j => .list (ds.set j d)
  | .dict ((.bool tk, .none) :: kvs), k => if keyOk tk k = true ∧ kvs.length < BIG then some (mkD tk (putKD kvs k d)) else none
  | _, _ => none
def pairOf : D → Option (D × D)
  | .tuple [a, b] => some (a, b)
  | _ => none
mutual
def exS : Sm → Rho → Option Res
  | .asg t e, ρ => (evX Φ e ρ).bind fun d => (bindT t d ρ).map .next
  | .par is es, ρ => (evXs Φ es ρ).bind fun ds => (setAll is ds ρ).map .next
  | .aug i o e, ρ => (ρ[i]?).bind fun x => (evX Φ e ρ).bind fun y => nextSet i ρ (augF o x y)
  | .app i e, ρ => (ρ[i]?).bind fun x => (evX Φ e ρ).bind fun y => nextSet i ρ (appF x y)
  | .ext i e, ρ => (ρ[i]?).bind fun x => (evX Φ e ρ).bind fun y => nextSet i ρ (extF x y)
  | .set i k e, ρ => (evX Φ e ρ).bind fun y => (ρ[i]?).bind fun x => (evX Φ k ρ).bind fun z => nextSet i ρ (setF x z y)
  | .set2 i k l e, ρ => (evX Φ e ρ).bind fun y => (pairOf y).bind fun yy => (ρ[i]?).bind fun x => (evX Φ k ρ).bind fun z => (setF x z yy.1).bind fun x' => (evX Φ l (ρ.set i x')).bind fun z' => nextSet i (ρ.set i x') (setF x' z' yy.2)
  | .ite c a b, ρ => (evT Φ c ρ).bind fun t => if t = true then exB a ρ else exB b ρ
  | .for_ t s b _, ρ => (evW Φ s ρ).bind fun ds => loopF (exB b) t ds ρ
  | .while_ c b _, ρ => whileF (evT Φ c) (exB b) TURNS ρ
  | .ret e, ρ => (evX Φ e ρ).map .ret
  | .pass, ρ => some (.next ρ)
  | .frz _, ρ => some (.next ρ)
  | .mov i j, ρ => (ρ[j]?).map fun d => .next (ρ.set i d)
  | .nvr, _ => none
  | .mc aug t f es i, ρ => (evXs Φ es ρ).bind fun ds => (ρ[i]?).bind fun x => (Φ f (ds ++ [x])).bind fun y => (pairOf y).bind fun p => (if aug = true then (ρ[t]?).bind fun a => augF .add a p.1 else some p.1).map fun d => .next ((ρ.set t d).set i p.2)
  | .retm e i, ρ => (evX Φ e ρ).bind fun d => (ρ[i]?).map fun x => .ret (.tuple [d, x])
def exB : Bk → Rho → Option Res
  | .nil, ρ => some (.next ρ)
  | .cons s r, ρ => (exS s ρ).bind fun q => match q with
    | .next ρ2 => exB r ρ2
    | .ret x => some (.ret x)
end

/-- a def: its parameters, its slots, its body -/
structure Fn where
  np : Nat
  ns : Nat
  body : Bk
def endF : Res → D
  | .next _ => .none
  | .ret d => d
def callF (f : Fn) (ds : List D) : Option D := if ds.length = f.np then (exB Φ f.body (ds ++ List.replicate (f.ns - f.np) .none)).map endF else none
end Orp
namespace Orp
/-- calls within calls to the depth n -/
def run (P : List Fn) : Nat → Nat → List D → Option D
  | 0, _, _ => none
  | n + 1, f, ds => (P[f]?).bind fun q => callF (run P n) q ds
end Orp

/-! Orp, part 2: how data lie in the heap. -/
namespace Orp
open PySem PySem.Spec PyProof.Rows L2
abbrev Fg := PySem.W.Frag

theorem Same.sqt {K : Fg} {H H' : Hp} {a : Addr} {xs : List V} (e : Same H H') (h : SqT K H a xs) : SqT K H' a xs := by
  rcases h with h | h
  · rcases h with h | ⟨o, h⟩
    · exact .inl (.inl (e _ _ h))
    · exact .inl (.inr ⟨o, e _ _ h⟩)
  · exact .inr h
theorem Same.rd {H H' : Hp} {a : Addr} {u : HO} (e : Same H H') (h : Rd H a u) : Rd H' a u := by
  rcases h with h | ⟨o, h⟩
  · exact .inl (e _ _ h)
  · exact .inr ⟨o, e _ _ h⟩

/-- a tuple whose object is known: it has no dict of its own -/
def TupK (K : Fg) (H : Hp) (a : Addr) (xs : List V) : Prop :=
  (∃ o, H a = some (.frz o (.tup xs)) ∧ o.dict = none) ∨
    ∃ (o : Obj) (its : Array Value) (n : Nat), K.lookup a = some o ∧ o.cls = .type "tuple" ∧ o.dict = none ∧ o.data = .seq its n ∧ its.size ≤ sizeLine ∧ Vals xs its.toList
theorem TupK.sqt {K : Fg} {H : Hp} {a : Addr} {xs : List V} (h : TupK K H a xs) : SqT K H a xs := by
  rcases h with ⟨o, h, _⟩ | ⟨o, its, n, h1, h2, _, h4, h5, h6⟩
  · exact .inl (.inr ⟨o, h⟩)
  · exact .inr ⟨o, its, n, h1, h2, h4, h5, h6⟩
theorem TupK.mono {K : Fg} {H H' : Hp} {a : Addr} {xs : List V} (e : Same H H') (h : TupK K H a xs) : TupK K H' a xs := by
  rcases h with ⟨o, h, z⟩ | h
  · exact .inl ⟨o, e _ _ h, z⟩
  · exact .inr h

mutual
/-- v is the datum d -/
inductive Rep (K : Fg) (H : Hp) : V → D → Prop
  | non : Rep K H .non .none
  | bl (b : Bool) : Rep K H (.bl b) (.bool b)
  | int (i : Int) : Rep K H (.int i) (.int i)
  | str (x : Str) : Rep K H (.str x) (.str x)
  | lst {a : Addr} {xs : List V} {ds : List D} : SqL K H a xs → RepAll K H xs ds → Rep K H (.ref a) (.list ds)
  | tup {a : Addr} {xs : List V} {ds : List D} : TupK K H a xs → RepAll K H xs ds → Rep K H (.ref a) (.tuple ds)
inductive RepAll (K : Fg) (H : Hp) : List V → List D → Prop
  | nil : RepAll K H [] []
  | cons {v : V} {vs : List V} {d : D} {ds : List D} : Rep K H v d → RepAll K H vs ds → RepAll K H (v :: vs) (d :: ds)
end
mutual
theorem Rep.mono {K : Fg} {H H' : Hp} (e : Same H H') : ∀ (d : D) {v : V}, Rep K H v d → Rep K H' v d
  | .none, _, h => by cases h; exact .non
  | .bool _, _, h => by cases h; exact .bl _
  | .int _, _, h => by cases h; exact .int _
  | .str _, _, h => by cases h; exact .str _
  | .list ds, _, h => by
    cases h with
    | lst h1 h2 => exact .lst (e.seq h1) (RepAll.mono e ds h2)
  | .tuple ds, _, h => by
    cases h with
    | tup h1 h2 => exact .tup (h1.mono e) (RepAll.mono e ds h2)
  | .dict _, _, h => by cases h
theorem RepAll.mono {K : Fg} {H H' : Hp} (e : Same H H') : ∀ (ds : List D) {vs : List V}, RepAll K H vs ds → RepAll K H' vs ds
  | [], _, h => by cases h; exact .nil
  | d :: ds, _, h => by
    cases h with
    | cons h1 h2 => exact .cons (Rep.mono e d h1) (RepAll.mono e ds h2)
end
mutual
/-- as the layer's own relation has it -/
theorem Rep.dp {K : Fg} {H : Hp} : ∀ (d : D) {v : V}, Rep K H v d → L2.Dp K H v d
  | .none, _, h => by cases h; exact .non
  | .bool _, _, h => by cases h; exact .bl _
  | .int _, _, h => by cases h; exact .int _
  | .str _, _, h => by cases h; exact .str _
  | .list ds, _, h => by
    cases h with
    | lst h1 h2 => exact .lst h1 (RepAll.dp ds h2)
  | .tuple ds, _, h => by
    cases h with
    | tup h1 h2 => exact .tup h1.sqt (RepAll.dp ds h2)
  | .dict _, _, h => by cases h
theorem RepAll.dp {K : Fg} {H : Hp} : ∀ (ds : List D) {vs : List V}, RepAll K H vs ds → L2.DpAll K H vs ds
  | [], _, h => by cases h; exact .nil
  | d :: ds, _, h => by
    cases h with
    | cons h1 h2 => exact .cons (Rep.dp d h1) (RepAll.dp ds h2)
end
section
variable {K : Fg} {H : Hp}
theorem dpa_len : ∀ {vs : List V} {ds : List D}, RepAll K H vs ds → vs.length = ds.length
  | _, _, .nil => rfl
  | _, _, .cons _ t => by rw [List.length_cons, List.length_cons, dpa_len t]
theorem dpa_get : ∀ {vs : List V} {ds : List D} {i : Nat} {d : D}, RepAll K H vs ds → ds[i]? = some d → ∃ v, vs[i]? = some v ∧ Rep K H v d
  | _, _, _, _, .nil, e => by simp at e
  | _, _, 0, _, .cons r _, e => by simp at e; subst e; exact ⟨_, rfl, r⟩
  | _, _, i + 1, _, .cons _ t, e => by
    obtain ⟨u, h1, h2⟩ := dpa_get (i := i) t (by simpa using e)
    exact ⟨u, by simpa using h1, h2⟩
theorem dpa_getv : ∀ {vs : List V} {ds : List D} {i : Nat} {v : V}, RepAll K H vs ds → vs[i]? = some v → ∃ d, ds[i]? = some d ∧ Rep K H v d
  | _, _, _, _, .nil, e => by simp at e
  | _, _, 0, _, .cons r _, e => by simp at e; subst e; exact ⟨_, rfl, r⟩
  | _, _, i + 1, _, .cons _ t, e => by
    obtain ⟨u, h1, h2⟩ := dpa_getv (i := i) t (by simpa using e)
    exact ⟨u, by simpa using h1, h2⟩
theorem dpa_app : ∀ {vs us : List V} {ds es : List D}, RepAll K H vs ds → RepAll K H us es → RepAll K H (vs ++ us) (ds ++ es)
  | _, _, _, _, .nil, s => s
  | _, _, _, _, .cons r t, s => .cons r (dpa_app t s)
theorem dpa_take : ∀ {vs : List V} {ds : List D} (n : Nat), RepAll K H vs ds → RepAll K H (vs.take n) (ds.take n)
  | _, _, 0, _ => .nil
  | _, _, _ + 1, .nil => .nil
  | _, _, n + 1, .cons r t => .cons r (dpa_take n t)
theorem dpa_drop : ∀ {vs : List V} {ds : List D} (n : Nat), RepAll K H vs ds → RepAll K H (vs.drop n) (ds.drop n)
  | _, _, 0, r => r
  | _, _, _ + 1, .nil => .nil
  | _, _, n + 1, .cons _ t => dpa_drop n t
theorem dpa_rev : ∀ {vs : List V} {ds : List D}, RepAll K H vs ds → RepAll K H vs.reverse ds.reverse
  | _, _, .nil => .nil
  | _, _, .cons r t => by rw [List.reverse_cons, List.reverse_cons]; exact dpa_app (dpa_rev t) (.cons r .nil)
theorem dpa_set : ∀ {vs : List V} {ds : List D} {x : V} {d : D} (i : Nat), Rep K H x d → RepAll K H vs ds → RepAll K H (vs.set i x) (ds.set i d)
  | _, _, _, _, _, _, .nil => .nil
  | _, _, _, _, 0, q, .cons _ t => .cons q t
  | _, _, _, _, i + 1, q, .cons r t => .cons r (dpa_set i q t)
theorem dpa_perm : ∀ {vs us : List V} {ds : List D}, us.Perm vs → RepAll K H vs ds → ∃ es, es.Perm ds ∧ RepAll K H us es := by
  intro vs us ds p
  induction p generalizing ds with
  | nil => intro h; exact ⟨ds, .refl _, h⟩
  | cons x _ ih =>
    intro h
    cases h with
    | cons r t =>
      obtain ⟨es, p1, h1⟩ := ih t
      exact ⟨_ :: es, p1.cons _, .cons r h1⟩
  | swap x y l =>
    intro h
    cases h with
    | cons r t =>
      cases t with
      | cons r2 t2 => exact ⟨_ :: _ :: _, .swap _ _ _, .cons r2 (.cons r t2)⟩
  | trans _ _ ih1 ih2 =>
    intro h
    obtain ⟨e1, p1, h1⟩ := ih2 h
    obtain ⟨e2, p2, h2⟩ := ih1 h1
    exact ⟨e2, p2.trans p1, h2⟩
theorem dpa_ints : ∀ {vs : List V} {ds : List D} {is : List Int}, RepAll K H vs ds → intsOf ds = some is → vs = is.map V.int
  | _, _, _, .nil, e => by simp [intsOf] at e; subst e; rfl
  | _, d :: ds, is, .cons r t, e => by
    cases d with
    | int i =>
      cases r
      simp only [intsOf, intOf, Option.bind_some] at e
      cases q : intsOf ds with
      | none => rw [q] at e; simp at e
      | some js =>
        rw [q] at e
        simp only [Option.map_some, Option.some.injEq] at e
        subst e
        rw [dpa_ints t q, List.map_cons]
    | _ => simp [intsOf, intOf] at e
theorem dpa_bls : ∀ {vs : List V} {ds : List D} {is : List Bool}, RepAll K H vs ds → boolsOf ds = some is → vs = is.map V.bl
  | _, _, _, .nil, e => by simp [boolsOf] at e; subst e; rfl
  | _, d :: ds, is, .cons r t, e => by
    cases d with
    | bool i =>
      cases r
      simp only [boolsOf, boolOf, Option.bind_some] at e
      cases q : boolsOf ds with
      | none => rw [q] at e; simp at e
      | some js =>
        rw [q] at e
        simp only [Option.map_some, Option.some.injEq] at e
        subst e
        rw [dpa_bls t q, List.map_cons]
    | _ => simp [boolsOf, boolOf] at e
theorem ints_dpa : ∀ (is : List Int), RepAll K H (is.map V.int) (is.map .int)
  | [] => .nil
  | i :: is => .cons (.int i) (ints_dpa is)
end

/-! ### heaps that grow -/
structure Ext (H Hf H' Hf' : Hp) : Prop where
  s : Same H H'
  f : Same Hf Hf'
  sub : Same Hf' H'
  n : ∀ a, H a ≠ none → Hf a = none → Hf' a = none
theorem Ext.refl {H Hf : Hp} (h : Same Hf H) : Ext H Hf H Hf := ⟨Same.refl _, Same.refl _, h, fun _ _ h => h⟩
theorem Ext.trans {H Hf H1 Hf1 H2 Hf2 : Hp} (a : Ext H Hf H1 Hf1) (b : Ext H1 Hf1 H2 Hf2) : Ext H Hf H2 Hf2 where
  s := a.s.trans b.s
  f := a.f.trans b.f
  sub := b.sub
  n := fun c h1 h2 => b.n c (fun z => h1 (a.s.free z)) (a.n c h1 h2)
/-- a new object, which nobody will change -/
theorem Ext.new {H Hf : Hp} (h : Same Hf H) {p : Addr} {o : HO} (np : H p = none) : Ext H Hf (upd H p o) (upd Hf p o) where
  s := fun b u e => by rw [upd_ne (ne_of_none e np)]; exact e
  f := fun b u e => by rw [upd_ne (ne_of_none (h _ _ e) np)]; exact e
  sub := fun b u e => by
    by_cases hb : b = p
    · subst hb; rw [upd_same] at e; rw [upd_same]; exact e
    · rw [upd_ne hb] at e; rw [upd_ne hb]; exact h _ _ e
  n := fun c h1 h2 => by rw [upd_ne (fun z => h1 (by rw [z]; exact np))]; exact h2
/-- a new object of the def's own -/
theorem Ext.lay {H Hf : Hp} (h : Same Hf H) {p : Addr} {o : HO} (np : H p = none) : Ext H Hf (upd H p o) Hf where
  s := fun b u e => by rw [upd_ne (ne_of_none e np)]; exact e
  f := Same.refl _
  sub := fun b u e => by rw [upd_ne (ne_of_none (h _ _ e) np)]; exact h _ _ e
  n := fun c _ h2 => h2
theorem Ext.sub0 {H Hf H' Hf' : Hp} (e : Ext H Hf H' Hf') : Same Hf H' := e.f.trans e.sub
/-- what stands in the heap is frozen too -/
theorem Ext.add {H Hf H' Hf' : Hp} (e : Ext H Hf H' Hf') {p : Addr} {o : HO} (h : H' p = some o) (hn : Hf' p = none) (hf : H p ≠ none → Hf p ≠ none) : Ext H Hf H' (upd Hf' p o) where
  s := e.s
  f := fun b u q => by rw [upd_ne (ne_of_none (e.f _ _ q) hn)]; exact e.f _ _ q
  sub := fun b u q => by
    by_cases hb : b = p
    · subst hb; rw [upd_same] at q; cases q; exact h
    · rw [upd_ne hb] at q; exact e.sub _ _ q
  n := fun c h1 h2 => by
    have ne : c ≠ p := fun z => by subst z; exact hf h1 h2
    rw [upd_ne ne]; exact e.n c h1 h2
theorem same_updf {Hf : Hp} {p : Addr} {o : HO} (hn : Hf p = none) : Same Hf (upd Hf p o) := fun b u q => by rw [upd_ne (ne_of_none q hn)]; exact q

/-! ### kinds of values -/
inductive Kd where
  | sh | fr | bw | dI | dT | bd
  | mu (i : Nat) (s : Stat)
  deriving DecidableEq

/-- hash of a tuple of ints -/
def thI (is : List Int) : Int := reduceHash (Builtin.Tuple.tupleHashOf (is.map hashInt))
/-- a dict's object -/
def RawD (a : Addr) (es : Array DictEntry) (ep : Nat) : Heap → Prop := fun h => (a == sysModules) = false ∧ ∃ o, h.get? a = some o ∧ o.ExactDict ∧ o.data = .dict es ep
abbrev DO (a : Addr) (es : Array DictEntry) (ep : Nat) : HO := .ext (RawD a es ep)
/-- an entry's key is the datum k -/
def KeyR (K : Fg) (Hf : Hp) (tk : Bool) (e : DictEntry) (k : D) : Prop :=
  match tk with
  | false => ∃ i t, e.key = .int i t ∧ e.hash = hashInt i ∧ k = .int i
  | true => ∃ q is, e.key = .ref q ∧ e.hash = thI is ∧ k = .tuple (is.map .int) ∧ TupK K Hf q (is.map V.int)
/-- a dict's pairs; ints as keys, tuples of ints as keys -/
structure DcR (K : Fg) (Hf : Hp) (tk : Bool) (es : Array DictEntry) (kvs : List (D × D)) : Prop where
  ps : Paired (fun (e : DictEntry) (p : D × D) => KeyR K Hf tk e p.1 ∧ ∃ v, RelV v e.val ∧ Rep K Hf v p.2) es.toList kvs
  nd : (kvs.map (·.1)).Nodup
  sz : kvs.length ≤ BIG
theorem KeyR.mono {K : Fg} {H H' : Hp} (s : Same H H') {tk : Bool} {e : DictEntry} {k : D} (h : KeyR K H tk e k) : KeyR K H' tk e k := by
  cases tk with
  | false => exact h
  | true => obtain ⟨q, is, h1, h2, h3, h4⟩ := h; exact ⟨q, is, h1, h2, h3, h4.mono s⟩
theorem DcR.mono {K : Fg} {H H' : Hp} (e : Same H H') {tk : Bool} {es : Array DictEntry} {kvs : List (D × D)} (h : DcR K H tk es kvs) : DcR K H' tk es kvs :=
  ⟨Paired.mapP h.ps fun _ _ ⟨h1, v, h2, h3⟩ => ⟨h1.mono e, v, h2, Rep.mono e _ h3⟩, h.nd, h.sz⟩

/-- a value that may be read as d: its items are frozen -/
inductive RV (K : Fg) (H Hf : Hp) (v : V) (d : D) : Prop where
  | sh (h : Rep K Hf v d)
  | lst (a : Addr) (xs : List V) (ds : List D) (hv : v = .ref a) (hd : d = .list ds) (h : Rd H a (.lst xs)) (hx : RepAll K Hf xs ds)
  | dct (tk : Bool) (a : Addr) (es : Array DictEntry) (ep : Nat) (kvs : List (D × D)) (hv : v = .ref a) (hd : d = mkD tk kvs) (h : H a = some (DO a es ep)) (hx : DcR K Hf tk es kvs)
theorem RV.mono {K : Fg} {H Hf H' Hf' : Hp} {v : V} {d : D} (r : RV K H Hf v d) (e : Same H H') (f : Same Hf Hf') : RV K H' Hf' v d := by
  cases r with
  | sh h => exact .sh (Rep.mono f d h)
  | lst a xs ds hv hd h hx => exact .lst a xs ds hv hd (Same.rd e h) (RepAll.mono f _ hx)
  | dct tk a es ep kvs hv hd h hx => exact .dct tk a es ep kvs hv hd (e _ _ h) (hx.mono f)
/-- the result of an expression that began at H -/
def RR (K : Fg) (H H' Hf' : Hp) (κ : Kd) (v : V) (d : D) : Prop :=
  match κ with
  | .sh => Rep K Hf' v d
  | .fr => ∃ a xs ds, v = .ref a ∧ d = .list ds ∧ H a = none ∧ H' a = some (.lst xs) ∧ Hf' a = none ∧ RepAll K Hf' xs ds
  | .bw => ∃ a xs ds, v = .ref a ∧ d = .list ds ∧ Rd H' a (.lst xs) ∧ RepAll K Hf' xs ds
  | .dI => ∃ a es ep kvs, v = .ref a ∧ d = mkD false kvs ∧ H a = none ∧ H' a = some (DO a es ep) ∧ Hf' a = none ∧ DcR K Hf' false es kvs
  | .dT => ∃ a es ep kvs, v = .ref a ∧ d = mkD true kvs ∧ H a = none ∧ H' a = some (DO a es ep) ∧ Hf' a = none ∧ DcR K Hf' true es kvs
  | .bd => ∃ tk a es ep kvs, v = .ref a ∧ d = mkD tk kvs ∧ H' a = some (DO a es ep) ∧ DcR K Hf' tk es kvs
  | .mu _ _ => False
theorem RR.rv {K : Fg} {H H' Hf' : Hp} {κ : Kd} {v : V} {d : D} (r : RR K H H' Hf' κ v d) : RV K H' Hf' v d := by
  cases κ with
  | mu i s => exact r.elim
  | sh => exact .sh r
  | fr => obtain ⟨a, xs, ds, h1, h2, _, h4, _, h6⟩ := r; exact .lst a xs ds h1 h2 (.inl h4) h6
  | bw => obtain ⟨a, xs, ds, h1, h2, h4, h6⟩ := r; exact .lst a xs ds h1 h2 h4 h6
  | dI => obtain ⟨a, es, ep, ds, h1, h2, _, h4, _, h6⟩ := r; exact .dct _ a es ep ds h1 h2 h4 h6
  | dT => obtain ⟨a, es, ep, ds, h1, h2, _, h4, _, h6⟩ := r; exact .dct _ a es ep ds h1 h2 h4 h6
  | bd => obtain ⟨tk, a, es, ep, ds, h1, h2, h4, h6⟩ := r; exact .dct tk a es ep ds h1 h2 h4 h6
/-- of an expression that began earlier -/
theorem RR.back {K : Fg} {H0 H H' Hf' : Hp} {κ : Kd} {v : V} {d : D} (e : Same H0 H) (r : RR K H H' Hf' κ v d) : RR K H0 H' Hf' κ v d := by
  cases κ with
  | mu i s => exact r
  | sh => exact r
  | fr => obtain ⟨a, xs, ds, h1, h2, h3, h4⟩ := r; exact ⟨a, xs, ds, h1, h2, e.free h3, h4⟩
  | bw => exact r
  | dI => obtain ⟨a, es, ep, ds, h1, h2, h3, h4⟩ := r; exact ⟨a, es, ep, ds, h1, h2, e.free h3, h4⟩
  | dT => obtain ⟨a, es, ep, ds, h1, h2, h3, h4⟩ := r; exact ⟨a, es, ep, ds, h1, h2, e.free h3, h4⟩
  | bd => exact r
/-- a fresh list is frozen -/
theorem RR.freeze {K : Fg} {H Hf H' Hf' : Hp} {κ : Kd} {v : V} {d : D} (hk : κ = .sh ∨ κ = .fr) (e : Ext H Hf H' Hf') (r : RR K H H' Hf' κ v d) : ∃ Hf'', Ext H Hf H' Hf'' ∧ Same Hf' Hf'' ∧ Rep K Hf'' v d := by
  rcases hk with rfl | rfl
  · exact ⟨Hf', e, Same.refl _, r⟩
  · obtain ⟨a, xs, ds, rfl, rfl, h3, h4, h5, h6⟩ := r
    exact ⟨upd Hf' a (.lst xs), e.add h4 h5 fun z => absurd h3 z, same_updf h5, .lst (.inl (.inl upd_same)) (RepAll.mono (same_updf h5) _ h6)⟩

/-! ### slots -/
def SlotOk (K : Fg) (H Hf Lk : Hp) (s : Stat) (o : Option V) (d : D) : Prop :=
  match s with
  | .dead => True
  | .sh => ∃ v, o = some v ∧ Rep K Hf v d
  | .own => ∃ a xs ds, o = some (.ref a) ∧ d = .list ds ∧ H a = some (.lst xs) ∧ Hf a = none ∧ Lk a = none ∧ RepAll K Hf xs ds
  | .lck => ∃ a xs ds, o = some (.ref a) ∧ d = .list ds ∧ Lk a = some (.lst xs) ∧ RepAll K Hf xs ds
  | .dI => ∃ a es ep kvs, o = some (.ref a) ∧ d = mkD false kvs ∧ H a = some (DO a es ep) ∧ Hf a = none ∧ Lk a = none ∧ DcR K Hf false es kvs
  | .dT => ∃ a es ep kvs, o = some (.ref a) ∧ d = mkD true kvs ∧ H a = some (DO a es ep) ∧ Hf a = none ∧ Lk a = none ∧ DcR K Hf true es kvs
  | .dIl => ∃ a es ep kvs, o = some (.ref a) ∧ d = mkD false kvs ∧ Lk a = some (DO a es ep) ∧ DcR K Hf false es kvs
  | .dTl => ∃ a es ep kvs, o = some (.ref a) ∧ d = mkD true kvs ∧ Lk a = some (DO a es ep) ∧ DcR K Hf true es kvs
/-- slots whose object the def may change -/
def Stat.mut : Stat → Bool
  | .own => true
  | .dI => true
  | .dT => true
  | _ => false
/-- what a slot gives when it is read -/
def Stat.kd : Stat → Option Kd
  | .dead => none
  | .sh => some .sh
  | .own => some .bw
  | .lck => some .bw
  | _ => some .bd
structure SOk (K : Fg) (σ : L2.St) (H Hf Lk : Hp) (st : List Stat) (ρ : Rho) : Prop where
  ls : st.length = σ.length
  lr : ρ.length = σ.length
  sub : Same Hf H
  lk : Same Lk H
  dj : ∀ a, Lk a ≠ none → Hf a = none
  slot : ∀ (i : Nat) (s : Stat) (o : Option V) (d : D), st[i]? = some s → σ[i]? = some o → ρ[i]? = some d → SlotOk K H Hf Lk s o d
  ne : ∀ (i j : Nat) (a : Addr) (s t : Stat), i ≠ j → st[i]? = some s → st[j]? = some t → s.mut = true → t.mut = true → σ[i]? = some (some (.ref a)) → σ[j]? = some (some (.ref a)) → False
theorem SlotOk.mono {K : Fg} {H Hf Lk H' Hf' : Hp} {s : Stat} {o : Option V} {d : D} (e : Ext H Hf H' Hf') (h : SlotOk K H Hf Lk s o d) : SlotOk K H' Hf' Lk s o d := by
  have nn : ∀ {a : Addr} {u : HO}, H a = some u → H a ≠ none := fun q z => by rw [z] at q; cases q
  cases s with
  | dead => trivial
  | sh => obtain ⟨v, h1, h2⟩ := h; exact ⟨v, h1, Rep.mono e.f _ h2⟩
  | own => obtain ⟨a, xs, ds, h1, h2, h3, h4, h5, h6⟩ := h; exact ⟨a, xs, ds, h1, h2, e.s _ _ h3, e.n a (nn h3) h4, h5, RepAll.mono e.f _ h6⟩
  | lck => obtain ⟨a, xs, ds, h1, h2, h3, h6⟩ := h; exact ⟨a, xs, ds, h1, h2, h3, RepAll.mono e.f _ h6⟩
  | dI => obtain ⟨a, es, ep, ds, h1, h2, h3, h4, h5, h6⟩ := h; exact ⟨a, es, ep, ds, h1, h2, e.s _ _ h3, e.n a (nn h3) h4, h5, h6.mono e.f⟩
  | dT => obtain ⟨a, es, ep, ds, h1, h2, h3, h4, h5, h6⟩ := h; exact ⟨a, es, ep, ds, h1, h2, e.s _ _ h3, e.n a (nn h3) h4, h5, h6.mono e.f⟩
  | dIl => obtain ⟨a, es, ep, ds, h1, h2, h3, h6⟩ := h; exact ⟨a, es, ep, ds, h1, h2, h3, h6.mono e.f⟩
  | dTl => obtain ⟨a, es, ep, ds, h1, h2, h3, h6⟩ := h; exact ⟨a, es, ep, ds, h1, h2, h3, h6.mono e.f⟩
theorem SOk.mono {K : Fg} {σ : L2.St} {H Hf Lk H' Hf' : Hp} {st : List Stat} {ρ : Rho} (h : SOk K σ H Hf Lk st ρ) (e : Ext H Hf H' Hf') : SOk K σ H' Hf' Lk st ρ where
  ls := h.ls
  lr := h.lr
  sub := e.sub
  lk := h.lk.trans e.s
  dj := fun a q => e.n a (fun z => q (by cases w : Lk a with | none => rfl | some u => rw [h.lk _ _ w] at z; cases z)) (h.dj a q)
  slot := fun i s o d h1 h2 h3 => (h.slot i s o d h1 h2 h3).mono e
  ne := h.ne
/-- reading a slot -/
theorem SOk.read {K : Fg} {σ : L2.St} {H Hf Lk : Hp} {st : List Stat} {ρ : Rho} {i : Nat} {s : Stat} {κ : Kd} {d : D} (h : SOk K σ H Hf Lk st ρ) (hs : st[i]? = some s) (hk : s.kd = some κ) (hd : ρ[i]? = some d) :
    ∃ v, σ[i]? = some (some v) ∧ RR K H H Hf κ v d := by
  have hi : i < σ.length := by rw [← h.ls]; exact (List.getElem?_eq_some_iff.mp hs).1
  have q := h.slot i s σ[i] d hs (List.getElem?_eq_getElem hi) hd
  rw [List.getElem?_eq_getElem hi]
  cases s with
  | dead => cases hk
  | sh => cases hk; obtain ⟨v, h1, h2⟩ := q; exact ⟨v, by rw [h1], h2⟩
  | own => cases hk; obtain ⟨a, xs, ds, h1, h2, h3, h4, h5, h6⟩ := q; exact ⟨_, by rw [h1], a, xs, ds, rfl, h2, .inl h3, h6⟩
  | lck => cases hk; obtain ⟨a, xs, ds, h1, h2, h3, h6⟩ := q; exact ⟨_, by rw [h1], a, xs, ds, rfl, h2, .inl (h.lk _ _ h3), h6⟩
  | dI => cases hk; obtain ⟨a, es, ep, ds, h1, h2, h3, h4, h5, h6⟩ := q; exact ⟨_, by rw [h1], _, a, es, ep, ds, rfl, h2, h3, h6⟩
  | dT => cases hk; obtain ⟨a, es, ep, ds, h1, h2, h3, h4, h5, h6⟩ := q; exact ⟨_, by rw [h1], _, a, es, ep, ds, rfl, h2, h3, h6⟩
  | dIl => cases hk; obtain ⟨a, es, ep, ds, h1, h2, h3, h6⟩ := q; exact ⟨_, by rw [h1], _, a, es, ep, ds, rfl, h2, h.lk _ _ h3, h6⟩
  | dTl => cases hk; obtain ⟨a, es, ep, ds, h1, h2, h3, h6⟩ := q; exact ⟨_, by rw [h1], _, a, es, ep, ds, rfl, h2, h.lk _ _ h3, h6⟩
end Orp

/-! Orp, part 3: the operations. -/
namespace Orp
open PySem PySem.Spec PyProof.Rows L2

/-! ### what a value is, by its datum -/
section
variable {K : Fg} {H Hf : Hp} {v : V}
theorem RV.none (r : RV K H Hf v .none) : v = .non := by
  cases r with
  | sh h => cases h; rfl
  | lst a xs ds hv hd => cases hd
  | dct tk a es ep kvs hv hd => cases hd
theorem RV.bool {b : Bool} (r : RV K H Hf v (.bool b)) : v = .bl b := by
  cases r with
  | sh h => cases h; rfl
  | lst a xs ds hv hd => cases hd
  | dct tk a es ep kvs hv hd => cases hd
theorem RV.int {i : Int} (r : RV K H Hf v (.int i)) : v = .int i := by
  cases r with
  | sh h => cases h; rfl
  | lst a xs ds hv hd => cases hd
  | dct tk a es ep kvs hv hd => cases hd
theorem RV.str {s : Str} (r : RV K H Hf v (.str s)) : v = .str s := by
  cases r with
  | sh h => cases h; rfl
  | lst a xs ds hv hd => cases hd
  | dct tk a es ep kvs hv hd => cases hd
theorem RV.tup {ds : List D} (r : RV K H Hf v (.tuple ds)) : ∃ a xs, v = .ref a ∧ TupK K Hf a xs ∧ RepAll K Hf xs ds := by
  cases r with
  | sh h => cases h with
    | tup h1 h2 => exact ⟨_, _, rfl, h1, h2⟩
  | lst a xs ds hv hd => cases hd
  | dct tk a es ep kvs hv hd => cases hd
theorem RV.list {ds : List D} (s : Same Hf H) (r : RV K H Hf v (.list ds)) : ∃ a xs, v = .ref a ∧ SqL K H a xs ∧ RepAll K Hf xs ds := by
  cases r with
  | sh h => cases h with
    | lst h1 h2 => exact ⟨_, _, rfl, s.seq h1, h2⟩
  | lst a xs ds' hv hd h hx => cases hd; exact ⟨a, xs, hv, .inl h, hx⟩
  | dct tk a es ep kvs hv hd => cases hd
theorem RV.dict {kvs : List (D × D)} (r : RV K H Hf v (.dict kvs)) : ∃ tk a es ep ks, v = .ref a ∧ kvs = (.bool tk, .none) :: ks ∧ H a = some (DO a es ep) ∧ DcR K Hf tk es ks := by
  cases r with
  | sh h => cases h
  | lst a xs ds hv hd => cases hd
  | dct tk a es ep kvs' hv hd h hx => cases hd; exact ⟨tk, a, es, ep, kvs', hv, rfl, h, hx⟩
/-- any datum but a dict, by the whole heap -/
theorem RV.rep {d : D} (s : Same Hf H) (hd : ∀ kvs, d ≠ .dict kvs) (r : RV K H Hf v d) : Rep K H v d := by
  cases r with
  | sh h => exact Rep.mono s d h
  | lst a xs ds hv hd' h hx => subst hv hd'; exact .lst (.inl h) (RepAll.mono s _ hx)
  | dct tk a es ep kvs hv hd' => exact absurd hd' (hd _)
end

mutual
theorem Rep.nodict {K : Fg} {H : Hp} : ∀ (d : D) {v : V}, Rep K H v d → ∀ kvs, d ≠ .dict kvs
  | .dict _, _, h, _, _ => by cases h
  | .none, _, _, _, e => by cases e
  | .bool _, _, _, _, e => by cases e
  | .int _, _, _, _, e => by cases e
  | .str _, _, _, _, e => by cases e
  | .list _, _, _, _, e => by cases e
  | .tuple _, _, _, _, e => by cases e
end

/-! ### operations on values -/
/-- of one place -/
def R1Ok (K : Fg) (f : D → Option D) (κ : Kd) (r : V → Hp → VK → Prop) : Prop :=
  ∀ (H Hf : Hp) (v : V) (x d : D) (Q : VK), Same Hf H → RV K H Hf v x → f x = some d → (∀ w H' Hf', Ext H Hf H' Hf' → RR K H H' Hf' κ w d → Q w H') → r v H Q
/-- of two -/
def R2Ok (K : Fg) (f : D → D → Option D) (κ : Kd) (r : R2) : Prop :=
  ∀ (H Hf : Hp) (v u : V) (x y d : D) (Q : VK), Same Hf H → RV K H Hf v x → RV K H Hf u y → f x y = some d → (∀ w H' Hf', Ext H Hf H' Hf' → RR K H H' Hf' κ w d → Q w H') → r v u H Q
section
variable {K : Fg} {H Hf : Hp} {Q : VK}
/-- nothing new is made -/
theorem fin0 {w : V} {d : D} (s : Same Hf H) (r : Rep K Hf w d) (q : ∀ w H' Hf', Ext H Hf H' Hf' → RR K H H' Hf' .sh w d → Q w H') : Q w H := q w H Hf (Ext.refl s) r
/-- a new tuple -/
theorem finT {p : Addr} {ob : Obj} {xs : List V} {ds : List D} (s : Same Hf H) (np : H p = none) (hd : ob.dict = none) (r : RepAll K Hf xs ds) (q : ∀ w H' Hf', Ext H Hf H' Hf' → RR K H H' Hf' .sh w (.tuple ds) → Q w H') :
    Q (.ref p) (upd H p (.frz ob (.tup xs))) := by
  refine q _ _ _ (Ext.new s np) (.tup (.inl ⟨ob, upd_same, hd⟩) (RepAll.mono (fun b u e => ?_) _ r))
  rw [upd_ne (ne_of_none (s _ _ e) np)]
  exact e
/-- a new list that is the def's own -/
theorem finL {p : Addr} {xs : List V} {ds : List D} (s : Same Hf H) (np : H p = none) (r : RepAll K Hf xs ds) (q : ∀ w H' Hf', Ext H Hf H' Hf' → RR K H H' Hf' .fr w (.list ds) → Q w H') :
    Q (.ref p) (upd H p (.lst xs)) :=
  q _ _ _ (Ext.lay s np) ⟨p, xs, ds, rfl, rfl, np, upd_same, s.free np, r⟩
/-- a new list that nobody will change -/
theorem finS {p : Addr} {xs : List V} {ds : List D} (s : Same Hf H) (np : H p = none) (r : RepAll K Hf xs ds) (q : ∀ w H' Hf', Ext H Hf H' Hf' → RR K H H' Hf' .sh w (.list ds) → Q w H') :
    Q (.ref p) (upd H p (.lst xs)) := by
  refine q _ _ _ (Ext.new s np) (.lst (.inl (.inl upd_same)) (RepAll.mono (fun b u e => ?_) _ r))
  rw [upd_ne (ne_of_none (s _ _ e) np)]
  exact e
end

section
variable {X : Cx}
/-! ### numbers -/
theorem int_int {f : D → D → Option D} {o : O2} {g : Int → Int → Int} {C : Int → Int → Prop} {K : Fg} (hf : ∀ x y d, o2F o x y = some d → ∃ i j, x = .int i ∧ y = .int j ∧ C i j ∧ d = .int (g i j)) :
    R2Ok K (o2F o) .sh (rI C fun i j => .int (g i j)) := by
  intro H Hf v u x y d Q s rx ry e q
  obtain ⟨i, j, rfl, rfl, c, rfl⟩ := hf x y d e
  exact ⟨i, j, rx.int, ry.int, c, fin0 s (.int _) q⟩
theorem int_bl {o : O2} {g : Int → Int → Bool} {K : Fg} (hf : ∀ x y d, o2F o x y = some d → ∃ i j, x = .int i ∧ y = .int j ∧ d = .bool (g i j)) :
    R2Ok K (o2F o) .sh (rI0 fun i j => .bl (g i j)) := by
  intro H Hf v u x y d Q s rx ry e q
  obtain ⟨i, j, rfl, rfl, rfl⟩ := hf x y d e
  exact ⟨i, j, rx.int, ry.int, fin0 s (.bl _) q⟩
theorem sm64_iff {i : Int} : sm64 i = true ↔ -(2 ^ 64) < i ∧ i < 2 ^ 64 := by simp [sm64]
theorem pr_sub : OpR X (binaryOp .Sub) (rI (fun _ _ => True) fun i j => .int (i - j)) ∧ R2Ok X.K (o2F .sub) .sh (rI (fun _ _ => True) fun i j => .int (i - j)) := by
  refine ⟨fun pins s σ H x y v u Q I rx ry ⟨i, j, h1, h2, _, h3⟩ => op_sub pins s σ H x y v u Q I rx ry ⟨i, j, h1, h2, h3⟩, int_int (o := .sub) (f := o2F .sub) fun x y d e => ?_⟩
  cases x <;> cases y <;> simp [o2F] at e
  exact ⟨_, _, rfl, rfl, trivial, e.symm⟩
theorem pr_mul : OpR X (binaryOp .Mult) (rI CMul fun i j => .int (i * j)) ∧ R2Ok X.K (o2F .mul) .sh (rI CMul fun i j => .int (i * j)) := by
  refine ⟨op_mul, int_int (o := .mul) (f := o2F .mul) fun x y d e => ?_⟩
  cases x <;> cases y <;> simp [o2F] at e
  obtain ⟨h, e⟩ := e
  refine ⟨_, _, rfl, rfl, ?_, e.symm⟩
  rcases h with h | h
  · exact .inl (sm64_iff.mp h)
  · exact .inr (sm64_iff.mp h)
theorem pr_fdiv : OpR X (binaryOp .FloorDiv) (rI CDiv fun i j => .int (i / j)) ∧ R2Ok X.K (o2F .fdiv) .sh (rI CDiv fun i j => .int (i / j)) := by
  refine ⟨op_fdiv, int_int (o := .fdiv) (f := o2F .fdiv) fun x y d e => ?_⟩
  cases x <;> cases y <;> simp [o2F] at e
  exact ⟨_, _, rfl, rfl, ⟨e.1.1, e.1.2⟩, e.2.symm⟩
theorem pr_mod : OpR X (binaryOp .Mod) (rI (fun _ j => 0 < j) fun i j => .int (i % j)) ∧ R2Ok X.K (o2F .mod) .sh (rI (fun _ j => 0 < j) fun i j => .int (i % j)) := by
  refine ⟨op_mod, int_int (o := .mod) (f := o2F .mod) fun x y d e => ?_⟩
  cases x <;> cases y <;> simp [o2F] at e
  exact ⟨_, _, rfl, rfl, e.1, e.2.symm⟩
theorem cpow_of {i j : Int} (h : sm64 i = true) (h0 : 0 ≤ j) (h1 : j ≤ 1000) : CPow i j := by
  obtain ⟨a, b⟩ := sm64_iff.mp h
  exact ⟨h0, by omega, by omega⟩
theorem pr_pow : OpR X (binaryOp .Pow) (rI CPow fun i j => .int (i ^ j.toNat)) ∧ R2Ok X.K (o2F .pow) .sh (rI CPow fun i j => .int (i ^ j.toNat)) := by
  refine ⟨op_pow, int_int (o := .pow) (f := o2F .pow) fun x y d e => ?_⟩
  cases x <;> cases y <;> simp [o2F] at e
  exact ⟨_, _, rfl, rfl, cpow_of e.1.1 e.1.2.1 e.1.2.2, e.2.symm⟩
theorem pr_shl : OpR X (binaryOp .LShift) (rI CPow fun i j => .int (i * 2 ^ j.toNat)) ∧ R2Ok X.K (o2F .shl) .sh (rI CPow fun i j => .int (i * 2 ^ j.toNat)) := by
  refine ⟨op_shl, int_int (o := .shl) (f := o2F .shl) fun x y d e => ?_⟩
  cases x <;> cases y <;> simp [o2F] at e
  exact ⟨_, _, rfl, rfl, cpow_of e.1.1 e.1.2.1 e.1.2.2, e.2.symm⟩
theorem pr_shr : OpR X (binaryOp .RShift) (rI (fun _ j => 0 ≤ j) fun i j => .int (i / 2 ^ j.toNat)) ∧ R2Ok X.K (o2F .shr) .sh (rI (fun _ j => 0 ≤ j) fun i j => .int (i / 2 ^ j.toNat)) := by
  refine ⟨op_shr, int_int (o := .shr) (f := o2F .shr) fun x y d e => ?_⟩
  cases x <;> cases y <;> simp [o2F] at e
  exact ⟨_, _, rfl, rfl, e.1, e.2.symm⟩
theorem bitAnd_nn {x y : Int} (hx : 0 ≤ x) (hy : 0 ≤ y) : Builtin.bitAnd x y = ((x.toNat &&& y.toNat : Nat) : Int) := by
  obtain ⟨a, rfl⟩ := Int.eq_ofNat_of_zero_le hx
  obtain ⟨b, rfl⟩ := Int.eq_ofNat_of_zero_le hy
  rfl
theorem bitAnd_nm {x y : Int} (hx : 0 ≤ x) (hy : ¬ 0 ≤ y) : Builtin.bitAnd x y = x - ((x.toNat &&& (-y - 1).toNat : Nat) : Int) := by
  unfold Builtin.bitAnd
  rw [decide_eq_true hx, decide_eq_false hy]
  rfl
theorem pr_band : OpR X (binaryOp .BitAnd) (rI0 fun i j => .int (Builtin.bitAnd i j)) ∧ R2Ok X.K (o2F .band) .sh (rI0 fun i j => .int (Builtin.bitAnd i j)) := by
  refine ⟨op_and, fun H Hf v u x y d Q s rx ry e q => ?_⟩
  cases x <;> cases y <;> simp [o2F, bandI] at e
  rename_i i j
  obtain ⟨k, ⟨h0, h1⟩, rfl⟩ := e
  refine ⟨i, j, rx.int, ry.int, ?_⟩
  have : Builtin.bitAnd i j = k := by
    by_cases hj : 0 ≤ j
    · rw [bitAnd_nn h0 hj]
      simpa [hj] using h1
    · rw [bitAnd_nm h0 hj]
      simpa [hj] using h1
  show Q (.int (Builtin.bitAnd i j)) H
  rw [this]
  exact fin0 s (.int _) q
theorem pr_bor : OpR X (binaryOp .BitOr) (rI0 fun i j => .int (Builtin.bitOr i j)) ∧ R2Ok X.K (o2F .bor) .sh (rI0 fun i j => .int (Builtin.bitOr i j)) := by
  refine ⟨op_or, fun H Hf v u x y d Q s rx ry e q => ?_⟩
  cases x <;> cases y <;> simp [o2F, borI] at e
  rename_i i j
  obtain ⟨k, ⟨h0, h1, rfl⟩, rfl⟩ := e
  refine ⟨i, j, rx.int, ry.int, ?_⟩
  show Q (.int (Builtin.bitOr i j)) H
  rw [Bits.bitOr_pp h0 h1]
  exact fin0 s (.int _) q
end
end Orp

/-! Orp, part 4: sums, comparisons, places. -/
namespace Orp
open PySem PySem.Spec PyProof.Rows L2
section
variable {X : Cx} {pins : List (Addr × Obj)} {σ : L2.St} {H : Hp} {s : Shared}
/-- a new tuple's object -/
abbrev tupO (its : List Value) : Obj := { cls := .type "tuple", data := .seq its.toArray }
/-- a new tuple is laid, its object known -/
theorem newT {its : List Value} {xs : List V} {t' : Nat} (I : Inv X pins σ H s) (r : Vals xs its) (hz : xs.length ≤ sizeLine) :
    Inv X pins σ (upd H s.heap.objs.size (.frz (tupO its) (.tup xs))) { s with heap := s.heap.push (tupO its), toks := t' } :=
  I.laid (fun b u e => Heap.get?_push_of_some _ e) (Nat.le_refl _) ⟨Heap.get?_push_size _ rfl, hz, its, r, IsTup.new _ _⟩
/-- what a rule that lays a new tuple hands on -/
abbrev NewT (H : Hp) (xs : List V) (Q : VK) : Prop := ∀ (p : Addr) (ob : Obj), ob.dict = none → H p = none → Q (.ref p) (upd H p (.frz ob (.tup xs)))
theorem epT {its : List Value} {xs : List V} {t' : Nat} {Q : VK} (I : Inv X pins σ H s) (r : Vals xs its) (hz : xs.length ≤ sizeLine) (q : NewT H xs Q) :
    EP X pins σ Q (.ref s.heap.objs.size) { s with heap := s.heap.push (tupO its), toks := t' } :=
  ⟨.ref _, _, newT I r hz, rfl, q _ _ rfl I.fresh⟩
abbrev NewL (H : Hp) (xs : List V) (Q : VK) : Prop := ∀ p : Addr, H p = none → Q (.ref p) (upd H p (.lst xs))
theorem epL {its : List Value} {xs : List V} {t' : Nat} {Q : VK} (I : Inv X pins σ H s) (r : Vals xs its) (hz : xs.length ≤ sizeLine) (q : NewL H xs Q) :
    EP X pins σ Q (.ref s.heap.objs.size) { s with heap := s.heap.push { cls := .type "list", data := .seq its.toArray }, toks := t' } :=
  ⟨.ref _, _, I.lnew r hz, rfl, q _ I.fresh⟩
end
theorem big_line : BIG = sizeLine := by rw [sizeLine_eq]; rfl

section
variable {X : Cx}
/-! ### + -/
def rAddT (K : Fg) : R2 := fun x y H Q => ∃ a b xs ys, x = .ref a ∧ y = .ref b ∧ SqT K H a xs ∧ SqT K H b ys ∧ xs.length + ys.length ≤ sizeLine ∧
  (xs = [] → Q (.ref b) H) ∧ (xs ≠ [] → ys = [] → Q (.ref a) H) ∧ (xs ≠ [] → ys ≠ [] → NewT H (xs ++ ys) Q)
theorem op_addT : OpR X (binaryOp .Add) (rAddT X.K) := by
  intro pins s σ H x y v u Q I rx ry h
  obtain ⟨a, b, xs, ys, rfl, rfl, ha, hb, hz, q0, q1, q2⟩ := h
  cases rx
  cases ry
  obtain ⟨its, r1, p1, _⟩ := I.tuple ha
  obtain ⟨its2, r2, p2, _⟩ := I.tuple hb
  by_cases hx : xs = []
  · subst hx
    cases r1
    exact cat_tup0 p1 p2 ⟨.ref b, H, I, rfl, q0 rfl⟩
  · have n1 : its ≠ [] := fun e => hx (r1.nil_iff.mp e)
    refine HT.cat_tup p1 p2 n1 (fun e => ⟨.ref a, H, I, rfl, q1 hx (r2.nil_iff.mp e)⟩) (fun e => epT (t' := s.toks) I (r1.append r2) (by rw [List.length_append]; exact hz) (q2 hx fun z => e (r2.nil_iff.mpr z))) (by rw [← r1.length, ← r2.length]; exact hz)
def rAddL (K : Fg) : R2 := fun x y H Q => ∃ a b xs ys, x = .ref a ∧ y = .ref b ∧ SqL K H a xs ∧ SqL K H b ys ∧ xs.length + ys.length ≤ sizeLine ∧ NewL H (xs ++ ys) Q
theorem op_addL : OpR X (binaryOp .Add) (rAddL X.K) := by
  intro pins s σ H x y v u Q I rx ry h
  obtain ⟨a, b, xs, ys, rfl, rfl, ha, hb, hz, q⟩ := h
  cases rx
  cases ry
  obtain ⟨its, r1, p1, _⟩ := I.list ha
  obtain ⟨its2, r2, p2, _⟩ := I.list hb
  obtain ⟨⟨cls, dd, data, sl⟩, n, ho, hc, hdn, hdt⟩ := p1
  obtain ⟨⟨cls2, dd2, data2, sl2⟩, n2, ho2, hc2, hdn2, hdt2⟩ := p2
  simp only at hc hdt hc2 hdt2
  subst hc hdt hc2 hdt2
  have e : its.toArray ++ its2.toArray = (its ++ its2).toArray := by simp
  refine concat_meets ⟨_, ho, rfl⟩ ⟨_, ho2, rfl⟩ noFill_list_add seq_list_add PySem.F.slot_list_add PySem.F.entry_list_add (PySem.F.args_list_add_2 _ _)
    (list_addW a b its.toArray its2.toArray n n2 dd dd2 sl sl2 (by rw [List.size_toArray, List.size_toArray, ← r1.length, ← r2.length]; exact hz)) ⟨ho, ho2, ?_⟩
  rw [e]
  exact epL (t' := s.toks) I (r1.append r2) (by rw [List.length_append]; exact hz) q
def rAddS : R2 := fun x y H Q => ∃ i j, x = .str i ∧ y = .str j ∧ i.length + j.length ≤ sizeLine ∧ Q (.str (i ++ j)) H
def rAdd4 (K : Fg) : R2 := fun x y H Q => rI0 (fun i j => .int (i + j)) x y H Q ∨ rAddT K x y H Q ∨ rAddL K x y H Q ∨ rAddS x y H Q
theorem str_size (s : Str) : s.length = s.cps.size := rfl
theorem pr_add : OpR X (binaryOp .Add) (rAdd4 X.K) ∧ R2Ok X.K (o2F .add) .sh (rAdd4 X.K) := by
  refine ⟨op_add.or (op_addT.or (op_addL.or op_add_str)), fun H Hf v u x y d Q s rx ry e q => ?_⟩
  cases x <;> cases y <;> simp [o2F] at e
  case int.int i j => subst e; exact .inl ⟨i, j, rx.int, ry.int, fin0 s (.int _) q⟩
  case tuple.tuple as bs =>
    obtain ⟨hz, rfl⟩ := e
    obtain ⟨a, xs, rfl, h1, h2⟩ := rx.tup
    obtain ⟨b, ys, rfl, h3, h4⟩ := ry.tup
    refine .inr (.inl ⟨a, b, xs, ys, rfl, rfl, (h1.mono s).sqt, (h3.mono s).sqt, by rw [dpa_len h2, dpa_len h4, ← big_line]; exact hz, fun n => ?_, fun _ n => ?_, fun _ _ p ob hd np => finT s np hd (dpa_app h2 h4) q⟩)
    · subst n
      cases h2
      exact fin0 s (.tup h3 h4) q
    · subst n
      cases h4
      rw [List.append_nil] at q
      exact fin0 s (.tup h1 h2) q
  case list.list as bs =>
    obtain ⟨hz, rfl⟩ := e
    obtain ⟨a, xs, rfl, h1, h2⟩ := rx.list s
    obtain ⟨b, ys, rfl, h3, h4⟩ := ry.list s
    exact .inr (.inr (.inl ⟨a, b, xs, ys, rfl, rfl, h1, h3, by rw [dpa_len h2, dpa_len h4, ← big_line]; exact hz, fun p np => finS s np (dpa_app h2 h4) q⟩))
  case str.str a b =>
    obtain ⟨hz, rfl⟩ := e
    exact .inr (.inr (.inr ⟨a, b, rx.str, ry.str, by rw [str_size, str_size, ← big_line]; exact hz, fin0 s (.str _) q⟩))

/-! ### comparisons -/
theorem okD_shaped {d : D} (h : okD d = true) : SeqAt.shaped d = true := by
  simp only [okD, Bool.and_eq_true, decide_eq_true_eq] at h
  simp only [SeqAt.shaped, Bool.and_eq_true, decide_eq_true_eq]
  exact ⟨h.1, by omega⟩
theorem okD_nodict {d : D} (h : okD d = true) : ∀ kvs, d ≠ .dict kvs := fun kvs e => by
  subst e
  simp [okD, PyData.canLay0] at h
theorem pr_eq (hu : X.A.units + 64 < cLine) : OpR X (compareOp .Eq) (rEqD X.K) ∧ R2Ok X.K (o2F .eq) .sh (rEqD X.K) := by
  refine ⟨op_eqD hu, fun H Hf v u x y d Q s rx ry e q => ?_⟩
  simp only [o2F, eqF] at e
  split at e
  · rename_i h
    simp only [Option.map_some, Option.some.injEq] at e
    subst e
    exact ⟨x, y, Rep.dp _ (rx.rep s (okD_nodict h.1)), Rep.dp _ (ry.rep s (okD_nodict h.2)), okD_shaped h.1, okD_shaped h.2, fin0 s (.bl _) q⟩
  · simp at e
theorem pr_ne (hu : X.A.units + 64 < cLine) : OpR X (compareOp .NotEq) (rNeD X.K) ∧ R2Ok X.K (o2F .ne) .sh (rNeD X.K) := by
  refine ⟨op_neD hu, fun H Hf v u x y d Q s rx ry e q => ?_⟩
  simp only [o2F, eqF] at e
  split at e
  · rename_i h
    simp only [Option.map_some, Option.some.injEq] at e
    subst e
    exact ⟨x, y, Rep.dp _ (rx.rep s (okD_nodict h.1)), Rep.dp _ (ry.rep s (okD_nodict h.2)), okD_shaped h.1, okD_shaped h.2, fin0 s (.bl _) q⟩
  · simp at e
theorem pr_le : OpR X (compareOp .LtE) (rI0 fun i j => .bl (decide (i ≤ j))) ∧ R2Ok X.K (o2F .le) .sh (rI0 fun i j => .bl (decide (i ≤ j))) := by
  refine ⟨op_le, int_bl (o := .le) fun x y d e => ?_⟩
  cases x <;> cases y <;> simp [o2F] at e
  exact ⟨_, _, rfl, rfl, e.symm⟩
theorem pr_gt : OpR X (compareOp .Gt) (rI0 fun i j => .bl (decide (j < i))) ∧ R2Ok X.K (o2F .gt) .sh (rI0 fun i j => .bl (decide (j < i))) := by
  refine ⟨op_gt, int_bl (o := .gt) fun x y d e => ?_⟩
  cases x <;> cases y <;> simp [o2F] at e
  exact ⟨_, _, rfl, rfl, e.symm⟩
theorem pr_ge : OpR X (compareOp .GtE) (rI0 fun i j => .bl (decide (j ≤ i))) ∧ R2Ok X.K (o2F .ge) .sh (rI0 fun i j => .bl (decide (j ≤ i))) := by
  refine ⟨op_ge, int_bl (o := .ge) fun x y d e => ?_⟩
  cases x <;> cases y <;> simp [o2F] at e
  exact ⟨_, _, rfl, rfl, e.symm⟩
mutual
theorem alk_alike : ∀ (x y : D), alk x y = true → PySem.W.alike x y = true
  | .int _, .int _, _ => by simp [PySem.W.alike]
  | .str _, .str _, _ => by simp [PySem.W.alike]
  | .tuple xs, .tuple ys, h => by
    simp only [PySem.W.alike]
    exact alkAll_alike xs ys (by simpa [alk] using h)
  | .none, _, h => by simp [alk] at h
  | .bool _, _, h => by simp [alk] at h
  | .list _, _, h => by simp [alk] at h
  | .dict _, _, h => by simp [alk] at h
  | .int _, .none, h => by simp [alk] at h
  | .int _, .bool _, h => by simp [alk] at h
  | .int _, .str _, h => by simp [alk] at h
  | .int _, .list _, h => by simp [alk] at h
  | .int _, .tuple _, h => by simp [alk] at h
  | .int _, .dict _, h => by simp [alk] at h
  | .str _, .none, h => by simp [alk] at h
  | .str _, .bool _, h => by simp [alk] at h
  | .str _, .int _, h => by simp [alk] at h
  | .str _, .list _, h => by simp [alk] at h
  | .str _, .tuple _, h => by simp [alk] at h
  | .str _, .dict _, h => by simp [alk] at h
  | .tuple _, .none, h => by simp [alk] at h
  | .tuple _, .bool _, h => by simp [alk] at h
  | .tuple _, .int _, h => by simp [alk] at h
  | .tuple _, .str _, h => by simp [alk] at h
  | .tuple _, .list _, h => by simp [alk] at h
  | .tuple _, .dict _, h => by simp [alk] at h
theorem alkAll_alike : ∀ (xs ys : List D), alkAll xs ys = true → PySem.W.alikeAll xs ys = true
  | [], _, _ => by simp [PySem.W.alikeAll]
  | _ :: _, [], _ => by simp [PySem.W.alikeAll]
  | x :: xs, y :: ys, h => by
    have h' : alk x y = true ∧ alkAll xs ys = true := by simpa [alkAll] using h
    simp only [PySem.W.alikeAll, alk_alike x y h'.1, alkAll_alike xs ys h'.2, Bool.and_self]
end
theorem alk_ne_none {x y : D} (h : alk x y = true) : x ≠ .none := fun e => by subst e; simp [alk] at h
mutual
theorem ltD_eq : ∀ (x y : D), alk x y = true → ltD x y = PySem.W.dataLt x y
  | .int i, .int j, _ => by rw [PySem.W.dataLt_int]; simp [ltD]
  | .str i, .str j, _ => by rw [PySem.W.dataLt_str]; simp [ltD]
  | .tuple xs, .tuple ys, h => by
    rw [PySem.W.dataLt_tuple, ltD]
    exact ltAll_eq xs ys (by simpa [alk] using h)
  | .none, _, h => by simp [alk] at h
  | .bool _, _, h => by simp [alk] at h
  | .list _, _, h => by simp [alk] at h
  | .dict _, _, h => by simp [alk] at h
  | .int _, .none, h => by simp [alk] at h
  | .int _, .bool _, h => by simp [alk] at h
  | .int _, .str _, h => by simp [alk] at h
  | .int _, .list _, h => by simp [alk] at h
  | .int _, .tuple _, h => by simp [alk] at h
  | .int _, .dict _, h => by simp [alk] at h
  | .str _, .none, h => by simp [alk] at h
  | .str _, .bool _, h => by simp [alk] at h
  | .str _, .int _, h => by simp [alk] at h
  | .str _, .list _, h => by simp [alk] at h
  | .str _, .tuple _, h => by simp [alk] at h
  | .str _, .dict _, h => by simp [alk] at h
  | .tuple _, .none, h => by simp [alk] at h
  | .tuple _, .bool _, h => by simp [alk] at h
  | .tuple _, .int _, h => by simp [alk] at h
  | .tuple _, .str _, h => by simp [alk] at h
  | .tuple _, .list _, h => by simp [alk] at h
  | .tuple _, .dict _, h => by simp [alk] at h
theorem ltAll_eq : ∀ (xs ys : List D), alkAll xs ys = true → ltAll xs ys = PyProof.Rows.lexLt itemOrd (PySem.W.keyToksAll xs) (PySem.W.keyToksAll ys)
  | [], [], _ => by rfl
  | [], y :: ys, _ => by rfl
  | x :: xs, [], _ => by rfl
  | x :: xs, y :: ys, h => by
    have h' : alk x y = true ∧ alkAll xs ys = true := by simpa [alkAll] using h
    rw [ltAll]
    cases e : PyData.eqv x y with
    | true => rw [if_pos rfl, PySem.W.dataLt_all_yes (alk_alike x y h'.1) e]; exact ltAll_eq xs ys h'.2
    | false => rw [if_neg Bool.false_ne_true, PySem.W.dataLt_all_no (alk_alike x y h'.1) e]; exact ltD_eq x y h'.1
end
end
end Orp

/-! Orp, part 5: dicts. -/
namespace Orp
open PySem PySem.Spec PyProof.Rows L2

/-! ### pairs of data against pairs of values -/
section
variable {K : Fg} {Hf : Hp} {κ : Type} [DecidableEq κ] {enc : κ → D}
structure EncOk (enc : κ → D) : Prop where
  eq : ∀ a b, keyEq (enc a) (enc b) = decide (a = b)
theorem EncOk.inj (h : EncOk enc) {a b : κ} (e : enc a = enc b) : a = b := by
  have := h.eq a b
  rw [e, h.eq b b] at this
  simpa using this
def PV (K : Fg) (Hf : Hp) (enc : κ → D) : List (D × D) → List (κ × Value) → Prop := Paired fun p q => p.1 = enc q.1 ∧ ∃ v, RelV v q.2 ∧ Rep K Hf v p.2
theorem pv_find (eo : EncOk enc) (k : κ) : ∀ {kvs : List (D × D)} {vs : List (κ × Value)}, PV K Hf enc kvs vs →
    (∀ d, getK kvs (enc k) = some d → ∃ u v, valueAt vs k = some u ∧ RelV v u ∧ Rep K Hf v d) ∧ (getK kvs (enc k) = none → valueAt vs k = none) := by
  intro kvs vs h
  induction h with
  | nil => exact ⟨fun d e => by simp [getK] at e, fun _ => rfl⟩
  | @cons p q kvs vs r t ih =>
    obtain ⟨h1, v, h2, h3⟩ := r
    have hk : keyEq p.1 (enc k) = decide (q.1 = k) := by rw [h1, eo.eq]
    by_cases e : q.1 = k
    · have e1 : getK (p :: kvs) (enc k) = some p.2 := by simp [getK, List.find?_cons, hk, e]
      have e2 : valueAt (q :: vs) k = some q.2 := by simp [valueAt, List.find?_cons, e]
      rw [e1, e2]
      refine ⟨fun d z => ?_, fun z => by cases z⟩
      cases z
      exact ⟨q.2, v, rfl, h2, h3⟩
    · have e1 : getK (p :: kvs) (enc k) = getK kvs (enc k) := by simp [getK, List.find?_cons, hk, e]
      have e2 : valueAt (q :: vs) k = valueAt vs k := by simp [valueAt, List.find?_cons, e]
      rw [e1, e2]
      exact ih
theorem pv_some (eo : EncOk enc) (k : κ) {kvs : List (D × D)} {vs : List (κ × Value)} (h : PV K Hf enc kvs vs) : (getK kvs (enc k)).isSome = (valueAt vs k).isSome := by
  have q := pv_find eo k h
  cases e : getK kvs (enc k) with
  | none => rw [q.2 e]; rfl
  | some d => obtain ⟨u, v, h1, _⟩ := q.1 d e; rw [h1]; rfl
theorem pv_any (eo : EncOk enc) (k : κ) : ∀ {kvs : List (D × D)} {vs : List (κ × Value)}, PV K Hf enc kvs vs → (kvs.any fun p => keyEq p.1 (enc k)) = vs.any fun q => decide (q.1 = k)
  | _, _, .nil => rfl
  | p :: kvs, q :: vs, .cons r t => by rw [List.any_cons, List.any_cons, pv_any eo k t, r.1, eo.eq]
theorem pv_repl (eo : EncOk enc) (k : κ) {v : V} {u : Value} {d : D} (hv : RelV v u) (hr : Rep K Hf v d) : ∀ {kvs : List (D × D)} {vs : List (κ × Value)}, PV K Hf enc kvs vs →
    PV K Hf enc (kvs.map fun p => if keyEq p.1 (enc k) = true then (p.1, d) else p) (vs.map fun q => if q.1 = k then (q.1, u) else q)
  | _, _, .nil => .nil
  | p :: kvs, q :: vs, .cons r t => by
    rw [List.map_cons, List.map_cons]
    refine .cons ?_ (pv_repl eo k hv hr t)
    have hk : keyEq p.1 (enc k) = decide (q.1 = k) := by rw [r.1, eo.eq]
    by_cases e : q.1 = k
    · rw [if_pos (by rw [hk]; exact decide_eq_true e), if_pos e]
      exact ⟨r.1, v, hv, hr⟩
    · rw [if_neg (by rw [hk]; simpa using e), if_neg e]
      exact r
theorem pv_app : ∀ {kvs kvs' : List (D × D)} {vs vs' : List (κ × Value)}, PV K Hf enc kvs vs → PV K Hf enc kvs' vs' → PV K Hf enc (kvs ++ kvs') (vs ++ vs')
  | _, _, _, _, .nil, h => h
  | _, _, _, _, .cons r t, h => .cons r (pv_app t h)
theorem pv_put (eo : EncOk enc) (k : κ) {v : V} {u : Value} {d : D} (hv : RelV v u) (hr : Rep K Hf v d) {kvs : List (D × D)} {vs : List (κ × Value)} (h : PV K Hf enc kvs vs) :
    PV K Hf enc (putKD kvs (enc k) d) (stored vs k u) := by
  unfold putKD stored
  rw [pv_any eo k h]
  split
  · exact pv_repl eo k hv hr h
  · exact pv_app h (.cons ⟨rfl, v, hv, hr⟩ .nil)
theorem pv_len : ∀ {kvs : List (D × D)} {vs : List (κ × Value)}, PV K Hf enc kvs vs → kvs.length = vs.length
  | _, _, .nil => rfl
  | _, _, .cons _ t => by rw [List.length_cons, List.length_cons, pv_len t]
theorem pv_keys : ∀ {kvs : List (D × D)} {vs : List (κ × Value)}, PV K Hf enc kvs vs → kvs.map (·.1) = (vs.map (·.1)).map enc
  | _, _, .nil => rfl
  | _, _, .cons r t => by rw [List.map_cons, List.map_cons, List.map_cons, pv_keys t, r.1]
theorem nodup_enc (eo : EncOk enc) {ks : List κ} : (ks.map enc).Nodup ↔ ks.Nodup := by
  induction ks with
  | nil => simp
  | cons k ks ih =>
    rw [List.map_cons, List.nodup_cons, List.nodup_cons, ih]
    refine and_congr_left fun _ => not_congr ⟨fun h => ?_, fun h => List.mem_map.mpr ⟨k, h, rfl⟩⟩
    obtain ⟨j, h1, h2⟩ := List.mem_map.mp h
    rw [eo.inj h2] at h1
    exact h1
end
def encI (i : Int) : D := .int i
def encT (is : List Int) : D := .tuple (is.map .int)
theorem encI_ok : EncOk encI := ⟨fun a b => by simp [keyEq, encI, PyData.eqv, Bool.beq_eq_decide_eq]⟩
theorem eqvAll_ints : ∀ (is js : List Int), PyData.eqvAll (is.map .int) (js.map .int) = decide (is = js)
  | [], [] => by simp [PyData.eqvAll]
  | [], _ :: _ => by simp [PyData.eqvAll]
  | _ :: _, [] => by simp [PyData.eqvAll]
  | i :: is, j :: js => by
    rw [List.map_cons, List.map_cons, PyData.eqvAll, eqvAll_ints is js]
    by_cases h : i = j <;> by_cases h2 : is = js <;> simp [PyData.eqv, h, h2]
theorem encT_ok : EncOk encT := ⟨fun a b => by simp only [keyEq, encT, PyData.eqv]; exact eqvAll_ints a b⟩

section
variable {K : Fg} {Hf : Hp} {P : Program} {w : World}
/-! ### entries against pairs -/
/-- ints -/
theorem dcI_view : ∀ {es : List DictEntry} {kvs : List (D × D)}, Paired (fun (e : DictEntry) (p : D × D) => KeyR K Hf false e p.1 ∧ ∃ v, RelV v e.val ∧ Rep K Hf v p.2) es kvs →
    ∃ vs : List (Int × Value), (∀ e ∈ es, ∃ k, (intKind P w).is k e.key = true ∧ e.hash = (intKind P w).hash k) ∧ Pairs (intKind P w) es vs ∧ PV K Hf encI kvs vs
  | _, _, .nil => ⟨[], (fun _ h => nomatch h), .nil, .nil⟩
  | e :: es, p :: kvs, .cons r t => by
    obtain ⟨⟨i, t', h1, h2, h3⟩, v, h4, h5⟩ := r
    obtain ⟨vs, k1, k2, k3⟩ := dcI_view t
    have hi : (intKind P w).is i e.key = true := by rw [h1]; simp [PySem.intKind, Value.isInt]
    refine ⟨(i, e.val) :: vs, fun e' he => ?_, .cons hi rfl k2, .cons ⟨h3, v, h4, h5⟩ k3⟩
    rcases List.mem_cons.mp he with rfl | he
    · exact ⟨i, hi, h2⟩
    · exact k1 e' he
theorem dcI_back : ∀ {es : List DictEntry} {vs : List (Int × Value)} {kvs : List (D × D)}, (∀ e ∈ es, ∃ k, (intKind P w).is k e.key = true ∧ e.hash = (intKind P w).hash k) → Pairs (intKind P w) es vs → PV K Hf encI kvs vs →
    Paired (fun (e : DictEntry) (p : D × D) => KeyR K Hf false e p.1 ∧ ∃ v, RelV v e.val ∧ Rep K Hf v p.2) es kvs
  | _, _, _, _, .nil, .nil => .nil
  | e :: es, q :: vs, p :: kvs, h, .cons h1 h2 t, .cons r tt => by
    obtain ⟨k, k1, k2⟩ := h e List.mem_cons_self
    have ek : k = q.1 := (intKind P w).inj _ _ _ k1 h1
    obtain ⟨t', ht⟩ := Value.isInt_shape (k := q.1) (v := e.key) h1
    obtain ⟨r1, v, r2, r3⟩ := r
    refine .cons ⟨⟨q.1, t', ht, by rw [k2, ek]; rfl, r1⟩, v, by rw [h2]; exact r2, r3⟩ (dcI_back (fun e' he => h e' (List.mem_cons_of_mem _ he)) t tt)
/-- tuples of ints -/
def PX3 (K : Fg) (Hf : Hp) : List (D × D) → List (List Int × Addr × Value) → Prop := Paired fun p x => p.1 = encT x.1 ∧ TupK K Hf x.2.1 (x.1.map V.int) ∧ ∃ v, RelV v x.2.2 ∧ Rep K Hf v p.2
theorem dcT_view : ∀ {es : List DictEntry} {kvs : List (D × D)}, Paired (fun (e : DictEntry) (p : D × D) => KeyR K Hf true e p.1 ∧ ∃ v, RelV v e.val ∧ Rep K Hf v p.2) es kvs →
    ∃ xs : List (List Int × Addr × Value), es = xs.map (entryOfKey (tupleKind (intKind P w))) ∧ PX3 K Hf kvs xs
  | _, _, .nil => ⟨[], rfl, .nil⟩
  | e :: es, p :: kvs, .cons r t => by
    obtain ⟨⟨q, is, h1, h2, h3, h6⟩, v, h4, h5⟩ := r
    obtain ⟨xs, k1, k2⟩ := dcT_view t
    refine ⟨(is, q, e.val) :: xs, ?_, .cons ⟨h3, h6, v, h4, h5⟩ k2⟩
    rw [List.map_cons, k1]
    congr 1
    obtain ⟨eh, ek, ev⟩ := e
    simp only at h1 h2
    subst h1 h2
    rfl
theorem dcT_back : ∀ {xs : List (List Int × Addr × Value)} {kvs : List (D × D)}, PX3 K Hf kvs xs →
    Paired (fun (e : DictEntry) (p : D × D) => KeyR K Hf true e p.1 ∧ ∃ v, RelV v e.val ∧ Rep K Hf v p.2) (xs.map (entryOfKey (tupleKind (intKind P w)))) kvs
  | _, _, .nil => .nil
  | x :: xs, p :: kvs, .cons r t => by
    obtain ⟨h1, h2, v, h3, h4⟩ := r
    rw [List.map_cons]
    exact .cons ⟨⟨x.2.1, x.1, rfl, rfl, h1, h2⟩, v, h3, h4⟩ (dcT_back t)
theorem px_pv : ∀ {xs : List (List Int × Addr × Value)} {kvs : List (D × D)}, PX3 K Hf kvs xs → PV K Hf encT kvs (pairsH xs)
  | _, _, .nil => .nil
  | _, _, .cons r t => .cons ⟨r.1, r.2.2⟩ (px_pv t)
theorem px_put (k : List Int) {b : Addr} {v : V} {u : Value} {d : D} (hb : TupK K Hf b (k.map V.int)) (hv : RelV v u) (hr : Rep K Hf v d) {kvs : List (D × D)} {xs : List (List Int × Addr × Value)} (h : PX3 K Hf kvs xs) :
    PX3 K Hf (putKD kvs (encT k) d) (storedH xs k b u) := by
  have ap : ∀ {kvs kvs' : List (D × D)} {xs xs' : List (List Int × Addr × Value)}, PX3 K Hf kvs xs → PX3 K Hf kvs' xs' → PX3 K Hf (kvs ++ kvs') (xs ++ xs') := by
    intro kvs kvs' xs xs' h1 h2
    induction h1 with
    | nil => exact h2
    | cons r t ih => exact .cons r ih
  have rp : ∀ {kvs : List (D × D)} {xs : List (List Int × Addr × Value)}, PX3 K Hf kvs xs → PX3 K Hf (kvs.map fun p => if keyEq p.1 (encT k) = true then (p.1, d) else p) (xs.map (putAt k u)) := by
    intro kvs xs h
    induction h with
    | nil => exact .nil
    | @cons p x kvs xs r t ih =>
      rw [List.map_cons, List.map_cons]
      refine .cons ?_ ih
      have hk : keyEq p.1 (encT k) = decide (x.1 = k) := by rw [r.1, encT_ok.eq]
      unfold putAt
      by_cases e : x.1 = k
      · rw [if_pos (by rw [hk]; exact decide_eq_true e), if_pos e]
        exact ⟨r.1, r.2.1, v, hv, hr⟩
      · rw [if_neg (by rw [hk]; simpa using e), if_neg e]
        exact r
  unfold putKD storedH
  have ha := pv_any encT_ok k (px_pv h)
  rw [ha, any_pairsH]
  cases q : atKey xs k with
  | none => rw [Option.isSome_none, if_neg Bool.false_ne_true]; exact ap h (.cons ⟨rfl, hb, v, hv, hr⟩ .nil)
  | some y => rw [Option.isSome_some, if_pos rfl]; exact rp h
end
end Orp

/-! Orp, part 6: the operations on dicts. -/
namespace Orp
open PySem PySem.Spec PyProof.Rows L2
/-- x is the key k -/
def KeyV (K : Fg) (Hf : Hp) (tk : Bool) (x : V) (k : D) : Prop :=
  match tk with
  | false => ∃ i, x = .int i ∧ k = encI i
  | true => ∃ q is, x = .ref q ∧ k = encT is ∧ TupK K Hf q (is.map V.int)
theorem isIntK_int {d : D} (h : isIntK d = true) : ∃ i, d = .int i := by cases d <;> simp [isIntK] at h; exact ⟨_, rfl⟩
theorem allInt_map : ∀ {ds : List D}, ds.all isIntK = true → ∃ is : List Int, ds = is.map .int
  | [], _ => ⟨[], rfl⟩
  | d :: ds, h => by
    rw [List.all_cons, Bool.and_eq_true] at h
    obtain ⟨i, rfl⟩ := isIntK_int h.1
    obtain ⟨is, rfl⟩ := allInt_map h.2
    exact ⟨i :: is, rfl⟩
theorem isTupK_tup {d : D} (h : isTupK d = true) : ∃ is : List Int, d = encT is := by
  cases d <;> simp only [isTupK, Bool.false_eq_true] at h
  obtain ⟨is, rfl⟩ := allInt_map h
  exact ⟨is, rfl⟩
theorem repAll_ints {K : Fg} {H : Hp} : ∀ {vs : List V} {is : List Int}, RepAll K H vs (is.map .int) → vs = is.map V.int
  | _, [], h => by cases h; rfl
  | _, i :: is, h => by
    cases h with
    | cons r t => cases r; rw [repAll_ints t]; rfl
theorem key_of {K : Fg} {H Hf : Hp} {tk : Bool} {x : V} {k : D} (r : RV K H Hf x k) (h : keyOk tk k = true) : KeyV K Hf tk x k := by
  cases tk with
  | false => obtain ⟨i, rfl⟩ := isIntK_int (d := k) h; exact ⟨i, r.int, rfl⟩
  | true =>
    obtain ⟨is, rfl⟩ := isTupK_tup (d := k) h
    obtain ⟨a, xs, rfl, h1, h2⟩ := RV.tup (ds := is.map .int) r
    rw [repAll_ints h2] at h1
    exact ⟨a, is, rfl, rfl, h1⟩
theorem items_int {P : Program} {w : World} : ∀ {is : List Int} {us : List Value}, Vals (is.map V.int) us → ItemsAre (PySem.intKind P w) is us
  | [], _, .nil => .nil
  | i :: is, _, .cons r t => by
    obtain ⟨t', rfl⟩ := r
    exact .cons (by simp [PySem.intKind, Value.isInt]) (items_int t)
section
variable {X : Cx} {pins : List (Addr × Obj)} {σ : L2.St} {H Hf : Hp} {s : Shared} {a : Addr} {es : Array DictEntry} {ep : Nat} {kvs : List (D × D)} {tk : Bool} {x v : V} {k d : D} {u r : Value} {A : Around} {E : Value → Shared → Prop}
theorem d_raw (I : Inv X pins σ H s) (h : H a = some (DO a es ep)) : RawD a es ep s.heap := (I.hok a _ h).1
theorem keyT_is (I : Inv X pins σ H s) (f : Same Hf H) {q : Addr} {is : List Int} (h : TupK X.K Hf q (is.map V.int)) : (tupleKind (PySem.intKind X.prog X.w)).is s.heap is q := by
  obtain ⟨its, r, p, _⟩ := I.tuple (h.mono f).sqt
  obtain ⟨o, h1, h2, n, h3⟩ := p
  exact ⟨o, its.toArray, n, h1, h2, h3, by simpa using items_int r⟩
/-- ints as keys -/
theorem d_int (I : Inv X pins σ H s) (h : H a = some (DO a es ep)) (R : DcR X.K Hf false es kvs) : (a == sysModules) = false ∧ ∃ vs : List (Int × Value), s.heap.DictOf (PySem.intKind X.prog X.w) a vs ∧ PV X.K Hf encI kvs vs := by
  obtain ⟨h0, o, h1, h2, h3⟩ := d_raw I h
  obtain ⟨vs, k1, k2, k3⟩ := dcI_view (P := X.prog) (w := X.w) R.ps
  refine ⟨h0, vs, ⟨o, es, ep, h1, h2, h3, fun e he => k1 e (by simpa using he), k2, ?_⟩, k3⟩
  have := R.nd
  rw [pv_keys k3] at this
  exact (nodup_enc encI_ok).mp this
/-- tuples of ints as keys -/
theorem d_tup (I : Inv X pins σ H s) (f : Same Hf H) (h : H a = some (DO a es ep)) (R : DcR X.K Hf true es kvs) :
    (a == sysModules) = false ∧ ∃ xs : List (List Int × Addr × Value), s.heap.DictOfH (tupleKind (PySem.intKind X.prog X.w)) a xs ∧ PX3 X.K Hf kvs xs := by
  obtain ⟨h0, o, h1, h2, h3⟩ := d_raw I h
  obtain ⟨xs, k1, k2⟩ := dcT_view (P := X.prog) (w := X.w) R.ps
  refine ⟨h0, xs, ⟨o, es, ep, h1, h2, h3, k1, ?_, ?_⟩, k2⟩
  · have all : ∀ {kvs : List (D × D)} {xs : List (List Int × Addr × Value)}, PX3 X.K Hf kvs xs → ∀ x ∈ xs, (tupleKind (PySem.intKind X.prog X.w)).is s.heap x.1 x.2.1 := by
      intro kvs xs hp
      induction hp with
      | nil => intro x hx; cases hx
      | cons r t ih =>
        intro x hx
        rcases List.mem_cons.mp hx with rfl | hx
        · exact keyT_is I f r.2.1
        · exact ih x hx
    exact all k2
  · have := R.nd
    rw [pv_keys (px_pv k2)] at this
    have e : (pairsH xs).map (·.1) = xs.map (·.1) := by rw [pairsH, List.map_map]; rfl
    rw [e] at this
    exact (nodup_enc encT_ok).mp this
theorem pairsH_keys (xs : List (List Int × Addr × Value)) : (pairsH xs).map (·.1) = xs.map (·.1) := by rw [pairsH, List.map_map]; rfl
theorem at_value (xs : List (List Int × Addr × Value)) (is : List Int) : (atKey xs is).map (·.2) = valueAt (pairsH xs) is := (valueAt_pairsH xs is).symm

/-- x in d -/
theorem dd_in {neg : Bool} {Q : Value → Shared → Prop} (hu : A.units + 1 < cLine) (I : Inv X pins σ H s) (f : Same Hf H) (h : H a = some (DO a es ep)) (R : DcR X.K Hf tk es kvs) (hk : KeyV X.K Hf tk x k) (rx : RelV x u)
    (q : ∀ s', Inv X pins σ H s' → Q (.bool (if neg = true then !(getK kvs k).isSome else (getK kvs k).isSome)) s') : wpAny (model X.prog X.w) A (compareOp (if neg = true then .NotIn else .In) u (.ref a)) Q E s := by
  cases tk with
  | false =>
    obtain ⟨i, rfl, rfl⟩ := hk
    obtain ⟨t, rfl⟩ := rx
    obtain ⟨h0, vs, D1, D2⟩ := d_int I h R
    have hi : (PySem.intKind X.prog X.w).is i (.int i t) = true := by simp [PySem.intKind, Value.isInt]
    have e := pv_some encI_ok i D2
    cases neg with
    | false => exact wpAny_in_of hi h0 D1.mapOf (by rw [← e]; exact q _ (I.tok _))
    | true => exact wpAny_notIn_of hi h0 D1.mapOf (by rw [← e]; exact q _ (I.tok _))
  | true =>
    obtain ⟨b, is, rfl, rfl, hb⟩ := hk
    cases rx
    obtain ⟨h0, xs, D1, D2⟩ := d_tup I f h R
    have e := pv_some encT_ok is (px_pv D2)
    rw [← at_value, Option.isSome_map] at e
    cases neg with
    | false => exact wpAny_in_heap (tupleKind_room_in1 hu) (keyT_is I f hb) h0 D1 (by rw [← e]; exact q _ (I.tok _))
    | true => exact wpAny_notIn_heap (tupleKind_room_in1 hu) (keyT_is I f hb) h0 D1 (by rw [← e]; exact q _ (I.tok _))
/-- d[x] -/
theorem dd_get {Q : Value → Shared → Prop} (hu : A.units + 1 < cLine) (I : Inv X pins σ H s) (f : Same Hf H) (h : H a = some (DO a es ep)) (R : DcR X.K Hf tk es kvs) (hk : KeyV X.K Hf tk x k) (rx : RelV x u) (hd : getK kvs k = some d)
    (q : ∀ s' w v, Inv X pins σ H s' → RelV v w → Rep X.K Hf v d → Q w s') : wpAny (model X.prog X.w) A (getItem (.ref a) u) Q E s := by
  cases tk with
  | false =>
    obtain ⟨i, rfl, rfl⟩ := hk
    obtain ⟨t, rfl⟩ := rx
    obtain ⟨h0, vs, D1, D2⟩ := d_int I h R
    have hi : (PySem.intKind X.prog X.w).is i (.int i t) = true := by simp [PySem.intKind, Value.isInt]
    obtain ⟨w', v', e1, e2, e3⟩ := (pv_find encI_ok i D2).1 d hd
    exact wpAny_getItem_of hi D1.mapOf e1 (q _ _ _ (I.tok _) e2 e3)
  | true =>
    obtain ⟨b, is, rfl, rfl, hb⟩ := hk
    cases rx
    obtain ⟨h0, xs, D1, D2⟩ := d_tup I f h R
    obtain ⟨w', v', e1, e2, e3⟩ := (pv_find encT_ok is (px_pv D2)).1 d hd
    rw [← at_value] at e1
    obtain ⟨p, hp, hp2⟩ := Option.map_eq_some_iff.mp e1
    refine wpAny_getItem_heap (tupleKind_room_in1 hu) (keyT_is I f hb) D1 hp ?_
    rw [hp2]
    exact q _ _ _ (I.tok _) e2 e3
/-- d.get(x, y) -/
theorem dd_getOr {y : V} {dy : D} {Q : Value → Shared → Prop} (hu : A.units + 1 < cLine) (I : Inv X pins σ H s) (f : Same Hf H) (h : H a = some (DO a es ep)) (R : DcR X.K Hf tk es kvs) (hk : KeyV X.K Hf tk x k) (rx : RelV x u) (ry : RelV y r) (hy : Rep X.K Hf y dy)
    (q : ∀ s' w v, Inv X pins σ H s' → RelV v w → Rep X.K Hf v ((getK kvs k).getD dy) → Q w s') : wpAny (model X.prog X.w) A (call (.builtin "dict.get") [.ref a, u, r]) Q E s := by
  have fin : ∀ {o : Option Value}, (∀ d, getK kvs k = some d → ∃ u v, o = some u ∧ RelV v u ∧ Rep X.K Hf v d) → (getK kvs k = none → o = none) → ∀ s', Inv X pins σ H s' → Q (o.getD r) s' := fun {o} h1 h2 s' I' => by
    cases e : getK kvs k with
    | none => rw [h2 e]; exact q s' _ y I' ry (by rw [e]; exact hy)
    | some d => obtain ⟨w', v', e1, e2, e3⟩ := h1 d e; rw [e1]; exact q s' _ v' I' e2 (by rw [e]; exact e3)
  cases tk with
  | false =>
    obtain ⟨i, rfl, rfl⟩ := hk
    obtain ⟨t, rfl⟩ := rx
    obtain ⟨h0, vs, D1, D2⟩ := d_int I h R
    have hi : (PySem.intKind X.prog X.w).is i (.int i t) = true := by simp [PySem.intKind, Value.isInt]
    have e := pv_find encI_ok i D2
    exact call_meetsIn PySem.F.slot_dict_get D1.typeIs PySem.F.entry_dict_get (PySem.F.args_dict_get_3 _ _ _) (meets_dict_get_default (PySem.intKind X.prog X.w) a hi h0 r) ⟨_, D1.mapOf, fin e.1 e.2 _ (I.tok _)⟩
  | true =>
    obtain ⟨b, is, rfl, rfl, hb⟩ := hk
    cases rx
    obtain ⟨h0, xs, D1, D2⟩ := d_tup I f h R
    have e := pv_find encT_ok is (px_pv D2)
    rw [← at_value] at e
    exact call_meetsIn PySem.F.slot_dict_get D1.typeIs PySem.F.entry_dict_get (PySem.F.args_dict_get_3 _ _ _) (meetsH_dict_get_default (tupleKind (PySem.intKind X.prog X.w)) a b h0 r) ⟨tupleKind_room_in1 hu, is, xs, keyT_is I f hb, D1, fin e.1 e.2 _ (I.tok _)⟩
theorem putKD_len (kvs : List (D × D)) (k d : D) : (putKD kvs k d).length ≤ kvs.length + 1 := by
  unfold putKD
  split
  · rw [List.length_map]; omega
  · rw [List.length_append]; exact Nat.le_refl _
/-- a dict's object is replaced -/
theorem d_wrote {h' : Heap} {t' : Nat} {es' : Array DictEntry} {ep' : Nat} (I : Inv X pins σ H s) (h : H a = some (DO a es ep)) (hs : Heap.SameBut a s.heap h') (new : RawD a es' ep' h') :
    Inv X pins σ (upd H a (DO a es' ep')) { s with heap := h', toks := t' } := by
  obtain ⟨o, h1, _⟩ := new.2
  exact d_write I (by rw [h]; trivial) hs ⟨o, h1⟩ ⟨new, ⟨o, h1⟩, fun h1 h2 ⟨z, o', e1, e2⟩ hk => ⟨z, o', hk o' e1, e2⟩⟩
/-- what a store leaves -/
abbrev DPutQ (K : Fg) (Hf H : Hp) (tk : Bool) (a : Addr) (kvs : List (D × D)) (k d : D) (Q : Hp → Prop) : Prop := ∀ es' ep', DcR K Hf tk es' (putKD kvs k d) → Q (upd H a (DO a es' ep'))
theorem dd_put_gen {m : Sem Unit} {Q : Unit → Shared → Prop} (I : Inv X pins σ H s) (f : Same Hf H) (h : H a = some (DO a es ep)) (R : DcR X.K Hf tk es kvs) (hk : KeyV X.K Hf tk x k) (rx : RelV x u) (rv : RelV v r) (hv : Rep X.K Hf v d) (hz : kvs.length < BIG)
    (q : ∀ es' ep' s', DcR X.K Hf tk es' (putKD kvs k d) → Inv X pins σ (upd H a (DO a es' ep')) s' → Q () s')
    (r1 : ∀ (i : Int) (vs : List (Int × Value)) (key : Value) (Q' : Unit → Shared → Prop), u = key → (PySem.intKind X.prog X.w).is i key = true → s.heap.DictOf (PySem.intKind X.prog X.w) a vs → vs.length ≤ sizeLine →
      (∀ h', h'.DictOf (PySem.intKind X.prog X.w) a (stored vs i r) → Heap.SameBut a s.heap h' → ∀ tk, Q' () { s with heap := h', toks := tk }) → wpAny (model X.prog X.w) A m Q' E s)
    (r2 : ∀ (is : List Int) (xs : List (List Int × Addr × Value)) (b : Addr) (Q' : Unit → Shared → Prop), u = .ref b → (tupleKind (PySem.intKind X.prog X.w)).is s.heap is b → s.heap.DictOfH (tupleKind (PySem.intKind X.prog X.w)) a xs → xs.length ≤ sizeLine →
      (∀ h', h'.DictOfH (tupleKind (PySem.intKind X.prog X.w)) a (storedH xs is b r) → Heap.SameBut a s.heap h' → ∀ tk, Q' () { s with heap := h', toks := tk }) → wpAny (model X.prog X.w) A m Q' E s) :
    wpAny (model X.prog X.w) A m Q E s := by
  have hl : (putKD kvs k d).length ≤ BIG := by have := putKD_len kvs k d; omega
  cases tk with
  | false =>
    obtain ⟨i, rfl, rfl⟩ := hk
    obtain ⟨t, rfl⟩ := rx
    obtain ⟨h0, vs, D1, D2⟩ := d_int I h R
    have hi : (PySem.intKind X.prog X.w).is i (.int i t) = true := by simp [PySem.intKind, Value.isInt]
    refine r1 i vs _ _ rfl hi D1 (by rw [← pv_len D2, ← big_line]; omega) fun h' D' hs tk => ?_
    obtain ⟨o, es', ep', e1, e2, e3, e4, e5, e6⟩ := D'
    have D3 := pv_put encI_ok i rv hv D2
    refine q es' ep' _ ⟨dcI_back (fun e he => e4 e (by simpa using he)) e5 D3, ?_, hl⟩ (d_wrote I h hs ⟨h0, o, e1, e2, e3⟩)
    rw [pv_keys D3]
    exact (nodup_enc encI_ok).mpr e6
  | true =>
    obtain ⟨b, is, rfl, rfl, hb⟩ := hk
    cases rx
    obtain ⟨h0, xs, D1, D2⟩ := d_tup I f h R
    have lx : xs.length = kvs.length := (Paired.length D2).symm
    refine r2 is xs b _ rfl (keyT_is I f hb) D1 (by rw [lx, ← big_line]; omega) fun h' D' hs tk => ?_
    obtain ⟨o, es', ep', e1, e2, e3, e4, e5, e6⟩ := D'
    have D3 := px_put is hb rv hv D2
    refine q es' ep' _ ⟨by rw [e4]; exact dcT_back D3, ?_, hl⟩ (d_wrote I h hs ⟨h0, o, e1, e2, e3⟩)
    rw [pv_keys (px_pv D3), pairsH_keys]
    exact (nodup_enc encT_ok).mpr e6
/-- d[x] = y -/
theorem dd_set {Q : Unit → Shared → Prop} (hu : A.units + 1 < cLine) (I : Inv X pins σ H s) (f : Same Hf H) (h : H a = some (DO a es ep)) (R : DcR X.K Hf tk es kvs) (hk : KeyV X.K Hf tk x k) (rx : RelV x u) (rv : RelV v r) (hv : Rep X.K Hf v d) (hz : kvs.length < BIG)
    (q : ∀ es' ep' s', DcR X.K Hf tk es' (putKD kvs k d) → Inv X pins σ (upd H a (DO a es' ep')) s' → Q () s') : wpAny (model X.prog X.w) A (setItem (.ref a) u r) Q E s :=
  dd_put_gen I f h R hk rx rv hv hz q
    (fun i vs key Q' e hi D1 hsz hq => by subst e; exact wpAny_setItem_pairs (hsz := hsz) hi D1 fun h' D' hs => hq h' D' hs _)
    (fun is xs b Q' e hi D1 hsz hq => by subst e; exact wpAny_setItem_heap (hsz := hsz) (tupleKind_room_in1 hu) hi D1 fun h' D' hs => hq h' D' hs _)
/-- .. by a comprehension or a display -/
theorem dd_dset {Q : Unit → Shared → Prop} (hu : A.units + 1 < cLine) (I : Inv X pins σ H s) (f : Same Hf H) (h : H a = some (DO a es ep)) (R : DcR X.K Hf tk es kvs) (hk : KeyV X.K Hf tk x k) (rx : RelV x u) (rv : RelV v r) (hv : Rep X.K Hf v d) (hz : kvs.length < BIG)
    (q : ∀ es' ep' s', DcR X.K Hf tk es' (putKD kvs k d) → Inv X pins σ (upd H a (DO a es' ep')) s' → Q () s') : wpAny (model X.prog X.w) A (dictSet a u r) Q E s :=
  dd_put_gen I f h R hk rx rv hv hz q
    (fun i vs key Q' e hi D1 hsz hq => by subst e; exact wpAny_dictSet_pairs (hsz := hsz) hi D1 fun h' D' hs => hq h' D' hs _)
    (fun is xs b Q' e hi D1 hsz hq => by subst e; exact wpAny_dictSet_heap (hsz := hsz) (show A.units < cLine by omega) hi D1 fun h' D' hs => hq h' D' hs _)
end
end Orp

/-! Orp, part 7: in, order, places. -/
namespace Orp
open PySem PySem.Spec PyProof.Rows L2
/-- an operation of two data, by values -/
def rG2 (K : Fg) (f : D → D → Option D) (κ : Kd) : R2 := fun v u H Q => ∃ Hf x y d, Same Hf H ∧ RV K H Hf v x ∧ RV K H Hf u y ∧ f x y = some d ∧ ∀ w H' Hf', Ext H Hf H' Hf' → RR K H H' Hf' κ w d → Q w H'
theorem rG2_ok {K : Fg} {f : D → D → Option D} {κ : Kd} : R2Ok K f κ (rG2 K f κ) := fun H Hf v u x y d Q s rx ry e q => ⟨Hf, x, y, d, s, rx, ry, e, q⟩
def rG1 (K : Fg) (f : D → Option D) (κ : Kd) : V → Hp → VK → Prop := fun v H Q => ∃ Hf x d, Same Hf H ∧ RV K H Hf v x ∧ f x = some d ∧ ∀ w H' Hf', Ext H Hf H' Hf' → RR K H H' Hf' κ w d → Q w H'
theorem rG1_ok {K : Fg} {f : D → Option D} {κ : Kd} : R1Ok K f κ (rG1 K f κ) := fun H Hf v x d Q s rx e q => ⟨Hf, x, d, s, rx, e, q⟩
/-- from the rule of the layer -/
theorem OpR.gen {X : Cx} {g : Value → Value → Sem Value} {r : R2} {f : D → D → Option D} {κ : Kd} (h : OpR X g r ∧ R2Ok X.K f κ r) : OpR X g (rG2 X.K f κ) :=
  fun pins s σ H x y v u Q I rx ry ⟨Hf, a, b, d, sm, ra, rb, e, q⟩ => h.1 pins s σ H x y v u Q I rx ry (h.2 H Hf x y a b d Q sm ra rb e q)
section
variable {X : Cx}
theorem canAll : ∀ {ds : List D}, ds.all okD = true → PyData.canLayAll0 ds = true
  | [], _ => rfl
  | d :: ds, h => by
    rw [List.all_cons, Bool.and_eq_true] at h
    have h1 : okD d = true := h.1
    simp only [okD, Bool.and_eq_true] at h1
    rw [PyData.canLayAll0, h1.1, canAll h.2]
    rfl
theorem okD_lay {d : D} (h : okD d = true) : d.canLay0 = true := by simp only [okD, Bool.and_eq_true] at h; exact h.1
theorem okD_depth {d : D} (h : okD d = true) : d.depth ≤ 60 := by simp only [okD, Bool.and_eq_true, decide_eq_true_eq] at h; exact h.2
theorem list_nodict {ds : List D} : ∀ kvs, (PyData.list ds : D) ≠ .dict kvs := fun _ e => by cases e
theorem tuple_nodict {ds : List D} : ∀ kvs, (PyData.tuple ds : D) ≠ .dict kvs := fun _ e => by cases e
theorem inF_seq {x : D} {ds : List D} {t : Bool} (h : (if okD x = true ∧ (ds.all okD) = true then some (ds.any fun z => PyData.eqv z x) else none) = some t) : okD x = true ∧ ds.all okD = true ∧ (ds.any fun z => PyData.eqv z x) = t := by
  split at h
  · rename_i hh; exact ⟨hh.1, hh.2, Option.some.inj h⟩
  · cases h
theorem sign_in {s : Str} {c : Nat} : (s.cps.toList.any fun z => z == c) = decide (c ∈ s.cps.toList) := by
  rw [Bool.eq_iff_iff, List.any_eq_true, decide_eq_true_iff]
  exact ⟨fun ⟨z, h1, h2⟩ => by rw [← eq_of_beq h2]; exact h1, fun h => ⟨c, h, beq_self_eq_true c⟩⟩
theorem sign_of {z : Str} {c : Nat} (h : signOf z = some c) : z = ⟨#[c]⟩ := by
  obtain ⟨⟨l⟩⟩ := z
  unfold signOf at h
  match l, h with
  | [], h => cases h
  | [c'], h => cases h; rfl
  | _ :: _ :: _, h => cases h
/-- x in y -/
theorem op_inG (hu : X.A.units + 200 < cLine) : OpR X (compareOp .In) (rG2 X.K (o2F .isIn) .sh) := by
  intro pins s σ H x y v u Q I rx ry ⟨Hf, a, b, d, sm, ra, rb, e, q⟩
  simp only [o2F] at e
  cases hb : inF a b with
  | none => rw [hb] at e; cases e
  | some t =>
    rw [hb] at e
    cases e
    have fin : ∀ s', Inv X pins σ H s' → EP X pins σ Q (.bool t) s' := fun s' I' => ⟨.bl t, H, I', rfl, fin0 sm (.bl t) q⟩
    cases b <;> simp only [inF, reduceCtorEq] at hb
    case list ds =>
      obtain ⟨h1, h2, h3⟩ := inF_seq hb
      obtain ⟨as, r1⟩ := Dp.reads I a x v (Rep.dp _ (ra.rep sm (okD_nodict h1))) rx
      obtain ⟨bs, r2⟩ := Dp.reads I (.list ds) y u (Rep.dp _ (rb.rep sm list_nodict)) ry
      exact SeqAt.in_list_reads r2 r1 (canAll h2) (okD_lay h1) (by have := okD_depth h1; omega) (by rw [h3]; exact fin s I)
    case tuple ds =>
      obtain ⟨h1, h2, h3⟩ := inF_seq hb
      obtain ⟨as, r1⟩ := Dp.reads I a x v (Rep.dp _ (ra.rep sm (okD_nodict h1))) rx
      obtain ⟨bs, r2⟩ := Dp.reads I (.tuple ds) y u (Rep.dp _ (rb.rep sm tuple_nodict)) ry
      exact SeqAt.in_tuple_reads r2 r1 (canAll h2) (okD_lay h1) (by have := okD_depth h1; omega) (by rw [h3]; exact fin s I)
    case dict kvs =>
      obtain ⟨tk, p, es, ep, ks, rfl, rfl, hp, R⟩ := rb.dict
      simp only [inF] at hb
      split at hb
      · rename_i hk
        cases ry
        refine dd_in (neg := false) (by omega) I sm hp R (key_of ra hk) rx fun s' I' => ?_
        have := Option.some.inj hb
        rw [if_neg Bool.false_ne_true, this]
        exact fin s' I'
      · cases hb
    case str z =>
      cases a <;> simp only [reduceCtorEq] at hb
      rename_i z'
      obtain ⟨c, hc, hb'⟩ := Option.map_eq_some_iff.mp hb
      obtain rfl := sign_of hc
      rw [sign_in] at hb'
      cases ra.str
      cases rb.str
      exact op_in_sign pins s σ H _ _ v u Q I rx ry ⟨c, z, rfl, rfl, by rw [hb']; exact fin0 sm (.bl t) q⟩
theorem op_notInG (hu : X.A.units + 200 < cLine) : OpR X (compareOp .NotIn) (rG2 X.K (o2F .notIn) .sh) := by
  intro pins s σ H x y v u Q I rx ry ⟨Hf, a, b, d, sm, ra, rb, e, q⟩
  simp only [o2F] at e
  cases hb : inF a b with
  | none => rw [hb] at e; cases e
  | some t =>
    rw [hb] at e
    cases e
    have fin : ∀ s', Inv X pins σ H s' → EP X pins σ Q (.bool (!t)) s' := fun s' I' => ⟨.bl (!t), H, I', rfl, fin0 sm (.bl (!t)) q⟩
    cases b <;> simp only [inF, reduceCtorEq] at hb
    case list ds =>
      obtain ⟨h1, h2, h3⟩ := inF_seq hb
      obtain ⟨as, r1⟩ := Dp.reads I a x v (Rep.dp _ (ra.rep sm (okD_nodict h1))) rx
      obtain ⟨bs, r2⟩ := Dp.reads I (.list ds) y u (Rep.dp _ (rb.rep sm list_nodict)) ry
      exact SeqAt.notIn_list_reads r2 r1 (canAll h2) (okD_lay h1) (by have := okD_depth h1; omega) (by rw [h3]; exact fin s I)
    case tuple ds =>
      obtain ⟨h1, h2, h3⟩ := inF_seq hb
      obtain ⟨as, r1⟩ := Dp.reads I a x v (Rep.dp _ (ra.rep sm (okD_nodict h1))) rx
      obtain ⟨bs, r2⟩ := Dp.reads I (.tuple ds) y u (Rep.dp _ (rb.rep sm tuple_nodict)) ry
      exact SeqAt.notIn_tuple_reads r2 r1 (canAll h2) (okD_lay h1) (by have := okD_depth h1; omega) (by rw [h3]; exact fin s I)
    case dict kvs =>
      obtain ⟨tk, p, es, ep, ks, rfl, rfl, hp, R⟩ := rb.dict
      simp only [inF] at hb
      split at hb
      · rename_i hk
        cases ry
        refine dd_in (neg := true) (by omega) I sm hp R (key_of ra hk) rx fun s' I' => ?_
        have := Option.some.inj hb
        rw [if_pos rfl, this]
        exact fin s' I'
      · cases hb
    case str z =>
      cases a <;> simp only [reduceCtorEq] at hb
      rename_i z'
      obtain ⟨c, hc, hb'⟩ := Option.map_eq_some_iff.mp hb
      obtain rfl := sign_of hc
      rw [sign_in] at hb'
      cases ra.str
      cases rb.str
      exact op_notIn_sign pins s σ H _ _ v u Q I rx ry ⟨c, z, rfl, rfl, by rw [hb']; exact fin0 sm (.bl (!t)) q⟩
/-- x < y -/
theorem op_ltG (hu : X.A.units + 200 < cLine) : OpR X (compareOp .Lt) (rG2 X.K (o2F .lt) .sh) := by
  intro pins s σ H x y v u Q I rx ry ⟨Hf, a, b, d, sm, ra, rb, e, q⟩
  simp only [o2F, ltF] at e
  split at e
  · rename_i h
    obtain ⟨h1, h2, h3⟩ := h
    cases e
    obtain ⟨as, r1⟩ := Dp.reads I a x v (Rep.dp _ (ra.rep sm (okD_nodict h2))) rx
    obtain ⟨bs, r2⟩ := Dp.reads I b y u (Rep.dp _ (rb.rep sm (okD_nodict h3))) ry
    have := PySem.W.rcLt_alike a b X.A s v u as bs r1 r2 (alk_alike a b h1) (alk_ne_none h1) (by have := okD_depth h2; omega)
    refine this X.prog X.w X.xe _ ?_
    rw [← ltD_eq a b h1]
    exact ⟨.bl _, H, I, rfl, fin0 sm (.bl _) q⟩
  · cases e
end
end Orp

/-! Orp, part 8: items, slices, index. -/
namespace Orp
open PySem PySem.Spec PyProof.Rows L2
theorem atD_eq {α : Type} (xs : List α) (i : Int) : atD xs i = atI xs i := rfl
theorem cutD_v (xs : List V) (lo hi : Option Int) : cutD xs lo hi = cutV xs lo hi := rfl
theorem cutD_s (z : Str) (lo hi : Option Int) : (⟨(cutD z.cps.toList lo hi).toArray⟩ : Str) = cutS z lo hi := by
  unfold cutD cutS
  rw [show z.cps.toList.length = z.length by simp [Str.length]]
  rfl
theorem at_rep {K : Fg} {H : Hp} {xs : List V} {ds : List D} {i : Int} {d : D} (h : RepAll K H xs ds) (e : atD ds i = some d) : ∃ v, atI xs i = some v ∧ Rep K H v d := by
  unfold atD at e
  obtain ⟨j, h1, h2⟩ := Option.bind_eq_some_iff.mp e
  obtain ⟨v, h3, h4⟩ := dpa_get h h2
  refine ⟨v, ?_, h4⟩
  unfold atI
  rw [show xs.length = ds.length from dpa_len h]
  exact Option.bind_eq_some_iff.mpr ⟨j, h1, h3⟩
theorem cut_rep {K : Fg} {H : Hp} {xs : List V} {ds : List D} (lo hi : Option Int) (h : RepAll K H xs ds) : RepAll K H (cutV xs lo hi) (cutD ds lo hi) := by
  rw [← cutD_v]
  unfold cutD
  rw [dpa_len h]
  exact dpa_take _ (dpa_drop _ h)
section
variable {X : Cx}
/-- xs[i], t[i], s[i], d[k] -/
theorem ix_G (hu : X.A.units + 200 < cLine) : IxR X (rG2 X.K (o2F .idx) .sh) := by
  intro value slice pins s σ H x y v u Q I rx ry ⟨Hf, a, b, d, sm, ra, rb, e, q⟩ hs
  cases a
  case dict kvs =>
    obtain ⟨tk, p, es, ep, ks, rfl, rfl, hp, R⟩ := ra.dict
    simp only [o2F] at e
    split at e
    · rename_i hk
      cases rx
      have ty : s.TypeIs (.ref p) "dict" := by
        obtain ⟨_, o, h1, h2, _⟩ := d_raw I hp
        exact ⟨o, h1, h2.1⟩
      exact tail_any ty PySem.F.slot_dict_getitem.lookup (dd_get (by omega) I sm hp R (key_of rb hk) ry e fun s' w' v' I' r' h' => ⟨v', H, I', r', fin0 sm h' q⟩) hs
    · cases e
  all_goals cases b <;> simp only [o2F, reduceCtorEq] at e
  case list.int ds i =>
    obtain ⟨p, xs, rfl, h1, h2⟩ := ra.list sm
    obtain ⟨z, h3, h4⟩ := at_rep h2 e
    exact ix_list value slice pins s σ H _ y v u Q I rx ry ⟨p, xs, i, z, rfl, rb.int, h1, h3, fin0 sm h4 q⟩ hs
  case tuple.int ds i =>
    obtain ⟨p, xs, rfl, h1, h2⟩ := ra.tup
    obtain ⟨z, h3, h4⟩ := at_rep h2 e
    exact ix_tup value slice pins s σ H _ y v u Q I rx ry ⟨p, xs, i, z, rfl, rb.int, (h1.mono sm).sqt, h3, fin0 sm h4 q⟩ hs
  case str.int z i =>
    split at e
    · rename_i hz
      obtain ⟨c, h3, rfl⟩ := Option.map_eq_some_iff.mp e
      exact ix_str value slice pins s σ H _ y v u Q I rx ry ⟨z, i, c, ra.str, rb.int, by rw [str_size, ← big_line]; exact hz, h3, fin0 sm (.str _) q⟩ hs
    · cases e
/-- a slice, by values -/
def rSG (K : Fg) : V → Option Int → Option Int → Hp → VK → Prop := fun x lo hi H Q => ∃ Hf d r, Same Hf H ∧ RV K H Hf x d ∧ sliceD d lo hi = some r ∧ ∀ w H' Hf', Ext H Hf H' Hf' → RR K H H' Hf' .sh w r → Q w H'
theorem sl_G : SlR X (rSG X.K) := by
  intro pins s σ H x v vl vu lo hi sl Q I rx hs pl pu ⟨Hf, d, r, sm, rd, e, q⟩
  cases d <;> simp only [sliceD, reduceCtorEq, Option.some.injEq] at e
  case list ds =>
    subst e
    obtain ⟨p, xs, rfl, h1, h2⟩ := rd.list sm
    exact sl_list pins s σ H _ v vl vu lo hi sl Q I rx hs pl pu ⟨p, xs, rfl, h1, fun n np => finS sm np (cut_rep lo hi h2) q⟩
  case str z =>
    split at e
    · rename_i hz
      cases e
      rw [cutD_s] at q
      exact sl_str pins s σ H _ v vl vu lo hi sl Q I rx hs pl pu ⟨z, rd.str, by rw [str_size, ← big_line]; exact hz, fin0 sm (.str _) q⟩
    · cases e
  case tuple ds =>
    subst e
    obtain ⟨p, xs, rfl, h1, h2⟩ := rd.tup
    cases rx
    obtain ⟨its, r, ht, hz⟩ := I.tuple (h1.mono sm).sqt
    have hlen : its.toArray.size = xs.length := by rw [List.size_toArray]; exact r.length.symm
    refine ⟨"tuple", _, PyProof.Rows.slot_tuple_getitem.lookup, ht.typeIs, ?_⟩
    by_cases hw : HT.sIx xs.length 0 lo = 0 ∧ HT.sIx xs.length xs.length hi = xs.length
    · have e : cutD ds lo hi = ds := by
        have h : cutD ds lo hi = (ds.drop (HT.sIx ds.length 0 lo)).take (HT.sIx ds.length ds.length hi - HT.sIx ds.length 0 lo) := rfl
        rw [h, ← dpa_len h2, hw.1, hw.2, dpa_len h2]
        simp
      rw [e] at q
      exact getItem_tuple_whole ht hs pl pu (by rw [hlen]; exact hw) ⟨.ref p, H, I, rfl, fin0 sm (.tup h1 h2) q⟩
    · refine HT.getItem_tuple_cut ht hs pl pu (by rw [hlen]; exact hw) ?_ (by rw [hlen]; exact hz)
      rw [hlen]
      exact epT (t' := s.toks) I ((r.drop (HT.sIx xs.length 0 lo)).take (HT.sIx xs.length xs.length hi - HT.sIx xs.length 0 lo)) (Nat.le_trans (cutV_length xs lo hi) hz) fun n ob hd np => finT sm np hd (cut_rep lo hi h2) q

/-! ### x.index(y) -/
theorem idxOf_spec {d : D} : ∀ {ds : List D} {n : Nat}, idxOf d ds = some n → ∃ z, ds[n]? = some z ∧ PyData.eqv z d = true ∧ ∀ (m : Nat) (z' : D), m < n → ds[m]? = some z' → PyData.eqv z' d = false
  | [], n, h => by cases h
  | x :: r, n, h => by
    unfold idxOf at h
    cases e : PyData.eqv x d with
    | true =>
      rw [e, if_pos rfl] at h
      cases h
      exact ⟨x, rfl, e, fun m z' hm => absurd hm (Nat.not_lt_zero _)⟩
    | false =>
      rw [e, if_neg Bool.false_ne_true] at h
      obtain ⟨k, h1, rfl⟩ := Option.map_eq_some_iff.mp h
      obtain ⟨z, h2, h3, h4⟩ := idxOf_spec h1
      refine ⟨z, by simpa using h2, h3, fun m z' hm hz => ?_⟩
      cases m with
      | zero => have : x = z' := by simpa using hz
                rw [← this]; exact e
      | succ m => exact h4 m z' (by omega) (by simpa using hz)
theorem tup_index {pins : List (Addr × Obj)} {s : Shared} {σ : L2.St} {H : Hp} {p : Addr} {xs : List V} {ds : List D} {y : V} {d : D} {u : Value} {n : Nat} {Q : VK} (hu : X.A.units + 200 < cLine) (I : Inv X pins σ H s) (h1 : SqT X.K H p xs) (h2 : RepAll X.K H xs ds)
    (ry : RelV y u) (hd : Rep X.K H y d) (ok : okD d = true) (oks : ds.all okD = true) (hn : idxOf d ds = some n) (q : Q (.int (n : Nat)) H) : wpAny (model X.prog X.w) X.A (call (.builtin "tuple.index") [.ref p, u]) (EP X pins σ Q) X.xe s := by
  obtain ⟨bs, r1⟩ := Dp.reads I d y u (Rep.dp _ hd) ry
  have hxs : PyData.canLayAll0 ds = true := canAll oks
  obtain ⟨its, rv, ⟨⟨cls, dd, data, sls⟩, ho, hc, nn, hdt⟩, hlen⟩ := I.tuple h1
  simp only at hc hdt
  subst hc hdt
  obtain ⟨as, h4⟩ := Dp.readsAll I ds _ its (RepAll.dp _ h2) rv
  obtain ⟨z, e1, e2, e3⟩ := idxOf_spec hn
  have hm : its.map (SeqAt.readOf s.heap) = ds := SeqAt.readsAll_map ds its as hxs h4
  have hl : its.length = ds.length := by rw [← hm, List.length_map]
  have hj : n < its.toArray.size := by
    have := (List.getElem?_eq_some_iff.mp e1).1
    simpa [hl] using this
  have look : ∀ (m : Nat) (lt : m < its.toArray.size) (z' : PyData), ds[m]? = some z' → SeqAt.readOf s.heap its.toArray[m] = z' := by
    intro m lt z' hz'
    have lt' : m < its.length := by simpa using lt
    rw [← hm, List.getElem?_map, List.getElem?_eq_getElem lt'] at hz'
    simpa using hz'
  refine call_meets PySem.F.slot_tuple_index ⟨_, ho, rfl⟩ PySem.F.entry_tuple_index (PySem.F.args_tuple_index_2 _ _)
    (TI.tuple_indexAt p its.toArray nn dd sls u (fun v => PyData.eqv (SeqAt.readOf s.heap v) d) n hj ?_ ?_) ⟨ho, SeqAt.items_eqAt (vs := its.toArray) (show ReadsAll s.heap its.toArray.toList ds as from h4) r1 hxs (okD_lay ok) (by have := okD_depth ok; omega), ?_⟩
  · show PyData.eqv (SeqAt.readOf s.heap its.toArray[n]) d = true
    rw [look n hj z e1]
    exact e2
  · intro m lt hmn
    have md : m < ds.length := by rw [← hl]; simpa using lt
    have hz' : ds[m]? = some ds[m] := List.getElem?_eq_getElem md
    show PyData.eqv (SeqAt.readOf s.heap its.toArray[m]) d = false
    rw [look m lt _ hz']
    exact e3 m _ hmn hz'
  · exact ⟨.int (n : Nat), H, I.tok _, ⟨_, rfl⟩, q⟩
theorem list_index {pins : List (Addr × Obj)} {s : Shared} {σ : L2.St} {H : Hp} {p : Addr} {xs : List V} {ds : List D} {y : V} {d : D} {u : Value} {n : Nat} {Q : VK} (hu : X.A.units + 200 < cLine) (I : Inv X pins σ H s) (h1 : SqL X.K H p xs) (h2 : RepAll X.K H xs ds)
    (ry : RelV y u) (hd : Rep X.K H y d) (ok : okD d = true) (oks : ds.all okD = true) (hn : idxOf d ds = some n) (q : Q (.int (n : Nat)) H) : wpAny (model X.prog X.w) X.A (call (.builtin "list.index") [.ref p, u]) (EP X pins σ Q) X.xe s := by
  obtain ⟨bs, r1⟩ := Dp.reads I d y u (Rep.dp _ hd) ry
  have hxs : PyData.canLayAll0 ds = true := canAll oks
  obtain ⟨its, rv, ⟨⟨cls, dd, data, sls⟩, nn, ho, hc, hdn, hdt⟩, hlen⟩ := I.list h1
  simp only at hc hdt
  subst hc hdt
  obtain ⟨as, h4⟩ := Dp.readsAll I ds _ its (RepAll.dp _ h2) rv
  obtain ⟨z, e1, e2, e3⟩ := idxOf_spec hn
  have hm : its.map (SeqAt.readOf s.heap) = ds := SeqAt.readsAll_map ds its as hxs h4
  have hl : its.length = ds.length := by rw [← hm, List.length_map]
  have hvl := rv.length
  have hsl := sizeLine_eq
  have hj' : n < ds.length := (List.getElem?_eq_some_iff.mp e1).1
  have hj : n < its.toArray.size := by simpa [hl] using hj'
  have look : ∀ (m : Nat) (lt : m < its.toArray.size) (z' : PyData), ds[m]? = some z' → SeqAt.readOf s.heap its.toArray[m] = z' := by
    intro m lt z' hz'
    have lt' : m < its.length := by simpa using lt
    rw [← hm, List.getElem?_map, List.getElem?_eq_getElem lt'] at hz'
    simpa using hz'
  refine call_meets PySem.F.slot_list_index ⟨_, ho, rfl⟩ PySem.F.entry_list_index (PySem.F.args_list_index_2 _ _)
    (SeqAt.list_indexAt p its.toArray nn dd sls u (fun v => PyData.eqv (SeqAt.readOf s.heap v) d) n hj (by omega) ?_ ?_) ⟨ho, SeqAt.items_eqAt (vs := its.toArray) (show ReadsAll s.heap its.toArray.toList ds as from h4) r1 hxs (okD_lay ok) (by have := okD_depth ok; omega), ?_⟩
  · show PyData.eqv (SeqAt.readOf s.heap its.toArray[n]) d = true
    rw [look n hj z e1]
    exact e2
  · intro m lt hmn
    have md : m < ds.length := by rw [← hl]; simpa using lt
    have hz' : ds[m]? = some ds[m] := List.getElem?_eq_getElem md
    show PyData.eqv (SeqAt.readOf s.heap its.toArray[m]) d = false
    rw [look m lt _ hz']
    exact e3 m _ hmn hz'
  · exact ⟨.int (n : Nat), H, I.tok _, ⟨_, rfl⟩, q⟩
end
end Orp

/-! Orp, part 9: calls with one place. -/
namespace Orp
open PySem PySem.Spec PyProof.Rows L2
/-- a call with one value -/
def rC1 (K : Fg) (f : D → Option D) (κ : Kd) : List V → Hp → VK → Prop := fun xs H Q => ∃ x, xs = [x] ∧ rG1 K f κ x H Q
def rC2 (K : Fg) (f : D → D → Option D) (κ : Kd) : List V → Hp → VK → Prop := fun xs H Q => ∃ x y, xs = [x, y] ∧ rG2 K f κ x y H Q
section
variable {X : Cx}
theorem c_len : CallR X (.builtin "len") (rC1 X.K (o1F .len) .sh) := by
  intro pins s σ H xs us Q I r ⟨x, hx, Hf, d, z, sm, rd, e, q⟩
  subst hx
  cases d <;> simp only [o1F, reduceCtorEq, Option.some.injEq] at e
  case list ds =>
    subst e
    obtain ⟨a, ys, rfl, h1, h2⟩ := rd.list sm
    refine call_len pins s σ H _ us Q I r ⟨_, ys.length, rfl, .inl ⟨ys, h1, rfl⟩, ?_⟩
    rw [dpa_len h2]
    exact fin0 sm (.int _) q
  case tuple ds =>
    subst e
    obtain ⟨a, ys, rfl, h1, h2⟩ := rd.tup
    refine call_len pins s σ H _ us Q I r ⟨_, ys.length, rfl, .inr ⟨ys, (h1.mono sm).sqt, rfl⟩, ?_⟩
    rw [dpa_len h2]
    exact fin0 sm (.int _) q
  case str z =>
    split at e
    · rename_i hz
      cases e
      cases rd.str
      exact call_len pins s σ H _ us Q I r ⟨_, _, rfl, ⟨by rw [str_size, ← big_line]; exact hz, rfl⟩, fin0 sm (.int _) q⟩
    · cases e
  case dict kvs =>
    obtain ⟨tk, a, es, ep, ks, rfl, rfl, hp, R⟩ := rd.dict
    simp only [Option.some.injEq] at e
    subst e
    rw [Vals.ref1 r]
    have zz := R.sz
    cases tk with
    | false =>
      obtain ⟨hd, vs, h1, h2⟩ := d_int I hp R
      rw [pv_len h2] at zz
      exact call_len_dict hd h1 (by unfold BIG at zz; omega) ⟨.int vs.length, H, I.tok _, ⟨_, rfl⟩, by rw [pv_len h2] at q; exact fin0 sm (.int _) q⟩
    | true =>
      obtain ⟨hd, vs, h1, h2⟩ := d_tup I sm hp R
      have e := (px_pv h2)
      have e2 : ks.length = vs.length := by rw [pv_len e]; simp [pairsH]
      rw [e2] at zz q
      exact call_len_dictH hd h1 (by unfold BIG at zz; omega) ⟨.int vs.length, H, I.tok _, ⟨_, rfl⟩, fin0 sm (.int _) q⟩
/-! ### sums, truths, greatest -/
theorem c_any (hc : X.calm = true) : CallR X (.builtin "any") (rC1 X.K (o1F .any) .sh) := by
  intro pins s σ H xs us Q I r ⟨x, hx, Hf, d, z, sm, rd, e, q⟩
  subst hx
  cases d <;> simp only [o1F, reduceCtorEq] at e
  obtain ⟨bs, e1, rfl⟩ := Option.map_eq_some_iff.mp e
  obtain ⟨a, ys, rfl, h1, h2⟩ := rd.list sm
  rw [dpa_bls h2 e1] at h1
  exact cr_any hc pins s σ H _ us Q I r ⟨a, bs, rfl, h1, fin0 sm (.bl _) q⟩
theorem c_all (hc : X.calm = true) : CallR X (.builtin "all") (rC1 X.K (o1F .all) .sh) := by
  intro pins s σ H xs us Q I r ⟨x, hx, Hf, d, z, sm, rd, e, q⟩
  subst hx
  cases d <;> simp only [o1F, reduceCtorEq] at e
  obtain ⟨bs, e1, rfl⟩ := Option.map_eq_some_iff.mp e
  obtain ⟨a, ys, rfl, h1, h2⟩ := rd.list sm
  rw [dpa_bls h2 e1] at h1
  exact cr_all hc pins s σ H _ us Q I r ⟨a, bs, rfl, h1, fin0 sm (.bl _) q⟩
theorem seq_of {K : Fg} {H Hf : Hp} {x : V} {d : D} {ds : List D} (sm : Same Hf H) (rd : RV K H Hf x d) (e : seqOf d = some ds) : ∃ a ys, x = .ref a ∧ (SqL K H a ys ∨ SqT K H a ys) ∧ RepAll K Hf ys ds := by
  cases d <;> simp only [seqOf, reduceCtorEq, Option.some.injEq] at e
  · subst e
    obtain ⟨a, ys, rfl, h1, h2⟩ := rd.list sm
    exact ⟨a, ys, rfl, .inl h1, h2⟩
  · subst e
    obtain ⟨a, ys, rfl, h1, h2⟩ := rd.tup
    exact ⟨a, ys, rfl, .inr (h1.mono sm).sqt, h2⟩
theorem c_sum (hc : X.calm = true) : CallR X (.builtin "sum") (rC1 X.K (o1F .sum) .sh) := by
  intro pins s σ H xs us Q I r ⟨x, hx, Hf, d, z, sm, rd, e, q⟩
  subst hx
  simp only [o1F] at e
  obtain ⟨ds, e1, e⟩ := Option.bind_eq_some_iff.mp e
  obtain ⟨is, e2, rfl⟩ := Option.map_eq_some_iff.mp e
  obtain ⟨a, ys, rfl, h1, h2⟩ := seq_of sm rd e1
  rw [dpa_ints h2 e2] at h1
  rcases h1 with h1 | h1
  · exact cr_sum hc pins s σ H _ us Q I r ⟨a, is, rfl, h1, fin0 sm (.int _) q⟩
  · rw [Vals.ref1 r]
    obtain ⟨its, rv, hl, _⟩ := I.tuple h1
    have hi := rv.ints
    obtain ⟨zs, ez⟩ := hi.allInts.items
    have hn : numsOf (intItems zs).toList = is := by rw [← ez]; exact hi.numsOf
    rw [nums_intItems] at hn
    rw [ez] at hl
    refine PySem.W.ktm_sumG (I.ok.hd hc) hl fun h' tk t' hk => ⟨.int is.sum, H, I.kept hk, ⟨t', ?_⟩, fin0 sm (.int _) q⟩
    rw [preSum_eq, List.take_of_length_le (by simp), hn]
/-! ### greatest, least -/
theorem int_alike {is : List Int} : PySem.W.AlikeAll (is.map .int) :=
  ⟨fun x hx y hy => by
    obtain ⟨i, _, rfl⟩ := List.mem_map.mp hx
    obtain ⟨j, _, rfl⟩ := List.mem_map.mp hy
    rfl, fun x hx => by obtain ⟨i, _, rfl⟩ := List.mem_map.mp hx; exact fun e => nomatch e⟩
theorem ints_of : ∀ {ds : List D} {is : List Int}, intsOf ds = some is → ds = is.map .int
  | [], is, e => by simp [intsOf] at e; subst e; rfl
  | d :: ds, is, e => by
    cases d <;> simp only [intsOf, intOf, Option.bind_some, Option.bind_none, reduceCtorEq] at e
    obtain ⟨js, e1, rfl⟩ := Option.map_eq_some_iff.mp e
    rw [ints_of e1, List.map_cons]
theorem read_int {h : Heap} {v : Value} {i : Int} {as : List Addr} (r : Reads h v (.int i) as) : RelV (.int i) v := by
  cases r
  exact ⟨_, rfl⟩
theorem c_max (hc : X.calm = true) (hu : X.A.units + 200 < cLine) : CallR X (.builtin "max") (rC1 X.K (o1F .max) .sh) := by
  intro pins s σ H xs us Q I r ⟨x, hx, Hf, d, z, sm, rd, e, q⟩
  subst hx
  simp only [o1F] at e
  obtain ⟨ds, e1, e⟩ := Option.bind_eq_some_iff.mp e
  obtain ⟨is, e2, e⟩ := Option.bind_eq_some_iff.mp e
  obtain ⟨m, e3, rfl⟩ := Option.map_eq_some_iff.mp e
  obtain ⟨a, ys, rfl, h1, h2⟩ := seq_of sm rd e1
  rw [Vals.ref1 r]
  cases is with
  | nil => cases e3
  | cons i is =>
    have e4 : m = is.foldl max i := by
      unfold maxI at e3
      rw [← Option.some.inj e3]
      congr 1
      funext a b
      omega
    have hd : PyData.depthAll ((PyData.int i) :: is.map .int) = 0 := PySem.W.depth_ints (i :: is)
    obtain rfl := ints_of e2
    have dp := RepAll.dp _ (RepAll.mono sm _ h2)
    rcases h1 with h1 | h1
    · obtain ⟨its, rv, hl, _⟩ := I.list h1
      obtain ⟨as, rr⟩ := Dp.readsAll I _ _ its dp rv
      refine PySem.W.max_list_data (I.ok.hd hc) hl.isList (x := .int i) (xs := is.map .int) (by simpa using rr) (int_alike (is := i :: is)) (by rw [hd]; omega) fun j v h' tk bs _ hr hk => ?_
      rw [PySem.W.maxD_ints] at hr
      rw [e4] at q
      exact ⟨.int _, H, I.kept hk, read_int hr, fin0 sm (.int _) q⟩
    · obtain ⟨its, rv, hl, _⟩ := I.tuple h1
      obtain ⟨as, rr⟩ := Dp.readsAll I _ _ its dp rv
      refine PySem.W.max_tuple_data (I.ok.hd hc) hl (x := .int i) (xs := is.map .int) (by simpa using rr) (int_alike (is := i :: is)) (by rw [hd]; omega) fun j v h' tk bs _ hr hk => ?_
      rw [PySem.W.maxD_ints] at hr
      rw [e4] at q
      exact ⟨.int _, H, I.kept hk, read_int hr, fin0 sm (.int _) q⟩
theorem alkL_at {ds : List D} (h : alkL ds = true) : (∀ x ∈ ds, okD x = true) ∧ ∀ x ∈ ds, ∀ y ∈ ds, alk x y = true := by
  unfold alkL at h
  rw [List.all_eq_true] at h
  exact ⟨fun x hx => by have := h x hx; simp only [Bool.and_eq_true] at this; exact this.1, fun x hx y hy => by
    have := h x hx
    simp only [Bool.and_eq_true, List.all_eq_true] at this
    exact this.2 y hy⟩
theorem alkL_alike {ds : List D} (h : alkL ds = true) : PySem.W.AlikeAll ds :=
  ⟨fun x hx y hy => alk_alike x y ((alkL_at h).2 x hx y hy), fun x hx => alk_ne_none ((alkL_at h).2 x hx x hx)⟩
theorem depthAll_le : ∀ {ds : List D} {n : Nat}, (∀ x ∈ ds, x.depth ≤ n) → PyData.depthAll ds ≤ n
  | [], n, _ => Nat.zero_le _
  | d :: ds, n, h => by
    have h1 := h d List.mem_cons_self
    have h2 := depthAll_le (ds := ds) (n := n) fun x hx => h x (List.mem_cons_of_mem _ hx)
    show max _ _ ≤ _
    omega
theorem min_fold : ∀ (ds : List D) (x : D), (∀ y ∈ x :: ds, ∀ z ∈ x :: ds, alk y z = true) → ds.foldl (fun m y => if ltD y m = true then y else m) x = PySem.W.minD x ds
  | [], _, _ => rfl
  | d :: ds, x, h => by
    unfold PySem.W.minD
    rw [List.foldl_cons, List.foldl_cons, ltD_eq d x (h d (by simp) x (by simp))]
    refine (min_fold ds _ fun y hy z hz => ?_)
    have sub : ∀ y ∈ (if PySem.W.dataLt d x = true then d else x) :: ds, y ∈ x :: d :: ds := fun y hy => by
      rcases List.mem_cons.mp hy with e | e
      · subst e
        split <;> simp
      · simp [e]
    exact h y (sub y hy) z (sub z hz)
theorem vals_back : ∀ {xs : List V} {us : List Value} {i : Nat} {u : Value}, Vals xs us → us[i]? = some u → ∃ x, xs[i]? = some x ∧ RelV x u
  | _, _, _, _, .nil, e => by simp at e
  | _, _, 0, _, .cons r _, e => by simp at e; subst e; exact ⟨_, rfl, r⟩
  | _, _, i + 1, _, .cons _ t, e => by
    obtain ⟨x, h1, h2⟩ := vals_back (i := i) t (by simpa using e)
    exact ⟨x, by simpa using h1, h2⟩
theorem c_min (hc : X.calm = true) (hu : X.A.units + 200 < cLine) : CallR X (.builtin "min") (rC1 X.K (o1F .min) .sh) := by
  intro pins s σ H xs us Q I r ⟨x, hx, Hf, d, z, sm, rd, e, q⟩
  subst hx
  simp only [o1F] at e
  obtain ⟨ds, e1, e⟩ := Option.bind_eq_some_iff.mp e
  split at e
  case isFalse => cases e
  rename_i hal
  obtain ⟨a, ys, rfl, h1, h2⟩ := seq_of sm rd e1
  rw [Vals.ref1 r]
  cases ds with
  | nil => cases e
  | cons d0 ds =>
    have e4 : z = PySem.W.minD d0 ds := by rw [← min_fold ds d0 (alkL_at hal).2]; exact (Option.some.inj e).symm
    have hcan : PyData.canLayAll0 (d0 :: ds) = true := canAll (List.all_eq_true.mpr (alkL_at hal).1)
    have hd : PyData.depthAll (d0 :: ds) ≤ 60 := depthAll_le fun x hx => okD_depth ((alkL_at hal).1 x hx)
    have h3 := RepAll.mono sm _ h2
    have dp := RepAll.dp _ h3
    have fin : ∀ {its : List Value} {as : List Addr} {j : Nat} {v : Value} {h' : Heap} {tk : Nat} {bs : List Addr}, ReadsAll s.heap its (d0 :: ds) as → Vals ys its → its[j]? = some v → Reads h' v z bs → (∀ b o, s.heap.get? b = some o → h'.get? b = some o) →
        EP X pins σ Q v { s with heap := h', toks := tk } := by
      intro its as j v h' tk bs rr rv hj hr hk
      obtain ⟨w, hw, rw⟩ : ∃ w, ys[j]? = some w ∧ RelV w v := vals_back rv hj
      obtain ⟨d', hd', rd'⟩ := dpa_getv h2 hw
      have I' : Inv X pins σ H { s with heap := h', toks := tk } := I.kept hk
      obtain ⟨as', r1⟩ := Dp.reads I' d' w v (Rep.dp _ (Rep.mono sm _ rd')) rw
      have m' : d' ∈ d0 :: ds := List.mem_of_getElem? hd'
      have e5 : d' = z := by
        have c1 : d'.canLay0 = true := okD_lay ((alkL_at hal).1 d' m')
        have mz : z ∈ d0 :: ds := by
          rw [e4]
          have : ∀ (l : List D) (x : D), PySem.W.minD x l ∈ x :: l := by
            intro l
            induction l with
            | nil => intro x; exact List.mem_cons_self
            | cons y l ih =>
              intro x
              have := ih (if PySem.W.dataLt y x = true then y else x)
              unfold PySem.W.minD at this ⊢
              rw [List.foldl_cons]
              rcases List.mem_cons.mp this with e | e
              · rw [e]; split <;> simp
              · exact List.mem_cons_of_mem _ (List.mem_cons_of_mem _ e)
          exact this ds d0
        have c2 : z.canLay0 = true := okD_lay ((alkL_at hal).1 z mz)
        rw [← SeqAt.readOf_eq c1 r1, ← SeqAt.readOf_eq c2 hr]
      subst e5
      exact ⟨w, H, I', rw, fin0 sm rd' q⟩
    rcases h1 with h1 | h1
    · obtain ⟨its, rv, hl, _⟩ := I.list h1
      obtain ⟨as, rr⟩ := Dp.readsAll I _ _ its dp rv
      exact PySem.W.min_list_data (I.ok.hd hc) hl.isList (x := d0) (xs := ds) (by simpa using rr) (alkL_alike hal) (by omega) fun j v h' tk bs hj hr hk => fin rr rv (by simpa using hj) (by rw [e4]; exact hr) hk
    · obtain ⟨its, rv, hl, _⟩ := I.tuple h1
      obtain ⟨as, rr⟩ := Dp.readsAll I _ _ its dp rv
      exact PySem.W.min_tuple_data (I.ok.hd hc) hl (x := d0) (xs := ds) (by simpa using rr) (alkL_alike hal) (by omega) fun j v h' tk bs hj hr hk => fin rr rv (by simpa using hj) (by rw [e4]; exact hr) hk
/-! ### list, tuple, int, str -/
theorem c_list : CallR X (.type "list") (rC1 X.K (o1F .list) .fr) := by
  intro pins s σ H xs us Q I r ⟨x, hx, Hf, d, z, sm, rd, e, q⟩
  subst hx
  simp only [o1F] at e
  obtain ⟨ds, e1, rfl⟩ := Option.map_eq_some_iff.mp e
  obtain ⟨a, ys, rfl, h1, h2⟩ := seq_of sm rd e1
  exact call_list_of pins s σ H _ us Q I r ⟨a, ys, rfl, h1, fun l hl => finL sm hl h2 q⟩
theorem c_tuple : CallR X (.type "tuple") (rC1 X.K (o1F .tuple) .sh) := by
  intro pins s σ H xs us Q I r ⟨x, hx, Hf, d, z, sm, rd, e, q⟩
  subst hx
  simp only [o1F] at e
  obtain ⟨ds, e1, rfl⟩ := Option.map_eq_some_iff.mp e
  cases d <;> simp only [seqOf, reduceCtorEq, Option.some.injEq] at e1
  · subst e1
    obtain ⟨a, ys, rfl, h1, h2⟩ := rd.list sm
    rw [Vals.ref1 r]
    obtain ⟨its, r', pl, hz⟩ := I.list h1
    have hlen := r'.length
    have sl := sizeLine_eq
    refine call_tuple_list pl.isList (fun h' kp => ?_) (by simp only [List.size_toArray] <;> omega)
    have I1 : Inv X pins σ H { s with heap := h' } := I.kept (t' := s.toks) kp
    exact epT (t' := s.toks) I1 r' hz fun p ob hd np => finT sm np hd h2 q
  · subst e1
    obtain ⟨a, ys, rfl, h1, h2⟩ := rd.tup
    exact call_tuple_of pins s σ H _ us Q I r ⟨a, ys, rfl, .inr ⟨(h1.mono sm).sqt, fin0 sm (.tup h1 h2) q⟩⟩
end
end Orp

/-! Orp, part 10: sorted. -/
namespace Orp
open PySem PySem.Spec PyProof.Rows L2
section
variable {prog : Program} {w : World} {A : Around} {E : Value → Shared → Prop} {s : Shared}
theorem collect_tup {l : Addr} {vs : List Value} {Q : List Value → Shared → Prop} (hl : s.heap.IsTuple l vs.toArray)
    (h : Q vs { s with heap := (s.heap.push (seqObj "list" #[] 0)).update s.heap.objs.size (Obj.mapSeq (· ++ vs.toArray)) }) (hsz : vs.length ≤ sizeLine) :
    wpAny (model prog w) A (collect (.ref l)) Q E s := by
  obtain ⟨o, ho, hc, n, hd⟩ := id hl
  have ho' : (s.heap.push (seqObj "list" #[] 0)).get? l = some o := Heap.get?_push_of_some _ ho
  unfold collect
  refine wpAny_bind (wpAny_runValue (codeAny_builtin entry_proto_collect' ?_))
  show wpAny _ _ (do again (.builtin "list.__iadd__" ⟨[← newList [], .ref l], []⟩)) _ _ s
  refine wpAny_bind (wpAny_newList (wpAny_pure ⟨Code.quiet_builtin _ (by decide +kernel), codeAny_builtin entry_list_iadd' ?_⟩))
  show wpAny _ _ (Builtin.List.listExtendWith (.ref s.heap.objs.size) (.ref l) (.ref s.heap.objs.size)) _ _ { s with heap := s.heap.push (seqObj "list" #[] 0) }
  unfold Builtin.List.listExtendWith
  refine wpAny_bind (wpAny_typeOf (T := "tuple") ⟨o, ho', hc⟩ ?_)
  rw [if_pos (by rw [show (Value.type "tuple" == Value.type "tuple") = true from rfl]; simp)]
  refine wpAny_bind (listItems_at ho' hd ?_)
  refine wpAny_bind (listItems_at (xs := #[]) (n := 0) (Heap.get?_push_size _ rfl) rfl ?_)
  rw [if_neg (by simp)]
  refine wpAny_bind (listUpdate_at (xs := #[]) (n := 0) (Heap.get?_push_size _ rfl) rfl ?_ (Nat.zero_le _) (by show (#[] ++ vs.toArray).size ≤ sizeLine + 1; simp only [Array.size_append, List.size_toArray, List.length_nil]; omega))
  refine wpAny_pure ?_
  refine wpAny_bind (wpAny_load (get?_update_seq (Heap.get?_push_size _ rfl) _) ?_)
  show wpAny _ _ (pure ((#[] : Array Value) ++ vs.toArray).toList) Q E _
  rw [show ((#[] : Array Value) ++ vs.toArray).toList = vs by simp]
  exact wpAny_pure h
/-! ### tuples, some of them empty -/
theorem oneLt_tup {xs ys : List PyData} {a b : Value} {as bs : List Addr} {Q : Bool → Shared → Prop} (ra : Reads s.heap a (.tuple xs) as) (rb : Reads s.heap b (.tuple ys) bs) (hal : PySem.W.alikeAll xs ys = true)
    (hu : A.units + min (PyData.tuple xs).depth (PyData.tuple ys).depth < cLine) (hq : Q (PySem.W.dataLt (.tuple xs) (.tuple ys)) s) : wpAny (model prog w) A (oneLt' true a b) Q E s := by
  cases ra with
  | @tuple l o vs n _ as₁ h1 h2 h3 h4 =>
    cases rb with
    | @tuple l' o' vs' n' _ bs₁ k1 k2 k3 k4 =>
      have n1 : vs.size = xs.length := by simpa using SeqAt.ReadsAll.length _ _ _ h4
      have n2 : vs'.size = ys.length := by simpa using SeqAt.ReadsAll.length _ _ _ k4
      rw [PySem.W.dataLt_tuple, ← PySem.W.firstLt_toks xs ys hal, ← n1, ← n2] at hq
      rw [oneLt'_eq]
      simp only [if_true]
      obtain ⟨cls, dd, data, sl⟩ := o
      obtain ⟨cls2, dd2, data2, sl2⟩ := o'
      simp only at h2 h3 k2 k3
      subst h2 h3 k2 k3
      refine wpAny_bind (wpAny_cRoomFor (SeqAt.room_here hu) ?_)
      refine wpAny_bind (wpAny_callSpecialIfBound?_slot (T := "tuple") ⟨_, h1, rfl⟩ F.slot_tuple_lt (call_meets F.slot_tuple_lt ⟨_, h1, rfl⟩ F.entry_tuple_lt (F.args_tuple_lt_2 _ _)
        (SeqAt.tuple_ltAt l l' vs vs' n n' dd dd2 sl sl2 (SeqAt.pairEq xs ys) fun j => PySem.W.dataLt (xs.getD j .none) (ys.getD j .none)) ⟨h1, k1, fun j j1 j2 => ?_, fun j j1 j2 hj => ?_, ?_⟩))
      · have := PySem.W.eqAt_alikeAll xs ys A.in1 s vs.toList vs'.toList _ _ h4 k4 hal (SeqAt.room_in hu) j (by simpa using j1) (by simpa using j2)
        simpa using this
      · have := PySem.W.rcLt_alikeAll xs ys A.in1 s vs.toList vs'.toList _ _ h4 k4 hal (SeqAt.room_in hu) j (by simpa using j1) (by simpa using j2) hj
        simpa using this
      · exact wpAny_truthy_bool hq
/-- what the first item of each is -/
def firstOf (h : Heap) : Value → Option Value
  | .ref a => match h.get? a with
    | some o => match o.data with
      | .seq xs _ => xs[0]?
      | _ => none
    | none => none
  | _ => none
theorem firstOf_at {h : Heap} {a : Addr} {o : Obj} {zs : Array Value} {n : Nat} (h1 : h.get? a = some o) (h3 : o.data = .seq zs n) : firstOf h (.ref a) = zs[0]? := by
  simp only [firstOf, h1, h3]
def firstsOf (h : Heap) (vs : List Value) : List (Option Value) := vs.map (firstOf h)
theorem firsts_of {vs : List Value} {ds : List PyData} (e : PySem.W.EachIs (fun v d => ∃ as, Reads s.heap v d as) vs ds) (ht : ∀ d ∈ ds, ∃ xs, d = .tuple xs) : ∀ {Q : List (Option Value) → Shared → Prop}, Q (firstsOf s.heap vs) s → wpAny (model prog w) A (vs.mapM firstOfTuple') Q E s := by
  induction e with
  | nil => intro Q h; rw [List.mapM_nil]; exact wpAny_pure h
  | @cons v d vs ds r e ih =>
    intro Q h
    obtain ⟨xs, rfl⟩ := ht d List.mem_cons_self
    obtain ⟨as, r⟩ := r
    cases r with
    | @tuple a o zs n _ _ h1 h2 h3 h4 =>
      rw [List.mapM_cons]
      refine wpAny_bind ?_
      rw [PySem.W.kas_first_eq]
      refine wpAny_bind (PySem.W.Looks.here (show PySem.W.Looks (model prog w) s.heap (typeOf (.ref a)) o.cls from (PySem.W.Looks.ld h1).andThen .now) ?_)
      rw [h2, if_neg (by first | decide | simp)]
      refine wpAny_bind (listItems_at h1 h3 (wpAny_pure ?_))
      refine wpAny_bind (ih (fun d hd => ht d (List.mem_cons_of_mem _ hd)) (wpAny_pure ?_))
      have e : firstsOf s.heap (Value.ref a :: vs) = zs[0]? :: firstsOf s.heap vs := by
        rw [firstsOf, List.map_cons, firstOf_at h1 h3]
        rfl
      rw [← e]
      exact h
theorem firsts_some {h : Heap} {vs : List Value} {ds : List PyData} (e : PySem.W.EachIs (fun v d => ∃ as, Reads h v d as) vs ds) : (firstsOf h vs).all (·.isSome) = true → ∀ d ∈ ds, d ≠ .tuple [] := by
  induction e with
  | nil => exact fun _ d hd => nomatch hd
  | @cons v d vs ds r e ih =>
    intro ha d' hd'
    rw [firstsOf, List.map_cons, List.all_cons, Bool.and_eq_true] at ha
    rcases List.mem_cons.mp hd' with rfl | hd'
    · rintro rfl
      obtain ⟨as, r⟩ := r
      cases r with
      | @tuple a o zs n _ _ h1 h2 h3 h4 =>
        have hz := SeqAt.ReadsAll.length _ _ _ h4
        have hz' : zs.size = 0 := by simpa using hz
        have := ha.1
        rw [firstOf_at h1 h3] at this
        rw [Array.getElem?_eq_none (by omega)] at this
        cases this
    · exact ih ha.2 d' hd'
/-- tuples that are alike can be sorted, empty ones among them -/
theorem sorts_tups {vs : List Value} {ds : List PyData} (e : PySem.W.EachIs (fun v d => ∃ as, Reads s.heap v d as) vs ds) (hal : PySem.W.AllAlike ds) (ht : ∀ d ∈ ds, ∃ xs, d = .tuple xs) (hu : ∀ d, d ∈ ds → A.units + d.depth < cLine) : PySem.W.SortsAt prog w A s (PySem.W.dataKind s.heap ds) vs := by
  by_cases hn : ∀ d ∈ ds, d ≠ .tuple []
  · exact PySem.W.SortsAt.data e hal (.inl fun d hd => by
      obtain ⟨xs, rfl⟩ := ht d hd
      cases xs with
      | nil => exact absurd rfl (hn _ hd)
      | cons x r => exact ⟨x, r, rfl⟩) hu
  have room : ∀ {d d' : PyData}, d ∈ ds → A.units + min d.depth d'.depth < cLine := fun {d d'} hd => Nat.lt_of_le_of_lt (Nat.add_le_add_left (Nat.min_le_left _ _) _) (hu d hd)
  have keys : ∀ v, v ∈ vs → ∃ a, (PySem.W.dataKind s.heap ds).keyOf v = some a := fun v hv => by
    obtain ⟨d, hd, as, r⟩ := e.left v hv
    exact ⟨_, PySem.W.dataKind_some hal hd r⟩
  have nall : (firstsOf s.heap vs).all (·.isSome) = false := by
    cases q : (firstsOf s.heap vs).all (·.isSome) with
    | false => rfl
    | true => exact absurd (firsts_some e q) hn
  by_cases hf : ((firstsOf s.heap vs)[0]?.bind id).isSome = true
  · refine ⟨keys, general', ?_, fun h2 E Q hq => ?_⟩
    · intro E x y a b Q ha hb hq
      obtain ⟨d, as, hd, ra, rfl⟩ := PySem.W.dataKind_inv ha
      obtain ⟨d', as', hd', rb, rfl⟩ := PySem.W.dataKind_inv hb
      show wpAny _ _ (oneLt' false x y) _ _ _
      obtain ⟨xs, rfl⟩ := ht d hd
      exact PySem.W.oneLt_alike (fun f => nomatch f) ra rb (hal _ hd _ hd') (fun z => nomatch z) (room hd) hq
    · rw [keyKind'_eq, List.mapM_toArray, map_eq_pure_bind]
      refine wpAny_bind (wpAny_bind (firsts_of e ht (wpAny_pure ?_)))
      rw [if_neg (by simp only [List.all_toArray]; rw [nall]; exact Bool.false_ne_true), if_pos (by simpa using hf)]
      exact wpAny_pure hq
  · refine ⟨keys, oneType', ?_, fun h2 E Q hq => ?_⟩
    · intro E x y a b Q ha hb hq
      obtain ⟨d, as, hd, ra, rfl⟩ := PySem.W.dataKind_inv ha
      obtain ⟨d', as', hd', rb, rfl⟩ := PySem.W.dataKind_inv hb
      rw [keyLt'_oneType]
      obtain ⟨xs, rfl⟩ := ht d hd
      obtain ⟨ys, rfl⟩ := ht d' hd'
      exact oneLt_tup ra rb (by simpa [PySem.W.alike] using hal _ hd _ hd') (room hd) hq
    · rw [keyKind'_eq, List.mapM_toArray, map_eq_pure_bind]
      refine wpAny_bind (wpAny_bind (firsts_of e ht (wpAny_pure ?_)))
      rw [if_neg (by simp only [List.all_toArray]; rw [nall]; exact Bool.false_ne_true), if_neg (by simpa using hf)]
      obtain ⟨v0, r0, rfl⟩ : ∃ v0 r0, vs = v0 :: r0 := by
        cases vs with
        | nil => simp at h2
        | cons a b => exact ⟨a, b, rfl⟩
      rw [oneTypeOnly'_eq, List.mapM_toArray, map_eq_pure_bind]
      refine wpAny_bind (wpAny_bind (wpAny_bind (PySem.W.kas_mapM (r := Value.type "tuple") _ (fun v hv Q' hq => ?_) (wpAny_pure ?_))))
      · obtain ⟨d, hd, as, r⟩ := e.left v hv
        obtain ⟨xs, rfl⟩ := ht d hd
        exact (PySem.W.looks_reads r).here hq
      · have hall : ((List.map (fun _ => Value.type "tuple") (v0 :: r0)).toArray.all fun x => x == Value.type "tuple") = true := by
          simp only [List.all_toArray, List.all_map, List.all_eq_true]
          intro _ _
          exact beq_self_eq_true _
        have h0 : (List.map (fun _ => Value.type "tuple") (v0 :: r0)).toArray[0]? = some (Value.type "tuple") := by simp
        rw [h0]
        simp only [hall, if_true]
        exact wpAny_pure (wpAny_pure hq)
/-- data that can be sorted: none is None, all are alike -/
theorem sorts_data {vs : List Value} {ds : List PyData} (e : PySem.W.EachIs (fun v d => ∃ as, Reads s.heap v d as) vs ds) (hal : PySem.W.AllAlike ds) (hn : ∀ d ∈ ds, d ≠ .none) (hu : ∀ d, d ∈ ds → A.units + d.depth < cLine) : PySem.W.SortsAt prog w A s (PySem.W.dataKind s.heap ds) vs := by
  by_cases h : ∃ xs, PyData.tuple xs ∈ ds
  · obtain ⟨xs, hx⟩ := h
    exact sorts_tups e hal (fun d hd => by
      have := hal _ hx _ hd
      cases d <;> simp only [PySem.W.alike, reduceCtorEq, Bool.false_eq_true] at this
      exact ⟨_, rfl⟩) hu
  · exact PySem.W.SortsAt.data e hal (.inr fun d hd => ⟨hn d hd, fun xs z => h ⟨xs, by rw [← z]; exact hd⟩⟩) hu
end
end Orp
namespace Orp
open PySem PySem.Spec PyProof.Rows L2
/-! ### there is just one sorted list -/
mutual
theorem eqv_alk : ∀ (x y : D), alk x y = true → PyData.eqv x y = true → x = y
  | .int i, y, h, e => by
    cases y <;> simp only [alk, Bool.false_eq_true] at h
    rw [eq_of_beq (show (i == _) = true from e)]
  | .str i, y, h, e => by
    cases y <;> simp only [alk, Bool.false_eq_true] at h
    rw [eq_of_beq (show (i == _) = true from e)]
  | .tuple xs, y, h, e => by
    cases y <;> simp only [alk, Bool.false_eq_true] at h
    rw [eqvAll_alk xs _ h (by simpa [PyData.eqv] using e)]
  | .none, y, h, _ => by cases y <;> simp [alk] at h
  | .bool _, y, h, _ => by cases y <;> simp [alk] at h
  | .list _, y, h, _ => by cases y <;> simp [alk] at h
  | .dict _, y, h, _ => by cases y <;> simp [alk] at h
theorem eqvAll_alk : ∀ (xs ys : List D), alkAll xs ys = true → PyData.eqvAll xs ys = true → xs = ys
  | [], [], _, _ => rfl
  | [], _ :: _, _, e => by simp [PyData.eqvAll] at e
  | _ :: _, [], _, e => by simp [PyData.eqvAll] at e
  | x :: xs, y :: ys, h, e => by
    simp only [alkAll, Bool.and_eq_true] at h
    simp only [PyData.eqvAll, Bool.and_eq_true] at e
    rw [eqv_alk x y h.1 e.1, eqvAll_alk xs ys h.2 e.2]
end
theorem alk_anti {x y : D} (h : alk x y = true) (h1 : PySem.W.dataLt x y = false) (h2 : PySem.W.dataLt y x = false) : x = y := by
  have e : PySem.W.keyToks x = PySem.W.keyToks y := (PyProof.Rows.listOrd itemOrd).total _ _ h1 h2
  refine eqv_alk x y h ?_
  cases q : PyData.eqv x y with
  | true => rfl
  | false =>
    have := (PySem.W.toks_eqv x y (alk_alike x y h)).2 q [] [.inl 0]
    rw [e, List.append_nil] at this
    have i0 : PyProof.Rows.lexLt itemOrd (PySem.W.keyToks y) (PySem.W.keyToks y) = false := (PyProof.Rows.listOrd itemOrd).irrefl _
    rw [i0] at this
    have lt : ∀ l : List (Int ⊕ List Nat), PyProof.Rows.lexLt itemOrd l (l ++ [.inl 0]) = true := by
      intro l
      have := PySem.W.lex_pre l [] [.inl 0]
      rw [List.append_nil] at this
      rw [this]; rfl
    rw [lt] at this
    cases this
theorem insD_perm (x : D) : ∀ l : List D, (insD x l).Perm (x :: l)
  | [] => .refl _
  | y :: r => by
    unfold insD
    split
    · exact .refl _
    · exact ((insD_perm x r).cons y).trans (.swap _ _ _)
theorem sortD_perm : ∀ l : List D, (sortD l).Perm l
  | [] => .refl _
  | x :: l => (insD_perm x (sortD l)).trans ((sortD_perm l).cons x)
/-- in order, by the signs -/
def leK (x y : D) : Prop := PySem.W.dataLt y x = false
theorem leK_trans {x y z : D} (h : leK x y) (h2 : leK y z) : leK x z := (PyProof.Rows.listOrd itemOrd).kle_trans h h2
theorem leK_total (x y : D) : leK x y ∨ leK y x := by
  unfold leK
  cases h : PySem.W.dataLt y x with
  | false => exact .inl rfl
  | true =>
    right
    cases h2 : PySem.W.dataLt x y with
    | false => rfl
    | true =>
      have := (PyProof.Rows.listOrd itemOrd).trans _ _ _ h h2
      have i := (PyProof.Rows.listOrd itemOrd).irrefl (PySem.W.keyToks y)
      exact absurd (this.symm.trans i) (by decide)
theorem insD_srt {x : D} : ∀ {l : List D}, (∀ y ∈ l, alk y x = true) → l.Pairwise leK → (insD x l).Pairwise leK
  | [], _, _ => List.pairwise_singleton _ _
  | y :: r, ha, h => by
    have e : ltD y x = PySem.W.dataLt y x := ltD_eq y x (ha y List.mem_cons_self)
    unfold insD leD
    cases q : ltD y x with
    | false =>
      rw [if_pos (show (!false) = true from rfl)]
      have xy : leK x y := by unfold leK; rw [← e]; exact q
      refine List.pairwise_cons.mpr ⟨fun z hz => ?_, h⟩
      rcases List.mem_cons.mp hz with rfl | hz
      · exact xy
      · exact leK_trans xy ((List.pairwise_cons.mp h).1 z hz)
    | true =>
      rw [if_neg (by simp)]
      have yx : leK y x := by
        rcases leK_total y x with h | h
        · exact h
        · unfold leK at h; rw [← e, q] at h; cases h
      have hh := List.pairwise_cons.mp h
      refine List.pairwise_cons.mpr ⟨fun z hz => ?_, insD_srt (fun z hz => ha z (List.mem_cons_of_mem _ hz)) hh.2⟩
      rcases List.mem_cons.mp ((insD_perm x r).mem_iff.mp hz) with rfl | hz
      · exact yx
      · exact hh.1 z hz
theorem sortD_srt : ∀ {l : List D}, (∀ x ∈ l, ∀ y ∈ l, alk x y = true) → (sortD l).Pairwise leK
  | [], _ => .nil
  | x :: l, h => insD_srt (fun y hy => h y (List.mem_cons_of_mem _ ((sortD_perm l).mem_iff.mp hy)) x List.mem_cons_self) (sortD_srt fun y hy z hz => h y (List.mem_cons_of_mem _ hy) z (List.mem_cons_of_mem _ hz))
theorem sortD_uniq {l m : List D} (h : ∀ x ∈ l, ∀ y ∈ l, alk x y = true) (p : m.Perm l) (s : m.Pairwise leK) : m = sortD l :=
  List.Perm.eq_of_pairwise (fun a b ha hb h1 h2 => alk_anti (h a (p.mem_iff.mp ha) b ((sortD_perm l).mem_iff.mp hb)) h2 h1) s (sortD_srt h) (p.trans (sortD_perm l).symm)
theorem merge_sortD {β : Type} {enc : β → D} {bs : List β} (h : ∀ x ∈ bs.map enc, ∀ y ∈ bs.map enc, alk x y = true) : (bs.mergeSort (PySem.W.dataLe false enc)).map enc = sortD (bs.map enc) := by
  have tl := PySem.W.sortLe_total (PyProof.Rows.listOrd itemOrd) false fun b => PySem.W.keyToks (enc b)
  refine sortD_uniq h ((List.mergeSort_perm _ _).map _) (List.pairwise_map.mpr ?_)
  refine (List.pairwise_mergeSort (le := PySem.W.dataLe false enc) (fun a b c h1 h2 => tl.trans a b c h1 h2) (fun a b => ?_) bs).imp fun {a b} hab => ?_
  · rcases (tl.total a b : _ ∨ _) with z | z
    · rw [show PySem.W.dataLe false enc a b = true from z]; rfl
    · rw [show PySem.W.dataLe false enc b a = true from z, Bool.or_true]
  · have : (!PySem.W.dataLt (enc b) (enc a)) = true := hab
    unfold leK
    simpa using this

section
variable {X : Cx} {pins : List (Addr × Obj)} {σ : L2.St} {H Hf : Hp}
theorem each_vals {s : Shared} (I : Inv X pins σ H s) (sm : Same Hf H) : ∀ {xs : List V} {vs : List Value} {ds : List D}, Vals xs vs → RepAll X.K Hf xs ds →
    PySem.W.EachIs (fun v (p : V × D) => RelV p.1 v ∧ Rep X.K Hf p.1 p.2) vs (xs.zip ds) ∧ PySem.W.EachIs (fun v (p : V × D) => ∃ as, Reads s.heap v p.2 as) vs (xs.zip ds)
  | _, _, _, .nil, .nil => ⟨.nil, .nil⟩
  | x :: xs, v :: vs, d :: ds, .cons r t, .cons r2 t2 => by
    obtain ⟨h1, h2⟩ := each_vals I sm t t2
    exact ⟨.cons ⟨r, r2⟩ h1, .cons (Dp.reads I d x v (Rep.dp _ (Rep.mono sm _ r2)) r) h2⟩
theorem zip_snd {K : Fg} {H : Hp} : ∀ {xs : List V} {ds : List D}, RepAll K H xs ds → (xs.zip ds).map Prod.snd = ds
  | _, _, .nil => rfl
  | _, _, .cons _ t => by rw [List.zip_cons_cons, List.map_cons, zip_snd t]
theorem each_out {K : Fg} {H : Hp} : ∀ {bs : List (V × D)} {vs : List Value}, PySem.W.EachIs (fun v (p : V × D) => RelV p.1 v ∧ Rep K H p.1 p.2) vs bs → Vals (bs.map Prod.fst) vs ∧ RepAll K H (bs.map Prod.fst) (bs.map Prod.snd)
  | _, _, .nil => ⟨.nil, .nil⟩
  | _, _, .cons r t => by
    obtain ⟨h1, h2⟩ := each_out t
    exact ⟨.cons r.1 h1, .cons r.2 h2⟩
/-- what sorted does with the values that were collected -/
theorem sort_vals_I {s : Shared} {xs : List V} {vs : List Value} {ds : List D} {Q : VK} {E : Value → Shared → Prop} (hu : X.A.units + 200 < cLine) (I : Inv X pins σ H s) (sm : Same Hf H) (r : Vals xs vs) (rd : RepAll X.K Hf xs ds) (hal : alkL ds = true) (hz : xs.length ≤ sizeLine)
    (q : ∀ w H' Hf', Ext H Hf H' Hf' → RR X.K H H' Hf' .fr w (.list (sortD ds)) → Q w H') :
    wpAny (model X.prog X.w) X.A.in1 (do let l ← newList vs; let _ ← holding [l] (call (.builtin "list.sort") [l] []); ret l) (fun fin s' => ∃ v, fin = .done (.ret v) ∧ EP X pins σ Q v s') E s := by
  have hvl := r.length
  have hdl := dpa_len rd
  refine wpAny_bind (wpAny_newList ?_ (by omega))
  have hoL : (s.heap.push (seqObj "list" vs.toArray 0)).get? s.heap.objs.size = some (seqObj "list" vs.toArray 0) := Heap.get?_push_size _ rfl
  obtain ⟨e1, e2⟩ := each_vals I sm r rd
  have hb := zip_snd rd
  have keep : ∀ b o, s.heap.get? b = some o → (PySem.W.sortingHeap (s.heap.push (seqObj "list" vs.toArray 0)) s.heap.objs.size vs).get? b = some o := fun b o e =>
    PySem.W.sortingHeap_old (Nat.ne_of_lt (Heap.lt_size e)) (Heap.get?_push_of_some _ e)
  have e3 : PySem.W.EachIs (fun v (p : V × D) => ∃ as, Reads (PySem.W.sortingHeap (s.heap.push (seqObj "list" vs.toArray 0)) s.heap.objs.size vs) v p.2 as) vs (xs.zip ds) := e2.mono fun _ _ ⟨as, rr⟩ => ⟨as, PyProof.Rows.Reads.keeps keep rr⟩
  have al0 := alkL_at hal
  have al : PySem.W.AllAlike ((xs.zip ds).map Prod.snd) := by rw [hb]; exact (alkL_alike hal).1
  have alk' : ∀ x ∈ (xs.zip ds).map Prod.snd, ∀ y ∈ (xs.zip ds).map Prod.snd, alk x y = true := by rw [hb]; exact al0.2
  have S := sorts_data (prog := X.prog) (w := X.w) (A := X.A.in1.in1) (s := { s with heap := PySem.W.sortingHeap (s.heap.push (seqObj "list" vs.toArray 0)) s.heap.objs.size vs }) (PySem.W.each_map (R := fun v d => ∃ as, Reads (PySem.W.sortingHeap (s.heap.push (seqObj "list" vs.toArray 0)) s.heap.objs.size vs) v d as) Prod.snd e3) al
    (by rw [hb]; exact (alkL_alike hal).2) (by rw [hb]; intro d hd; have := okD_depth (al0.1 d hd); show X.A.units + 1 + 1 + _ < _; omega)
  have out := PySem.W.sortVals_data (h' := PySem.W.sortingHeap (s.heap.push (seqObj "list" vs.toArray 0)) s.heap.objs.size vs) false e1 e3 al
  refine wpAny_bind (wpAny_holding (wpAny_call_entry_kw slot_list_sort ⟨_, hoL, rfl⟩ entry_list_sort ?_ (args_list_sort _)))
  refine PySem.W.list_sort_vals (s := { s with heap := s.heap.push (seqObj "list" vs.toArray 0) }) hoL S (by omega) ⟨_, rfl, wpAny_pure ⟨_, rfl, ?_⟩⟩
  obtain ⟨o1, o2⟩ := each_out out
  rw [merge_sortD alk', hb] at o2
  obtain ⟨c, hc⟩ := sortedHeap_at (vs := vs) (out := (PySem.W.sortVals (PySem.W.dataKind (PySem.W.sortingHeap (s.heap.push (seqObj "list" vs.toArray 0)) s.heap.objs.size vs) ((xs.zip ds).map Prod.snd)) false vs vs).toArray) hoL
  have hn : H s.heap.objs.size = none := I.hok.fresh (Nat.le_refl _)
  have hl2 := o1.length
  have hl3 := PySem.W.sortVals_length (κ := PySem.W.dataKind (PySem.W.sortingHeap (s.heap.push (seqObj "list" vs.toArray 0)) s.heap.objs.size vs) ((xs.zip ds).map Prod.snd)) false (ks := vs) (vs := vs) rfl
  refine ⟨.ref s.heap.objs.size, _, I.laid (t' := s.toks) (fun b u e => ?_) (Nat.le_refl _) (show ObjOk X.prog X.w _ _ _ (.lst (((xs.zip ds).mergeSort (PySem.W.dataLe false Prod.snd)).map Prod.fst)) from ⟨by omega, _, c, o1, hc⟩), rfl, finL sm hn o2 q⟩
  have hlt := Heap.lt_size e
  rw [sortedHeap_old (Nat.ne_of_lt hlt) (by rw [size_push']; exact Nat.lt_succ_of_lt hlt)]
  exact Heap.get?_push_of_some _ e
/-- a dict's keys as values -/
theorem dict_keys {K : Fg} {Hf : Hp} {tk : Bool} : ∀ {es : List DictEntry} {kvs : List (D × D)}, Paired (fun (e : DictEntry) (p : D × D) => KeyR K Hf tk e p.1 ∧ ∃ v, RelV v e.val ∧ Rep K Hf v p.2) es kvs →
    ∃ xs : List V, Vals xs (es.map (·.key)) ∧ RepAll K Hf xs (kvs.map (·.1))
  | _, _, .nil => ⟨[], .nil, .nil⟩
  | e :: es, p :: kvs, .cons r t => by
    obtain ⟨xs, h1, h2⟩ := dict_keys t
    obtain ⟨hk, _⟩ := r
    cases tk with
    | false =>
      obtain ⟨i, t', e1, _, e3⟩ := hk
      exact ⟨.int i :: xs, .cons ⟨t', e1⟩ h1, by rw [List.map_cons, e3]; exact .cons (.int i) h2⟩
    | true =>
      obtain ⟨q, is, e1, _, e3, e4⟩ := hk
      exact ⟨.ref q :: xs, .cons e1 h1, by rw [List.map_cons, e3]; exact .cons (.tup e4 (ints_dpa is)) h2⟩
theorem c_sorted (hc : X.calm = true) (hu : X.A.units + 200 < cLine) : CallR X (.builtin "sorted") (rC1 X.K (o1F .sorted) .fr) := by
  intro pins s σ H xs us Q I r ⟨x, hx, Hf, d, z, sm, rd, e, q⟩
  subst hx
  have upd_old : ∀ (vs : List Value) (b : Addr) (o : Obj), s.heap.get? b = some o → ((s.heap.push (seqObj "list" #[] 0)).update s.heap.objs.size (Obj.mapSeq (· ++ vs.toArray))).get? b = some o := fun vs b o e => by
    rw [Heap.get?_update_ne _ _ _ _ (Nat.ne_of_lt (Heap.lt_size e))]
    exact Heap.get?_push_of_some _ e
  cases d <;> simp only [o1F, reduceCtorEq] at e
  case list ds =>
    split at e
    case isFalse => cases e
    rename_i hal
    cases e
    obtain ⟨a, ys, rfl, h1, h2⟩ := rd.list sm
    rw [Vals.ref1 r]
    obtain ⟨its, rv, hl, hz⟩ := I.list h1
    refine Calls.call_function_entry PyProof.Rows.kind_sorted PyProof.Rows.plain_sorted PyProof.Rows.entry_sorted (PyProof.Rows.args_sorted1 _) ?_
    unfold Builtin.«sorted»
    refine wpAny_bind (m := checkCount "sorted" 1 1 _) (wpAny_pure ?_)
    exact wpAny_bind (collect_list hl.isList (sort_vals_I hu (I.kept (t' := s.toks) (upd_old its)) sm rv h2 hal hz q) (by rw [← rv.length]; exact hz))
  case tuple ds =>
    split at e
    case isFalse => cases e
    rename_i hal
    cases e
    obtain ⟨a, ys, rfl, h1, h2⟩ := rd.tup
    rw [Vals.ref1 r]
    obtain ⟨its, rv, hl, hz⟩ := I.tuple (h1.mono sm).sqt
    refine Calls.call_function_entry PyProof.Rows.kind_sorted PyProof.Rows.plain_sorted PyProof.Rows.entry_sorted (PyProof.Rows.args_sorted1 _) ?_
    unfold Builtin.«sorted»
    refine wpAny_bind (m := checkCount "sorted" 1 1 _) (wpAny_pure ?_)
    exact wpAny_bind (collect_tup hl (sort_vals_I hu (I.kept (t' := s.toks) (upd_old its)) sm rv h2 hal hz q) (by rw [← rv.length]; exact hz))
  case dict kvs =>
    obtain ⟨tk, a, es, ep, ks, rfl, rfl, hp, R⟩ := rd.dict
    simp only at e
    split at e
    case isFalse => cases e
    rename_i hal
    cases e
    rw [Vals.ref1 r]
    obtain ⟨hm, o, h1, h2, h3⟩ := d_raw I hp
    obtain ⟨ys, rv, rr⟩ := dict_keys R.ps
    have hz : ys.length ≤ sizeLine := by rw [dpa_len rr, List.length_map, ← big_line]; exact R.sz
    have hl := rv.length
    rw [List.length_map] at hl
    have hl' : ys.length = es.size := by rw [hl]; simp
    refine Calls.call_function_entry PyProof.Rows.kind_sorted PyProof.Rows.plain_sorted PyProof.Rows.entry_sorted (PyProof.Rows.args_sorted1 _) ?_
    unfold Builtin.«sorted»
    refine wpAny_bind (m := checkCount "sorted" 1 1 _) (wpAny_pure ?_)
    refine wpAny_bind (PySem.W.kdu_collect (A := X.A.in1) (kdl_raw hm h2 h3) (I.ok.hd hc) h1 (by rw [← hl']; exact hz) fun h' tk' acc hk hacc => ?_)
    have ea : acc.toList = es.toList.map (·.key) := by
      apply List.ext_getElem?
      intro j
      rw [List.getElem?_map]
      cases hj : acc.toList[j]? with
      | none =>
        have l1 := List.getElem?_eq_none_iff.mp hj
        rw [Array.length_toList, hacc.1] at l1
        rw [List.getElem?_eq_none (by rw [Array.length_toList]; exact l1)]
        rfl
      | some v =>
        obtain ⟨en, hen, hv⟩ := hacc.2 j v (by rw [← Array.getElem?_toList]; exact hj)
        rw [Array.getElem?_toList, hen, hv]
        rfl
    rw [ea]
    exact sort_vals_I hu (I.kept (t' := tk') hk) sm rv rr hal hz q
end
end Orp

/-! Orp, part 11: int, str, is, isinstance. -/
namespace Orp
open PySem PySem.Spec PyProof.Rows L2
section
variable {X : Cx}
theorem un_negG : UnR X (unaryOp .USub) (rG1 X.K (o1F .neg) .sh) := by
  intro pins s σ H x v Q I rx ⟨Hf, d, z, sm, rd, e, q⟩
  cases d <;> simp only [o1F, reduceCtorEq, Option.some.injEq] at e
  subst e
  cases rd.int
  exact un_neg pins s σ H _ v Q I rx ⟨_, rfl, fin0 sm (.int _) q⟩
theorem un_invG : UnR X (unaryOp .Invert) (rG1 X.K (o1F .inv) .sh) := by
  intro pins s σ H x v Q I rx ⟨Hf, d, z, sm, rd, e, q⟩
  cases d <;> simp only [o1F, reduceCtorEq, Option.some.injEq] at e
  rename_i i
  subst e
  cases rd.int
  refine un_inv pins s σ H _ v Q I rx ⟨_, rfl, ?_⟩
  show Q (.int (Builtin.bitNot i)) H
  rw [show Builtin.bitNot i = -i - 1 by unfold Builtin.bitNot; omega]
  exact fin0 sm (.int _) q
theorem c_int : CallR X (.type "int") (rC1 X.K (o1F .int) .sh) := by
  intro pins s σ H xs us Q I r ⟨x, hx, Hf, d, z, sm, rd, e, q⟩
  subst hx
  cases d <;> simp only [o1F, reduceCtorEq, Option.some.injEq] at e
  · subst e
    cases rd.bool
    exact call_int1 pins s σ H _ us Q I r (.inr ⟨_, rfl, fin0 sm (.int _) q⟩)
  · subst e
    cases rd.int
    exact call_int1 pins s σ H _ us Q I r (.inl ⟨_, rfl, fin0 sm (.int _) q⟩)
  · split at e
    case isFalse => cases e
    rename_i hz
    obtain ⟨n, e1, rfl⟩ := Option.map_eq_some_iff.mp e
    cases rd.str
    exact call_int_str pins s σ H _ us Q I r ⟨_, n, rfl, e1, hz, fin0 sm (.int _) q⟩
theorem c_str : CallR X (.type "str") (rC1 X.K (o1F .str) .sh) := by
  intro pins s σ H xs us Q I r ⟨x, hx, Hf, d, z, sm, rd, e, q⟩
  subst hx
  cases d <;> simp only [o1F, reduceCtorEq, Option.some.injEq] at e
  · split at e
    · rename_i i hi
      cases e
      cases rd.int
      refine call_str_int pins s σ H _ us Q I r ⟨_, rfl, ?_, fin0 sm (.str _) q⟩
      rcases Nat.eq_zero_or_pos i.natAbs with h0 | h0
      · rw [h0]; decide
      · have : i.natAbs.log2 < 60 := by
          rw [Nat.log2_lt (by omega)]
          exact Nat.lt_of_lt_of_le hi (by decide)
        omega
    · cases e
  · subst e
    cases rd.str
    exact SkE.call_str_str pins s σ H _ us Q I r ⟨_, rfl, fin0 sm (.str _) q⟩
/-- x is c, by the one place -/
theorem op_isNG : OpR X (compareOp .Is) (fun x y H Q => y = .non ∧ rG1 X.K (o1F .isN) .sh x H Q) := by
  intro pins s σ H x y v u Q I rx ry ⟨hy, Hf, d, z, sm, rd, e, q⟩
  refine op_isN pins s σ H x y v u Q I rx ry ⟨hy, ?_⟩
  have fin : ∀ b : Bool, z = .bool b → Q (.bl b) H := fun b hb => by subst hb; exact fin0 sm (.bl b) q
  cases d <;> simp only [o1F, reduceCtorEq, Option.some.injEq] at e
  · cases rd.none; exact fin _ e.symm
  · cases rd.bool; exact fin _ e.symm
  · cases rd.int; exact fin _ e.symm
  · cases rd.str; exact fin _ e.symm
  · obtain ⟨a, ys, rfl, _⟩ := rd.list sm; exact fin _ e.symm
  · obtain ⟨a, ys, rfl, _⟩ := rd.tup; exact fin _ e.symm
theorem op_notNG : OpR X (compareOp .IsNot) (fun x y H Q => y = .non ∧ rG1 X.K (o1F .notN) .sh x H Q) := by
  intro pins s σ H x y v u Q I rx ry ⟨hy, Hf, d, z, sm, rd, e, q⟩
  refine op_notN pins s σ H x y v u Q I rx ry ⟨hy, ?_⟩
  have fin : ∀ b : Bool, z = .bool b → Q (.bl b) H := fun b hb => by subst hb; exact fin0 sm (.bl b) q
  cases d <;> simp only [o1F, reduceCtorEq, Option.some.injEq] at e
  · cases rd.none; exact fin _ e.symm
  · cases rd.bool; exact fin _ e.symm
  · cases rd.int; exact fin _ e.symm
  · cases rd.str; exact fin _ e.symm
  · obtain ⟨a, ys, rfl, _⟩ := rd.list sm; exact fin _ e.symm
  · obtain ⟨a, ys, rfl, _⟩ := rd.tup; exact fin _ e.symm
theorem op_isTG : OpR X (compareOp .Is) (fun x y H Q => y = .bl true ∧ rG1 X.K (o1F .isT) .sh x H Q) := by
  intro pins s σ H x y v u Q I rx ry ⟨hy, Hf, d, z, sm, rd, e, q⟩
  subst hy
  cases d <;> simp only [o1F, reduceCtorEq, Option.some.injEq] at e
  subst e
  cases rd.bool
  refine op_isBl pins s σ H _ _ v u Q I rx ry ⟨_, _, rfl, rfl, ?_⟩
  rename_i b
  have := fin0 sm (.bl b) q
  cases b <;> exact this
theorem op_isFG : OpR X (compareOp .Is) (fun x y H Q => y = .bl false ∧ rG1 X.K (o1F .isF) .sh x H Q) := by
  intro pins s σ H x y v u Q I rx ry ⟨hy, Hf, d, z, sm, rd, e, q⟩
  subst hy
  cases d <;> simp only [o1F, reduceCtorEq, Option.some.injEq] at e
  subst e
  cases rd.bool
  refine op_isBl pins s σ H _ _ v u Q I rx ry ⟨_, _, rfl, rfl, ?_⟩
  rename_i b
  have := fin0 sm (.bl (!b)) q
  cases b <;> exact this
/-- what isinstance answers of a datum -/
def tyN : D → Option String
  | .none => some "NoneType"
  | .bool _ => some "bool"
  | .int _ => some "int"
  | .str _ => some "str"
  | .list _ => some "list"
  | .tuple _ => some "tuple"
  | .dict _ => none
def tyO : O1 → Option String
  | .tInt => some "int"
  | .tBool => some "bool"
  | .tTuple => some "tuple"
  | .tStr => some "str"
  | .tList => some "list"
  | _ => none
theorem tyOf {K : Fg} {H Hf : Hp} {x : V} {d : D} {T : String} (sm : Same Hf H) (rd : RV K H Hf x d) (e : tyN d = some T) : TyX K H x (.type T) := by
  cases d <;> simp only [tyN, reduceCtorEq, Option.some.injEq] at e <;> subst e
  · cases rd.none; exact .base .non
  · cases rd.bool; exact .base (.bl _)
  · cases rd.int; exact .base (.int _)
  · cases rd.str; exact .base (.str _)
  · obtain ⟨a, ys, rfl, h, _⟩ := rd.list sm
    rcases h with h | h
    · rcases h with h | ⟨o, h⟩
      · exact .base (.lst h)
      · exact .base (.frz h)
    · obtain ⟨o, its, n, h1, h2, _⟩ := h
      exact .kList h1 h2
  · obtain ⟨a, ys, rfl, h, _⟩ := rd.tup
    rcases h with ⟨o, h, _⟩ | ⟨o, its, n, h1, h2, _⟩
    · exact .fTuple (sm _ _ h)
    · exact .kTuple h1 h2
theorem isi_pairs : ∀ a ∈ ["NoneType", "bool", "int", "str", "list", "tuple"], ∀ b ∈ ["int", "bool", "tuple", "str", "list"], kitB a b = some (a == b || (a == "bool" && b == "int")) := by decide +kernel
theorem c_isi {o : O1} {T : String} (ho : tyO o = some T) : CallR X (.builtin "isinstance") (fun xs H Q => ∃ x, xs = [x, .ty T] ∧ rG1 X.K (o1F o) .sh x H Q) := by
  intro pins s σ H xs us Q I r ⟨x, hx, Hf, d, z, sm, rd, e, q⟩
  subst hx
  have hT : T ∈ ["int", "bool", "tuple", "str", "list"] := by
    cases o <;> simp only [tyO, reduceCtorEq, Option.some.injEq] at ho <;> subst ho <;> decide
  cases hd : tyN d with
  | none =>
    cases d <;> simp only [tyN, reduceCtorEq] at hd
    cases o <;> simp only [tyO, reduceCtorEq] at ho <;> simp only [o1F, reduceCtorEq] at e
  | some S =>
    have hS : S ∈ ["NoneType", "bool", "int", "str", "list", "tuple"] := by
      cases d <;> simp only [tyN, reduceCtorEq, Option.some.injEq] at hd <;> subst hd <;> decide
    have hz : z = .bool (S == T || (S == "bool" && T == "int")) := by
      cases o <;> simp only [tyO, reduceCtorEq, Option.some.injEq] at ho <;> subst ho <;>
        cases d <;> simp only [tyN, reduceCtorEq, Option.some.injEq] at hd <;> subst hd <;> simp only [o1F, reduceCtorEq, Option.some.injEq] at e <;> subst e <;> rfl
    subst hz
    exact call_isi pins s σ H _ us Q I r ⟨x, .ty T, .type S, .type T, _, rfl, .ty T, tyOf sm rd hd, kit_ty (isi_pairs S hS T hT), fin0 sm (.bl _) q⟩
theorem c_max2 (hc : X.calm = true) : CallR X (.builtin "max") (rC2 X.K (o2F .max2) .sh) := by
  intro pins s σ H xs us Q I r ⟨x, y, hx, Hf, a, b, z, sm, ra, rb, e, q⟩
  subst hx
  cases a <;> cases b <;> simp only [o2F, reduceCtorEq, Option.some.injEq] at e
  subst e
  cases ra.int
  cases rb.int
  exact call_max2 hc pins s σ H _ us Q I r ⟨_, _, rfl, fin0 sm (.int _) q⟩
theorem c_min2 (hc : X.calm = true) : CallR X (.builtin "min") (rC2 X.K (o2F .min2) .sh) := by
  intro pins s σ H xs us Q I r ⟨x, y, hx, Hf, a, b, z, sm, ra, rb, e, q⟩
  subst hx
  cases a <;> cases b <;> simp only [o2F, reduceCtorEq, Option.some.injEq] at e
  subst e
  cases ra.int
  cases rb.int
  exact call_min2 hc pins s σ H _ us Q I r ⟨_, _, rfl, fin0 sm (.int _) q⟩
end
end Orp

/-! Orp, part 12: expressions by what the evaluator gives. -/
namespace Orp
open PySem PySem.Spec PyProof.Rows L2
abbrev Fn0 := Nat → List D → Option D
/-- a value by the evaluator -/
def tP (K : Fg) (Φ : Fn0) (st : List Stat) (κ : Kd) (p : Ep) : TE := fun σ H Q => ∃ Hf Lk ρ d, SOk K σ H Hf Lk st ρ ∧ evX Φ p ρ = some d ∧ ∀ v H' Hf', Ext H Hf H' Hf' → RR K H H' Hf' κ v d → Q v H'
/-- frozen values -/
def tPs (K : Fg) (Φ : Fn0) (st : List Stat) (ps : Eps) : TA := fun σ H Q => ∃ Hf Lk ρ ds, SOk K σ H Hf Lk st ρ ∧ evXs Φ ps ρ = some ds ∧ ∀ vs H' Hf', Ext H Hf H' Hf' → RepAll K Hf' vs ds → Q vs H'
/-- a test by the evaluator -/
def tT (K : Fg) (Φ : Fn0) (st : List Stat) (p : Ep) : TT := fun σ H Q => ∃ Hf Lk ρ t, SOk K σ H Hf Lk st ρ ∧ evT Φ p ρ = some t ∧ ∀ H' Hf', Ext H Hf H' Hf' → Q t H'
theorem _root_.L2.PE.imp {X : Cx} {e : Expr} {t t' : TE} (h : PE X e t) (i : ∀ σ H Q, t' σ H Q → t σ H Q) : PE X e t' := ⟨fun pins s σ H Q I q => h.run pins s σ H Q I (i _ _ _ q)⟩
theorem _root_.L2.PA.imp {X : Cx} {e : List Expr} {t t' : TA} (h : PA X e t) (i : ∀ σ H Q, t' σ H Q → t σ H Q) : PA X e t' := ⟨fun pos pins s σ H Q I q => h.run pos pins s σ H Q I (i _ _ _ q)⟩
theorem _root_.L2.PT.imp {X : Cx} {e : Expr} {t t' : TT} (h : PT X e t) (i : ∀ σ H Q, t' σ H Q → t σ H Q) : PT X e t' := ⟨fun pins s σ H Q I q => h.run pins s σ H Q I (i _ _ _ q)⟩
theorem _root_.L2.PW.imp {X : Cx} {e : Expr} {t t' : TT} (h : PW X e t) (i : ∀ σ H Q, t' σ H Q → t σ H Q) : PW X e t' := ⟨fun w pins s σ H Q I q => h.run w pins s σ H Q I (i _ _ _ q)⟩
section
variable {X : Cx} {Φ : Fn0} {st : List Stat} {e a b c : Expr} {p q r : Ep} {κ κa κb κc : Kd} {pos : Pos}
/-! ### one place, two places -/
theorem ev1 {o : O1} {ρ : Rho} {d : D} (h : evX Φ (.o1 o p) ρ = some d) : ∃ x, evX Φ p ρ = some x ∧ o1F o x = some d := by
  rw [evX] at h
  exact Option.bind_eq_some_iff.mp h
theorem ev2 {o : O2} {ρ : Rho} {d : D} (h : evX Φ (.o2 o p q) ρ = some d) : ∃ x y, evX Φ p ρ = some x ∧ evX Φ q ρ = some y ∧ o2F o x y = some d := by
  rw [evX] at h
  obtain ⟨x, h1, h⟩ := Option.bind_eq_some_iff.mp h
  obtain ⟨y, h2, h⟩ := Option.bind_eq_some_iff.mp h
  exact ⟨x, y, h1, h2, h⟩
theorem ev3 {o : O3} {ρ : Rho} {d : D} (h : evX Φ (.o3 o p q r) ρ = some d) : ∃ x y z, evX Φ p ρ = some x ∧ evX Φ q ρ = some y ∧ evX Φ r ρ = some z ∧ o3F o x y z = some d := by
  rw [evX] at h
  obtain ⟨x, h1, h⟩ := Option.bind_eq_some_iff.mp h
  obtain ⟨y, h2, h⟩ := Option.bind_eq_some_iff.mp h
  obtain ⟨z, h3, h⟩ := Option.bind_eq_some_iff.mp h
  exact ⟨x, y, z, h1, h2, h3, h⟩
/-- one value, then what is done with it -/
theorem use1 {K : Fg} {σ : L2.St} {H : Hp} {R : V → Hp → Prop} {Hf Lk : Hp} {ρ : Rho} {x : D} (S : SOk K σ H Hf Lk st ρ) (h : evX Φ p ρ = some x)
    (k : ∀ v H1 Hf1, Ext H Hf H1 Hf1 → RR K H H1 Hf1 κ v x → R v H1) : tP K Φ st κ p σ H R := ⟨Hf, Lk, ρ, x, S, h, k⟩
theorem un_sound {o : O1} {K : Fg} {σ : L2.St} {H : Hp} {Q : VK} (h : tP K Φ st κ (.o1 o p) σ H Q) : tUn (rG1 K (o1F o) κ) (tP K Φ st κa p) σ H Q := by
  obtain ⟨Hf, Lk, ρ, d, S, ev, k⟩ := h
  obtain ⟨x, e1, e2⟩ := ev1 ev
  refine use1 S e1 fun v H1 Hf1 x1 r1 => ⟨Hf1, x, d, x1.sub, r1.rv, e2, fun w H' Hf' x2 r2 => k w H' Hf' (x1.trans x2) (r2.back x1.s)⟩
theorem op_sound {o : O2} {K : Fg} {σ : L2.St} {H : Hp} {Q : VK} (h : tP K Φ st κ (.o2 o p q) σ H Q) : tOp (rG2 K (o2F o) κ) (tP K Φ st κa p) (tP K Φ st κb q) σ H Q := by
  obtain ⟨Hf, Lk, ρ, d, S, ev, k⟩ := h
  obtain ⟨x, y, e1, e2, e3⟩ := ev2 ev
  refine use1 S e1 fun v H1 Hf1 x1 r1 => use1 (S.mono x1) e2 fun u H2 Hf2 x2 r2 => ⟨Hf2, x, y, d, x2.sub, r1.rv.mono x2.s x2.f, r2.rv, e3, fun w H' Hf' x3 r3 => k w H' Hf' ((x1.trans x2).trans x3) (r3.back (x1.s.trans x2.s))⟩
theorem pe_o1u {o : O1} {op : UnaryOp} (ho : UnR X (unaryOp op) (rG1 X.K (o1F o) κ)) (ha : PE X a (tP X.K Φ st κa p)) : PE X (.UnaryOp op a pos) (tP X.K Φ st κ (.o1 o p)) :=
  (pe_un ho ha).imp fun _ _ _ h => un_sound h
theorem pe_o2b {o : O2} {op : Operator} (ho : OpR X (binaryOp op) (rG2 X.K (o2F o) κ)) (ha : PE X a (tP X.K Φ st κa p)) (hb : PE X b (tP X.K Φ st κb q)) : PE X (.BinOp a op b pos) (tP X.K Φ st κ (.o2 o p q)) :=
  (pe_op ho ha hb).imp fun _ _ _ h => op_sound h
theorem pe_o2c {o : O2} {op : CmpOp} (ho : OpR X (compareOp op) (rG2 X.K (o2F o) κ)) (hm : behindInMarks op b = false) (ha : PE X a (tP X.K Φ st κa p)) (hb : PE X b (tP X.K Φ st κb q)) : PE X (.Compare a [op] [b] pos) (tP X.K Φ st κ (.o2 o p q)) :=
  (pe_cmpR ho ha hb hm).imp fun _ _ _ h => op_sound h
theorem pe_o2i {o : O2} (ho : IxR X (rG2 X.K (o2F o) κ)) (hm : PlainIx b) (ha : PE X a (tP X.K Φ st κa p)) (hb : PE X b (tP X.K Φ st κb q)) : PE X (.Subscript a b pos) (tP X.K Φ st κ (.o2 o p q)) :=
  (pe_ix ho ha hb hm).imp fun _ _ _ h => op_sound h
/-- a is None, a is True -/
theorem pe_is {o : O1} {op : CmpOp} {v : V} (ho : OpR X (compareOp op) (fun x y H Q => y = v ∧ rG1 X.K (o1F o) κ x H Q)) (hm : behindInMarks op b = false) (ha : PE X a (tP X.K Φ st κa p)) (hb : PE X b (tC v)) : PE X (.Compare a [op] [b] pos) (tP X.K Φ st κ (.o1 o p)) :=
  (pe_cmpR ho ha hb hm).imp fun _ _ _ ⟨Hf, Lk, ρ, d, S, ev, k⟩ => by
    obtain ⟨x, e1, e2⟩ := ev1 ev
    exact use1 S e1 fun v H1 Hf1 x1 r1 => ⟨rfl, Hf1, x, d, x1.sub, r1.rv, e2, fun w H' Hf' x2 r2 => k w H' Hf' (x1.trans x2) (r2.back x1.s)⟩
/-! ### names, constants -/
theorem pe_v {i : Nat} {x : Str} {s : Stat} (hN : X.N[i]? = some x) (hv : Vis X.env.scope x) (hd : (x == ("__debug__" : Str)) = false) (hcd : (x == ("__classdict__" : Str)) = false) (hs : st[i]? = some s) (hk : s.kd = some κ) : PE X (.Name x pos) (tP X.K Φ st κ (.var i)) :=
  (pe_var hN hv hd hcd).imp fun σ H Q ⟨Hf, Lk, ρ, d, S, ev, k⟩ => by
    rw [evX] at ev
    obtain ⟨v, h1, h2⟩ := S.read hs hk ev
    exact ⟨v, h1, k v H Hf (Ext.refl S.sub) h2⟩
/-- constants -/
def kV0 : D → Option V
  | .none => some .non
  | .bool b => some (.bl b)
  | .int i => some (.int i)
  | .str x => some (.str x)
  | _ => none
theorem kV0_rep {K : Fg} {H : Hp} {d : D} {v : V} (h : kV0 d = some v) : Rep K H v d := by
  cases d <;> simp only [kV0, reduceCtorEq, Option.some.injEq] at h <;> subst h
  · exact .non
  · exact .bl _
  · exact .int _
  · exact .str _
theorem pe_k {d : D} {v : V} (h : PE X e (tC v)) (r : ∀ Hf, Rep X.K Hf v d) : PE X e (tP X.K Φ st .sh (.cst d)) :=
  h.imp fun σ H Q ⟨Hf, Lk, ρ, d', S, ev, k⟩ => by
    rw [evX] at ev
    cases ev
    exact k v H Hf (Ext.refl S.sub) (r Hf)
/-! ### truth -/
theorem tru_of {K : Fg} {H Hf : Hp} {x : V} {d : D} {t : Bool} (sm : Same Hf H) (r : RV K H Hf x d) (h : truthF d = some t) : TruV K x H t := by
  cases d <;> simp only [truthF, reduceCtorEq, Option.some.injEq] at h
  · cases r.none; exact h.symm
  · cases r.bool; exact h.symm
  · cases r.int; exact h.symm
  · split at h
    · rename_i s hz
      cases r.str
      refine ⟨by rw [str_size, ← big_line]; exact hz, ?_⟩
      rw [← Option.some.inj h, str_size]
      rw [Bool.eq_iff_iff]
      simp
    · cases h
  · obtain ⟨a, xs, rfl, h1, h2⟩ := r.list sm
    refine .inl ⟨xs, h1, ?_⟩
    rw [← h]
    congr 1
    cases h2 <;> rfl
  · obtain ⟨a, xs, rfl, h1, h2⟩ := r.tup
    refine .inr (.inl ⟨xs, (h1.mono sm).sqt, ?_⟩)
    rw [← h]
    congr 1
    cases h2 <;> rfl
theorem evT_some {ρ : Rho} {t : Bool} (h : evT Φ p ρ = some t) : ∃ x, evX Φ p ρ = some x ∧ truthF x = some t := Option.bind_eq_some_iff.mp h
theorem pt_t (ha : PE X a (tP X.K Φ st κ p)) (he : ∀ whole, isTrue a X.env whole = (do let v ← whole; standAt a.pos; holding [v] (truthy v))) : PT X a (tT X.K Φ st p) :=
  (pt_truth ha he).imp fun σ H Q ⟨Hf, Lk, ρ, t, S, ev, k⟩ => by
    obtain ⟨x, e1, e2⟩ := evT_some ev
    exact use1 S e1 fun v H1 Hf1 x1 r1 => ⟨t, tru_of x1.sub r1.rv e2, k H1 Hf1 x1⟩
/-- a comparison as a test -/
theorem test_of {K : Fg} {σ : L2.St} {H : Hp} {Q : Bool → Hp → Prop} (hb : ∀ ρ x, evX Φ p ρ = some x → ∃ b, x = .bool b) (h : tT K Φ st p σ H Q) : tTest (tP K Φ st .sh p) σ H Q := by
  obtain ⟨Hf, Lk, ρ, t, S, ev, k⟩ := h
  obtain ⟨x, e1, e2⟩ := evT_some ev
  obtain ⟨b, rfl⟩ := hb ρ x e1
  cases e2
  refine use1 S e1 fun v H1 Hf1 x1 r1 => ?_
  cases (show Rep K Hf1 v (.bool t) from r1)
  exact ⟨t, rfl, k H1 Hf1 x1⟩
theorem pe_n (ha : PE X a (tP X.K Φ st κ p)) : PE X (.UnaryOp .Not a pos) (tP X.K Φ st .sh (.not p)) :=
  (pe_notT ha).imp fun σ H Q ⟨Hf, Lk, ρ, d, S, ev, k⟩ => by
    rw [evX] at ev
    obtain ⟨x, e1, ev⟩ := Option.bind_eq_some_iff.mp ev
    obtain ⟨t, e2, rfl⟩ := Option.map_eq_some_iff.mp ev
    exact use1 S e1 fun v H1 Hf1 x1 r1 => ⟨t, tru_of x1.sub r1.rv e2, k _ H1 Hf1 x1 (show Rep X.K Hf1 (.bl (!t)) (.bool (!t)) from .bl _)⟩
theorem pt_n (ha : PT X a (tT X.K Φ st p)) : PT X (.UnaryOp .Not a pos) (tT X.K Φ st (.not p)) :=
  (pt_not ha).imp fun σ H Q ⟨Hf, Lk, ρ, t, S, ev, k⟩ => by
    obtain ⟨x, e1, e2⟩ := evT_some ev
    rw [evX] at e1
    obtain ⟨y, e5, e3⟩ := Option.bind_eq_some_iff.mp e1
    obtain ⟨b, e4, e6⟩ := Option.map_eq_some_iff.mp e3
    rw [← e6] at e2
    have e7 : (!b) = t := Option.some.inj e2
    subst e7
    exact ⟨Hf, Lk, ρ, b, S, Option.bind_eq_some_iff.mpr ⟨y, e5, e4⟩, fun H' Hf' x1 => k H' Hf' x1⟩
/-! ### and, or -/
theorem boolOf_some {x : D} {t : Bool} (h : boolOf x = some t) : x = .bool t := by
  cases x <;> simp only [boolOf, reduceCtorEq, Option.some.injEq] at h
  rw [h]
theorem pe_a {rest : List Expr} (ha : PE X a (tP X.K Φ st κa p)) (hb : PE X (.BoolOp .And (b :: rest) pos) (tP X.K Φ st .sh q)) : PE X (.BoolOp .And (a :: b :: rest) pos) (tP X.K Φ st .sh (.and p q)) :=
  (pe_and ha hb).imp fun σ H Q ⟨Hf, Lk, ρ, d, S, ev, k⟩ => by
    rw [evX] at ev
    obtain ⟨x, e1, ev⟩ := Option.bind_eq_some_iff.mp ev
    obtain ⟨t, e2, ev⟩ := Option.bind_eq_some_iff.mp ev
    cases boolOf_some e2
    refine use1 S e1 fun v H1 Hf1 x1 r1 => ⟨t, by cases r1.rv.bool; rfl, ?_⟩
    cases t with
    | true => exact use1 (S.mono x1) ev fun w H2 Hf2 x2 r2 => k w H2 Hf2 (x1.trans x2) (r2.back x1.s)
    | false => cases ev; exact k _ H1 Hf1 x1 (show Rep X.K Hf1 (.bl false) (.bool false) from .bl _)
theorem pe_r {rest : List Expr} (ha : PE X a (tP X.K Φ st κa p)) (hb : PE X (.BoolOp .Or (b :: rest) pos) (tP X.K Φ st .sh q)) : PE X (.BoolOp .Or (a :: b :: rest) pos) (tP X.K Φ st .sh (.or p q)) :=
  (pe_or ha hb).imp fun σ H Q ⟨Hf, Lk, ρ, d, S, ev, k⟩ => by
    rw [evX] at ev
    obtain ⟨x, e1, ev⟩ := Option.bind_eq_some_iff.mp ev
    obtain ⟨t, e2, ev⟩ := Option.bind_eq_some_iff.mp ev
    cases boolOf_some e2
    refine use1 S e1 fun v H1 Hf1 x1 r1 => ⟨t, by cases r1.rv.bool; rfl, ?_⟩
    cases t with
    | false => exact use1 (S.mono x1) ev fun w H2 Hf2 x2 r2 => k w H2 Hf2 (x1.trans x2) (r2.back x1.s)
    | true => cases ev; exact k _ H1 Hf1 x1 (show Rep X.K Hf1 (.bl true) (.bool true) from .bl _)
theorem pw_a {rest : List Expr} (ha : PT X a (tT X.K Φ st p)) (hb : PW X (.BoolOp .And (b :: rest) pos) (tT X.K Φ st q)) : PW X (.BoolOp .And (a :: b :: rest) pos) (tT X.K Φ st (.and p q)) :=
  (pw_and ha hb).imp fun σ H Q ⟨Hf, Lk, ρ, d, S, ev, k⟩ => by
    obtain ⟨x, e1, e2⟩ := evT_some ev
    rw [evX] at e1
    obtain ⟨y, e1, ev⟩ := Option.bind_eq_some_iff.mp e1
    obtain ⟨t, e3, ev⟩ := Option.bind_eq_some_iff.mp ev
    cases boolOf_some e3
    refine ⟨Hf, Lk, ρ, t, S, Option.bind_eq_some_iff.mpr ⟨_, e1, rfl⟩, fun H1 Hf1 x1 => ?_⟩
    cases t with
    | true => exact ⟨Hf1, Lk, ρ, d, S.mono x1, Option.bind_eq_some_iff.mpr ⟨_, ev, e2⟩, fun H2 Hf2 x2 => k H2 Hf2 (x1.trans x2)⟩
    | false => cases ev; cases e2; exact k H1 Hf1 x1
theorem pw_r {rest : List Expr} (ha : PT X a (tT X.K Φ st p)) (hb : PW X (.BoolOp .Or (b :: rest) pos) (tT X.K Φ st q)) : PW X (.BoolOp .Or (a :: b :: rest) pos) (tT X.K Φ st (.or p q)) :=
  (pw_or ha hb).imp fun σ H Q ⟨Hf, Lk, ρ, d, S, ev, k⟩ => by
    obtain ⟨x, e1, e2⟩ := evT_some ev
    rw [evX] at e1
    obtain ⟨y, e1, ev⟩ := Option.bind_eq_some_iff.mp e1
    obtain ⟨t, e3, ev⟩ := Option.bind_eq_some_iff.mp ev
    cases boolOf_some e3
    refine ⟨Hf, Lk, ρ, t, S, Option.bind_eq_some_iff.mpr ⟨_, e1, rfl⟩, fun H1 Hf1 x1 => ?_⟩
    cases t with
    | false => exact ⟨Hf1, Lk, ρ, d, S.mono x1, Option.bind_eq_some_iff.mpr ⟨_, ev, e2⟩, fun H2 Hf2 x2 => k H2 Hf2 (x1.trans x2)⟩
    | true => cases ev; cases e2; exact k H1 Hf1 x1
/-! ### a if c else b -/
def kjoin : Kd → Kd → Option Kd
  | .sh, .sh => some .sh
  | .sh, .fr => some .sh
  | .fr, .sh => some .sh
  | .fr, .fr => some .fr
  | _, _ => none
theorem kjoin_l {κ : Kd} (h : kjoin κa κb = some κ) {K : Fg} {H Hf H' Hf' : Hp} {v : V} {d : D} (e : Ext H Hf H' Hf') (r : RR K H H' Hf' κa v d) : ∃ Hf'', Ext H Hf H' Hf'' ∧ RR K H H' Hf'' κ v d := by
  cases κa <;> cases κb <;> simp only [kjoin, reduceCtorEq, Option.some.injEq] at h <;> subst h
  · exact ⟨Hf', e, r⟩
  · exact ⟨Hf', e, r⟩
  · obtain ⟨Hf'', e1, _, e2⟩ := RR.freeze (.inr rfl) e r; exact ⟨Hf'', e1, e2⟩
  · exact ⟨Hf', e, r⟩
theorem kjoin_r {κ : Kd} (h : kjoin κa κb = some κ) {K : Fg} {H Hf H' Hf' : Hp} {v : V} {d : D} (e : Ext H Hf H' Hf') (r : RR K H H' Hf' κb v d) : ∃ Hf'', Ext H Hf H' Hf'' ∧ RR K H H' Hf'' κ v d := by
  cases κa <;> cases κb <;> simp only [kjoin, reduceCtorEq, Option.some.injEq] at h <;> subst h
  · exact ⟨Hf', e, r⟩
  · obtain ⟨Hf'', e1, _, e2⟩ := RR.freeze (.inr rfl) e r; exact ⟨Hf'', e1, e2⟩
  · exact ⟨Hf', e, r⟩
  · exact ⟨Hf', e, r⟩
theorem pe_i (hj : kjoin κa κb = some κ) (hc : PT X c (tT X.K Φ st r)) (ha : PE X a (tP X.K Φ st κa p)) (hb : PE X b (tP X.K Φ st κb q)) : PE X (.IfExp c a b pos) (tP X.K Φ st κ (.ite r p q)) :=
  (pe_ifExp hc ha hb).imp fun σ H Q ⟨Hf, Lk, ρ, d, S, ev, k⟩ => by
    rw [evX] at ev
    obtain ⟨x, e1, ev⟩ := Option.bind_eq_some_iff.mp ev
    obtain ⟨t, e2, ev⟩ := Option.bind_eq_some_iff.mp ev
    refine ⟨Hf, Lk, ρ, t, S, Option.bind_eq_some_iff.mpr ⟨_, e1, e2⟩, fun H1 Hf1 x1 => ?_⟩
    cases t with
    | true =>
      refine use1 (S.mono x1) ev fun w H2 Hf2 x2 r2 => ?_
      obtain ⟨Hf3, x3, r3⟩ := kjoin_l hj (x1.trans x2) (r2.back x1.s)
      exact k w H2 Hf3 x3 r3
    | false =>
      refine use1 (S.mono x1) ev fun w H2 Hf2 x2 r2 => ?_
      obtain ⟨Hf3, x3, r3⟩ := kjoin_r hj (x1.trans x2) (r2.back x1.s)
      exact k w H2 Hf3 x3 r3
/-! ### a o b p c -/
theorem pe_c {o1 o2 : O2} {op1 op2 : CmpOp} (h1 : OpR X (compareOp op1) (rG2 X.K (o2F o1) .sh)) (h2 : OpR X (compareOp op2) (rG2 X.K (o2F o2) .sh)) (hm : lastMarks [op1, op2] [b, c] = false)
    (ha : PE X a (tP X.K Φ st κa p)) (hb : PE X b (tP X.K Φ st κb q)) (hc : PE X c (tP X.K Φ st κc r)) : PE X (.Compare a [op1, op2] [b, c] pos) (tP X.K Φ st .sh (.chain o1 o2 p q r)) :=
  (pe_chain h1 h2 ha hb hc hm).imp fun σ H Q ⟨Hf, Lk, ρ, d, S, ev, k⟩ => by
    rw [evX] at ev
    obtain ⟨x, e1, ev⟩ := Option.bind_eq_some_iff.mp ev
    obtain ⟨y, e2, ev⟩ := Option.bind_eq_some_iff.mp ev
    obtain ⟨z, e3, ev⟩ := Option.bind_eq_some_iff.mp ev
    obtain ⟨t, e4, ev⟩ := Option.bind_eq_some_iff.mp ev
    have e9 := boolOf_some e4
    subst e9
    refine use1 S e1 fun v H1 Hf1 x1 r1 => use1 (S.mono x1) e2 fun u H2 Hf2 x2 r2 => ⟨Hf2, x, y, .bool t, x2.sub, r1.rv.mono x2.s x2.f, r2.rv, e3, fun w H3 Hf3 x3 r3 => ⟨t, by cases r3.rv.bool; rfl, ?_⟩⟩
    cases t with
    | true =>
      have ev : ((evX Φ r ρ).bind fun z => o2F o2 y z) = some d := ev
      obtain ⟨z', e5, e6⟩ := Option.bind_eq_some_iff.mp ev
      exact use1 (((S.mono x1).mono x2).mono x3) e5 fun w' H4 Hf4 x4 r4 => ⟨Hf4, y, z', d, x4.sub, (r2.rv.mono x3.s x3.f).mono x4.s x4.f, r4.rv, e6, fun w5 H5 Hf5 x5 r5 => k w5 H5 Hf5 ((((x1.trans x2).trans x3).trans x4).trans x5) (r5.back (((x1.s.trans x2.s).trans x3.s).trans x4.s))⟩
    | false => cases ev; exact k _ H3 Hf3 ((x1.trans x2).trans x3) (show Rep X.K Hf3 (.bl false) (.bool false) from .bl _)
/-! ### rows of values -/
theorem pa_n : PA X [] (tPs X.K Φ st .nil) := pa_nil.imp fun σ H Q ⟨Hf, Lk, ρ, ds, S, ev, k⟩ => by
  rw [evXs] at ev
  cases ev
  exact k [] H Hf (Ext.refl S.sub) .nil
theorem pa_c {es : List Expr} {ps : Eps} (hk : κ = .sh ∨ κ = .fr) (hs : starEach (e :: es) X.env = (false, eval e X.env) :: starEach es X.env) (ha : PE X e (tP X.K Φ st κ p)) (hr : PA X es (tPs X.K Φ st ps)) : PA X (e :: es) (tPs X.K Φ st (.cons p ps)) :=
  (pa_cons ha hr hs).imp fun σ H Q ⟨Hf, Lk, ρ, ds, S, ev, k⟩ => by
    rw [evXs] at ev
    obtain ⟨x, e1, ev⟩ := Option.bind_eq_some_iff.mp ev
    obtain ⟨xs, e2, rfl⟩ := Option.map_eq_some_iff.mp ev
    refine use1 S e1 fun v H1 Hf1 x1 r1 => ?_
    obtain ⟨Hf2, x2, _, r2⟩ := RR.freeze hk x1 r1
    refine ⟨Hf2, Lk, ρ, xs, S.mono x2, e2, fun vs H3 Hf3 x3 r3 => k (v :: vs) H3 Hf3 (x2.trans x3) (.cons (Rep.mono x3.f _ r2) r3)⟩
theorem evXs_len {ρ : Rho} : ∀ {ps : Eps} {ds : List D}, evXs Φ ps ρ = some ds → True := fun _ => trivial
/-- how many -/
def epsLen : Eps → Nat
  | .nil => 0
  | .cons _ r => epsLen r + 1
theorem evXs_length {ρ : Rho} : ∀ {ps : Eps} {ds : List D}, evXs Φ ps ρ = some ds → ds.length = epsLen ps
  | .nil, ds, h => by rw [evXs] at h; cases h; rfl
  | .cons p ps, ds, h => by
    rw [evXs] at h
    obtain ⟨x, e1, h⟩ := Option.bind_eq_some_iff.mp h
    obtain ⟨xs, e2, rfl⟩ := Option.map_eq_some_iff.mp h
    rw [List.length_cons, epsLen, evXs_length e2]
theorem pe_t {es : List Expr} {ps : Eps} {k1 : Nat} (hz : epsLen ps ≤ 4000) (h : PA X es (tPs X.K Φ st ps)) : PE X (.Tuple es k1 pos) (tP X.K Φ st .sh (.tup ps)) := by
  refine ⟨fun pins s σ H Q I ⟨Hf, Lk, ρ, d, S, ev, k⟩ => ?_⟩
  rw [evX] at ev
  obtain ⟨ds, e1, rfl⟩ := Option.map_eq_some_iff.mp ev
  refine Tuple_ (thn (h.run _ pins s σ H (fun vs H1 => ∃ Hf1, Ext H Hf H1 Hf1 ∧ RepAll X.K Hf1 vs ds) I ⟨Hf, Lk, ρ, ds, S, e1, fun vs H' Hf' x r => ⟨Hf', x, r⟩⟩) fun us s1 ⟨vs, H1, I1, r1, Hf1, x1, q1⟩ => ?_)
  have hl := r1.length
  have hd := dpa_len q1
  have he := evXs_length e1
  have sl := sizeLine_eq
  refine wpAny_newObj_type ?_ (by show us.toArray.size ≤ sizeLine; rw [List.size_toArray]; omega)
  exact epT (t' := s1.toks) I1 r1 (by rw [hd, he]; omega) fun p ob hdn np => finT x1.sub np hdn q1 fun w H' Hf' x2 r2 => k w H' Hf' (x1.trans x2) (r2.back x1.s)
theorem pe_l {es : List Expr} {ps : Eps} (hz : epsLen ps ≤ 4000) (h : PA X es (tPs X.K Φ st ps)) : PE X (.List es pos) (tP X.K Φ st .fr (.lst ps)) :=
  (pe_lst h).imp fun σ H Q ⟨Hf, Lk, ρ, d, S, ev, k⟩ => by
    rw [evX] at ev
    obtain ⟨ds, e1, rfl⟩ := Option.map_eq_some_iff.mp ev
    have he := evXs_length e1
    have sl := sizeLine_eq
    refine ⟨Hf, Lk, ρ, ds, S, e1, fun vs H1 Hf1 x1 r1 => ⟨by rw [dpa_len r1, he]; omega, fun p np => finL x1.sub np r1 fun w H' Hf' x2 r2 => k w H' Hf' (x1.trans x2) (r2.back x1.s)⟩⟩
/-! ### calls of built-ins -/
theorem cb1 {o : O1} {K : Fg} {σ : L2.St} {H : Hp} {Q : VK} (h : tP K Φ st κ (.o1 o p) σ H Q) : tCB (rC1 K (o1F o) κ) (tCons (tP K Φ st κa p) tNil) σ H Q := by
  obtain ⟨Hf, Lk, ρ, d, S, ev, k⟩ := h
  obtain ⟨x, e1, e2⟩ := ev1 ev
  exact use1 S e1 fun v H1 Hf1 x1 r1 => ⟨v, rfl, Hf1, x, d, x1.sub, r1.rv, e2, fun w H' Hf' x2 r2 => k w H' Hf' (x1.trans x2) (r2.back x1.s)⟩
theorem cb2 {o : O2} {K : Fg} {σ : L2.St} {H : Hp} {Q : VK} (h : tP K Φ st κ (.o2 o p q) σ H Q) : tCB (rC2 K (o2F o) κ) (tCons (tP K Φ st κa p) (tCons (tP K Φ st κb q) tNil)) σ H Q := by
  obtain ⟨Hf, Lk, ρ, d, S, ev, k⟩ := h
  obtain ⟨x, y, e1, e2, e3⟩ := ev2 ev
  exact use1 S e1 fun v H1 Hf1 x1 r1 => use1 (S.mono x1) e2 fun u H2 Hf2 x2 r2 => ⟨v, u, rfl, Hf2, x, y, d, x2.sub, r1.rv.mono x2.s x2.f, r2.rv, e3, fun w H' Hf' x3 r3 => k w H' Hf' ((x1.trans x2).trans x3) (r3.back (x1.s.trans x2.s))⟩
theorem cbI {o : O1} {T : String} {K : Fg} {σ : L2.St} {H : Hp} {Q : VK} (h : tP K Φ st κ (.o1 o p) σ H Q) : tCB (fun xs H Q => ∃ x, xs = [x, .ty T] ∧ rG1 K (o1F o) κ x H Q) (tCons (tP K Φ st κa p) (tCons (tC (.ty T)) tNil)) σ H Q := by
  obtain ⟨Hf, Lk, ρ, d, S, ev, k⟩ := h
  obtain ⟨x, e1, e2⟩ := ev1 ev
  exact use1 S e1 fun v H1 Hf1 x1 r1 => ⟨v, rfl, Hf1, x, d, x1.sub, r1.rv, e2, fun w H' Hf' x2 r2 => k w H' Hf' (x1.trans x2) (r2.back x1.s)⟩
/-! ### calls of defs -/
/-- a def's promise -/
def spP (K : Fg) (κ : Kd) (F : List D → Option D) : Sp := fun vs H Q _ => ∃ Hf ds d, Same Hf H ∧ RepAll K Hf vs ds ∧ F ds = some d ∧ ∀ v H' Hf', Ext H Hf H' Hf' → RR K H H' Hf' κ v d → Q v H'
theorem call_sound {f : Nat} {ps : Eps} {E : XK} {K : Fg} {σ : L2.St} {H : Hp} {Q : VK} (h : tP K Φ st κ (.call f ps) σ H Q) : tCall (spP K κ (Φ f)) [] E (tPs K Φ st ps) σ H Q := by
  obtain ⟨Hf, Lk, ρ, d, S, ev, k⟩ := h
  rw [evX] at ev
  obtain ⟨ds, e1, e2⟩ := Option.bind_eq_some_iff.mp ev
  refine ⟨Hf, Lk, ρ, ds, S, e1, fun vs H1 Hf1 x1 r1 => ⟨Hf1, ds, d, x1.sub, by rw [List.append_nil]; exact r1, e2, fun w H' Hf' x2 r2 => k w H' Hf' (x1.trans x2) (r2.back x1.s)⟩⟩
/-! ### slices -/
theorem po_p (h : PE X e (tP X.K Φ st κ p)) : PO X (some e) (tPart (tP X.K Φ st κ p)) := po_some h
end
end Orp

/-! Orp, part 13: methods, slices, displays of dicts, ranges as lists. -/
namespace Orp
open PySem PySem.Spec PyProof.Rows L2
/-- neither starred nor a set -/
def isPlain : Expr → Bool
  | .Starred _ _ => false
  | .Set _ _ _ => false
  | _ => true
theorem star_plain {e : Expr} {es : List Expr} {env : Env} (h : isPlain e = true) : starEach (e :: es) env = (false, eval e env) :: starEach es env := by
  cases e <;> first | rfl | exact absurd h (by simp [isPlain])
theorem folded_plain {e : Expr} {env : Env} (h : isPlain e = true) : ∀ x, foldedSetIterable e env x = pure x := fun x => by
  cases e <;> first | rfl | exact absurd h (by simp [isPlain])
theorem behind_plain {e : Expr} {op : CmpOp} (h : isPlain e = true) : behindInMarks op e = false := by
  cases e <;> first | rfl | exact absurd h (by simp [isPlain])
theorem star_any {env : Env} : ∀ {es : List Expr} {pos : Pos}, es.all isPlain = true → (backTo pos (starEach es env)).any (·.1) = false
  | [], _, _ => rfl
  | e :: es, pos, h => by
    rw [List.all_cons, Bool.and_eq_true] at h
    rw [star_plain h.1]
    have ih := star_any (env := env) (es := es) (pos := pos) h.2
    show (false || (backTo pos (starEach es env)).any (·.1)) = false
    rw [ih]; rfl
theorem star_all {env : Env} : ∀ {es : List Expr} {pos : Pos}, es.all isPlain = true → (backTo pos (starEach es env)).all (fun x => !x.1) = true
  | [], _, _ => rfl
  | e :: es, pos, h => by
    rw [List.all_cons, Bool.and_eq_true] at h
    rw [star_plain h.1]
    have ih := star_all (env := env) (es := es) (pos := pos) h.2
    show (true && (backTo pos (starEach es env)).all (fun x => !x.1)) = true
    rw [ih]; rfl
theorem star_few {env : Env} {es : List Expr} {pos : Pos} (h : es.all isPlain = true) (hl : es.length < 30) : ((backTo pos (starEach es env)).all (fun x => !x.1) && (backToKw pos (keywordEach [] env)).all (fun x => x.1.isSome)
      && decide (es.length + ([] : List Keyword).length + (if ([] : List Keyword).isEmpty then 0 else 1) < 30)) = true := by
  rw [star_all h]
  simp only [List.length_nil, Nat.add_zero, List.isEmpty_nil, if_true, Bool.true_and, Bool.and_eq_true, decide_eq_true_eq]
  exact ⟨rfl, hl⟩
/-- no call: the receiver of a method -/
def noCall : Expr → Bool
  | .Call _ _ _ _ => false
  | _ => true
theorem base_of {o : Expr} {name : Str} {env : Env} {w : Sem Value} (h : noCall o = true) : attributeBase o name env w = w := by
  cases o <;> first | rfl | exact absurd h (by simp [noCall])
section
variable {X : Cx} {Φ : Fn0} {st : List Stat} {e a b c : Expr} {p q r : Ep} {κ κa κb κc : Kd} {pos apos : Pos}
/-- run one expression -/
theorem run1 {pins : List (Addr × Obj)} {s : Shared} {σ : L2.St} {H Hf Lk : Hp} {ρ : Rho} {x : D} {Q : Value → Shared → Prop} (ha : PE X a (tP X.K Φ st κ p)) (I : Inv X pins σ H s) (S : SOk X.K σ H Hf Lk st ρ) (ev : evX Φ p ρ = some x)
    (k : ∀ u v s1 H1 Hf1, Inv X pins σ H1 s1 → RelV v u → Ext H Hf H1 Hf1 → RR X.K H H1 Hf1 κ v x → Q u s1) : wpAny (model X.prog X.w) X.A (eval a X.env) Q X.xe s :=
  thn (ha.run pins s σ H (fun v H1 => ∃ Hf1, Ext H Hf H1 Hf1 ∧ RR X.K H H1 Hf1 κ v x) I ⟨Hf, Lk, ρ, x, S, ev, fun v H' Hf' x1 r1 => ⟨Hf', x1, r1⟩⟩) fun u s1 ⟨v, H1, I1, r1, Hf1, x1, rr⟩ => k u v s1 H1 Hf1 I1 r1 x1 rr
/-- what a list or a tuple is in the heap -/
theorem seq_is {pins : List (Addr × Obj)} {s : Shared} {σ : L2.St} {H Hf : Hp} {v : V} {u : Value} {d : D} {ds : List D} (I : Inv X pins σ H s) (sm : Same Hf H) (ru : RelV v u) (rv : RV X.K H Hf v d) (e : seqOf d = some ds) :
    ∃ a xs, v = .ref a ∧ u = .ref a ∧ RepAll X.K Hf xs ds ∧ ((SqL X.K H a xs ∧ s.TypeIs u "list") ∨ (SqT X.K H a xs ∧ s.TypeIs u "tuple")) ∧ ∀ b, u = .ref b → ∃ ob, s.heap.get? b = some ob ∧ ob.dict = none := by
  cases d <;> simp only [seqOf, reduceCtorEq, Option.some.injEq] at e
  · subst e
    obtain ⟨a, xs, rfl, h1, h2⟩ := rv.list sm
    cases ru
    obtain ⟨its, _, pl, _⟩ := I.list h1
    refine ⟨a, xs, rfl, rfl, h2, .inl ⟨h1, pl.isList.typeIs⟩, fun b e => ?_⟩
    cases e
    obtain ⟨o, n, e, c, hd, _⟩ := pl
    exact ⟨o, e, hd⟩
  · subst e
    obtain ⟨a, xs, rfl, h1, h2⟩ := rv.tup
    cases ru
    obtain ⟨its, _, pl, _⟩ := I.tuple (h1.mono sm).sqt
    refine ⟨a, xs, rfl, rfl, h2, .inr ⟨(h1.mono sm).sqt, pl.typeIs⟩, fun b e => ?_⟩
    cases e
    rcases h1.mono sm with ⟨o, h3, h4⟩ | ⟨o, its', n, h3, h4, h5, _⟩
    · exact ⟨o, (I.hok a _ h3).1, h4⟩
    · exact ⟨o, I.kIn _ _ h3, h5⟩
/-! ### a.join(x), a.split(b) -/
theorem strs_vals {K : Fg} {Hf : Hp} : ∀ {xs : List V} {ds : List D} {ys : List Str}, RepAll K Hf xs ds → strsOf ds = some ys → xs = ys.map V.str
  | [], [], ys, _, h => by cases h; rfl
  | [], _ :: _, _, r, _ => by cases r
  | _ :: _, [], _, r, _ => by cases r
  | x :: xs, d :: ds, ys, r, h => by
    cases r with
    | cons r1 r2 =>
      cases d <;> simp only [strsOf, reduceCtorEq] at h
      obtain ⟨zs, h1, rfl⟩ := Option.map_eq_some_iff.mp h
      cases r1
      rw [strs_vals r2 h1]
      rfl
theorem big_eq : BIG = 16777216 := rfl
theorem pe_join (hb : noCall a = true) (hl : (apos.endLine == pos.line) = true) (hs : isPlain b = true) (ha : PE X a (tP X.K Φ st κa p)) (hy : PE X b (tP X.K Φ st κb q)) :
    PE X (.Call (.Attribute a "join" apos) [b] [] pos) (tP X.K Φ st .sh (.o2 .join p q)) :=
  (pe_m1 PySem.F.slot_str_join PySem.F.type_str_join mt_join ha hy (star_plain hs) (base_of hb) hl).imp fun σ H Q ⟨Hf, Lk, ρ, d, S, ev, k⟩ => by
    obtain ⟨x, y, e1, e2, e3⟩ := ev2 ev
    cases x <;> simp only [o2F, reduceCtorEq] at e3
    rename_i t
    unfold joinF at e3
    obtain ⟨ds, e4, e3⟩ := Option.bind_eq_some_iff.mp e3
    obtain ⟨ys, e5, e3⟩ := Option.bind_eq_some_iff.mp e3
    split at e3
    case isFalse => cases e3
    rename_i hz
    cases e3
    refine use1 S e1 fun v H1 Hf1 x1 r1 => ?_
    cases r1.rv.str
    refine ⟨⟨t, rfl⟩, use1 (S.mono x1) e2 fun u H2 Hf2 x2 r2 => ?_⟩
    have fin : Q (.str (PySem.Txt.join t ys)) H2 := k _ H2 Hf2 (x1.trans x2) (show Rep X.K Hf2 _ _ from .str _)
    cases y <;> simp only [seqOf, reduceCtorEq, Option.some.injEq] at e4
    · subst e4
      obtain ⟨l, xs, rfl, h1, h2⟩ := r2.rv.list x2.sub
      rw [strs_vals h2 e5] at h1
      exact ⟨t, l, ys, rfl, rfl, .inl h1, hz, fin⟩
    · subst e4
      obtain ⟨l, xs, rfl, h1, h2⟩ := r2.rv.tup
      rw [strs_vals h2 e5] at h1
      exact ⟨t, l, ys, rfl, rfl, .inr ((h1.mono x2.sub).sqt), hz, fin⟩
theorem rep_strs {K : Fg} {Hf : Hp} : ∀ ys : List Str, RepAll K Hf (ys.map V.str) (ys.map PyData.str)
  | [] => .nil
  | _ :: ys => .cons (.str _) (rep_strs ys)
theorem pe_split (hb : noCall a = true) (hl : (apos.endLine == pos.line) = true) (hs : isPlain b = true) (ha : PE X a (tP X.K Φ st κa p)) (hy : PE X b (tP X.K Φ st κb q)) :
    PE X (.Call (.Attribute a "split" apos) [b] [] pos) (tP X.K Φ st .sh (.o2 .split p q)) :=
  (pe_m1 PySem.F.slot_str_split PySem.F.type_str_split mt_split ha hy (star_plain hs) (base_of hb) hl).imp fun σ H Q ⟨Hf, Lk, ρ, d, S, ev, k⟩ => by
    obtain ⟨x, y, e1, e2, e3⟩ := ev2 ev
    cases x <;> simp only [o2F, reduceCtorEq] at e3
    rename_i t
    cases y <;> simp only [o2F, reduceCtorEq] at e3
    rename_i t2
    unfold splitF at e3
    split at e3
    case isFalse => cases e3
    rename_i hz
    cases e3
    refine use1 S e1 fun v H1 Hf1 x1 r1 => ?_
    cases r1.rv.str
    refine ⟨⟨t, rfl⟩, use1 (S.mono x1) e2 fun u H2 Hf2 x2 r2 => ?_⟩
    cases r2.rv.str
    refine ⟨t, t2, rfl, rfl, hz.1, by rw [← big_line]; exact hz.2, fun l hl => ?_⟩
    refine k _ _ _ ((x1.trans x2).trans (Ext.new x2.sub hl)) (show Rep X.K _ _ _ from ?_)
    exact .lst (.inl (.inl upd_same)) (rep_strs _)
/-- x.index(y) -/
theorem pe_index (hu : X.A.units + 200 < cLine) (hb : noCall a = true) (hl : (apos.endLine == pos.line) = true) (hs : isPlain b = true) (ha : PE X a (tP X.K Φ st κa p)) (hy : PE X b (tP X.K Φ st κb q)) :
    PE X (.Call (.Attribute a "index" apos) [b] [] pos) (tP X.K Φ st .sh (.o2 .index p q)) := by
  refine ⟨fun pins s σ H Q I ⟨Hf, Lk, ρ, d, S, ev, k⟩ => ?_⟩
  obtain ⟨x, y, e1, e2, e3⟩ := ev2 ev
  simp only [o2F] at e3
  obtain ⟨ds, e4, e3⟩ := Option.bind_eq_some_iff.mp e3
  split at e3
  case isFalse => cases e3
  rename_i ok
  obtain ⟨n, e5, rfl⟩ := Option.map_eq_some_iff.mp e3
  refine wpAny_Call_method_late (base_of hb) (star_few (by simp [hs]) (by simp)) hl rfl (run1 ha I S e1 fun u v s1 H1 Hf1 I1 ru x1 r1 => ?_)
  obtain ⟨l, xs, rfl, rfl, h1, h2, h3⟩ := seq_is I1 x1.sub ru r1.rv e4
  have hA : wpAny (model X.prog X.w) X.A (spliced (backTo pos (starEach [b] X.env))) (AP X pins σ (fun vs H2 => ∃ v Hf2, vs = [v] ∧ Ext H1 Hf1 H2 Hf2 ∧ RR X.K H1 H2 Hf2 κb v y)) X.xe s1 :=
    (pa_cons hy pa_nil (star_plain hs)).run pos pins s1 σ H1 _ I1 ⟨Hf1, Lk, ρ, y, S.mono x1, e2, fun v H' Hf' x2 r2 => ⟨v, Hf', rfl, x2, r2⟩⟩
  have fin : ∀ s2 H2 Hf2, Inv X pins σ H2 s2 → Ext H1 Hf1 H2 Hf2 → Q (.int (n : Nat)) H2 := fun s2 H2 Hf2 I2 x2 => k _ H2 Hf2 (x1.trans x2) (show Rep X.K Hf2 _ _ from .int _)
  rcases h2 with ⟨h2, ty⟩ | ⟨h2, ty⟩
  · refine ⟨"list", "list.index", PySem.F.plainAttrs_list, PySem.F.slot_list_index, PySem.F.type_list_index, ty, h3, ?_⟩
    rw [star_plain hs] at hA ⊢
    refine Calls.callWith_builtin (by rfl) (Calls.evalArgs_plain (thn hA fun us s2 ⟨vs, H2, I2, r2, w, Hf2, ew, x2, rw⟩ => ?_))
    subst ew
    obtain ⟨u2, rfl, ru2⟩ := vals1 r2
    exact list_index hu I2 (x2.s.seq h2) (RepAll.mono (x2.f.trans x2.sub) _ h1) ru2 (rw.rv.rep x2.sub (okD_nodict ok.1)) ok.1 ok.2 e5 (fin s2 H2 Hf2 I2 x2)
  · refine ⟨"tuple", "tuple.index", PySem.F.plainAttrs_tuple, PySem.F.slot_tuple_index, PySem.F.type_tuple_index, ty, h3, ?_⟩
    rw [star_plain hs] at hA ⊢
    refine Calls.callWith_builtin (by rfl) (Calls.evalArgs_plain (thn hA fun us s2 ⟨vs, H2, I2, r2, w, Hf2, ew, x2, rw⟩ => ?_))
    subst ew
    obtain ⟨u2, rfl, ru2⟩ := vals1 r2
    exact tup_index hu I2 (Same.sqt x2.s h2) (RepAll.mono (x2.f.trans x2.sub) _ h1) ru2 (rw.rv.rep x2.sub (okD_nodict ok.1)) ok.1 ok.2 e5 (fin s2 H2 Hf2 I2 x2)
/-- d.get(k, y) -/
theorem pe_get (hu : X.A.units + 200 < cLine) (hb : noCall a = true) (hl : (apos.endLine == pos.line) = true) (hs : isPlain b = true) (hs2 : isPlain c = true) (hk : κc = .sh ∨ κc = .fr) (ha : PE X a (tP X.K Φ st κa p)) (hy : PE X b (tP X.K Φ st κb q)) (hz : PE X c (tP X.K Φ st κc r)) :
    PE X (.Call (.Attribute a "get" apos) [b, c] [] pos) (tP X.K Φ st .sh (.o3 .dget p q r)) := by
  refine ⟨fun pins s σ H Q I ⟨Hf, Lk, ρ, d, S, ev, k⟩ => ?_⟩
  obtain ⟨x, y, z, e1, e2, e3, e4⟩ := ev3 ev
  cases x <;> simp only [o3F, reduceCtorEq] at e4
  rename_i kvs
  refine wpAny_Call_method_late (base_of hb) (star_few (by simp [hs, hs2]) (by simp)) hl rfl (run1 ha I S e1 fun u v s1 H1 Hf1 I1 ru x1 r1 => ?_)
  obtain ⟨tk, l, es, ep, ks, rfl, rfl, hp, R⟩ := r1.rv.dict
  simp only at e4
  split at e4
  case isFalse => cases e4
  rename_i ok
  cases e4
  cases ru
  obtain ⟨hm, o, h1, h2, h3⟩ := d_raw I1 hp
  refine ⟨"dict", "dict.get", PySem.F.plainAttrs_dict, PySem.F.slot_dict_get, PySem.F.type_dict_get, ⟨o, h1, h2.1⟩, (fun b e => by cases e; exact ⟨o, h1, h2.2.1⟩), ?_⟩
  have hA : wpAny (model X.prog X.w) X.A (spliced (backTo pos (starEach [b, c] X.env))) (AP X pins σ (fun vs H2 => ∃ v w Hf2, vs = [v, w] ∧ Ext H1 Hf1 H2 Hf2 ∧ RV X.K H2 Hf2 v y ∧ Rep X.K Hf2 w z)) X.xe s1 :=
    (pa_cons hy (pa_cons hz pa_nil (star_plain hs2)) (star_plain hs)).run pos pins s1 σ H1 _ I1 ⟨Hf1, Lk, ρ, y, S.mono x1, e2, fun v H' Hf' x2 r2 => ⟨Hf', Lk, ρ, z, (S.mono x1).mono x2, e3, fun w H3 Hf3 x3 r3 => by
      obtain ⟨Hf4, x4, sm4, r4⟩ := RR.freeze hk x3 r3
      exact ⟨v, w, Hf4, rfl, x2.trans x4, r2.rv.mono x4.s x4.f, r4⟩⟩⟩
  rw [star_plain hs] at hA ⊢
  refine Calls.callWith_builtin (by rw [star_plain hs2]; rfl) (Calls.evalArgs_plain (thn hA fun us s2 ⟨vs, H2, I2, r2, w1, w2, Hf2, ew, x2, rv1, rv2⟩ => ?_))
  subst ew
  obtain ⟨u1, u2, rfl, ru1, ru2⟩ := vals2 r2
  refine dd_getOr (A := X.A) (by omega) I2 x2.sub (x2.s _ _ hp) (R.mono x2.f) (key_of rv1 ok) ru1 ru2 rv2 fun s' w v I' r' h' => ⟨v, H2, I', r', k v H2 Hf2 (x1.trans x2) h'⟩
/-! ### slices -/
theorem pe_from (ha : PE X a (tP X.K Φ st κa p)) (hb : PE X b (tP X.K Φ st κb q)) {p2 : Pos} : PE X (.Subscript a (.Slice (some b) none none p2) pos) (tP X.K Φ st .sh (.o2 .from_ p q)) :=
  (pe_slice sl_G ha (po_some hb) po_none).imp fun σ H Q ⟨Hf, Lk, ρ, d, S, ev, k⟩ => by
    obtain ⟨x, y, e1, e2, e3⟩ := ev2 ev
    cases y <;> first | (cases x <;> simp only [o2F, reduceCtorEq] at e3 <;> done) | skip
    rename_i i
    refine use1 S e1 fun v H1 Hf1 x1 r1 => use1 (S.mono x1) e2 fun u H2 Hf2 x2 r2 => ?_
    cases r2.rv.int
    exact ⟨i, rfl, Hf2, x, d, x2.sub, r1.rv.mono x2.s x2.f, by simpa [o2F] using e3, fun w H' Hf' x3 r3 => k w H' Hf' ((x1.trans x2).trans x3) (r3.back (x1.s.trans x2.s))⟩
theorem pe_upto (ha : PE X a (tP X.K Φ st κa p)) (hb : PE X b (tP X.K Φ st κb q)) {p2 : Pos} : PE X (.Subscript a (.Slice none (some b) none p2) pos) (tP X.K Φ st .sh (.o2 .upto p q)) :=
  (pe_slice sl_G ha po_none (po_some hb)).imp fun σ H Q ⟨Hf, Lk, ρ, d, S, ev, k⟩ => by
    obtain ⟨x, y, e1, e2, e3⟩ := ev2 ev
    cases y <;> first | (cases x <;> simp only [o2F, reduceCtorEq] at e3 <;> done) | skip
    rename_i i
    refine use1 S e1 fun v H1 Hf1 x1 r1 => use1 (S.mono x1) e2 fun u H2 Hf2 x2 r2 => ?_
    cases r2.rv.int
    exact ⟨i, rfl, Hf2, x, d, x2.sub, r1.rv.mono x2.s x2.f, by simpa [o2F] using e3, fun w H' Hf' x3 r3 => k w H' Hf' ((x1.trans x2).trans x3) (r3.back (x1.s.trans x2.s))⟩
theorem pe_cut (ha : PE X a (tP X.K Φ st κa p)) (hb : PE X b (tP X.K Φ st κb q)) (hc : PE X c (tP X.K Φ st κc r)) {p2 : Pos} : PE X (.Subscript a (.Slice (some b) (some c) none p2) pos) (tP X.K Φ st .sh (.o3 .cut p q r)) :=
  (pe_slice sl_G ha (po_some hb) (po_some hc)).imp fun σ H Q ⟨Hf, Lk, ρ, d, S, ev, k⟩ => by
    obtain ⟨x, y, z, e1, e2, e3, e4⟩ := ev3 ev
    obtain ⟨i, j, rfl, rfl, e5⟩ : ∃ i j, y = .int i ∧ z = .int j ∧ sliceD x (some i) (some j) = some d := by
      cases y <;> cases z <;> cases x <;> simp only [o3F, reduceCtorEq] at e4 <;> exact ⟨_, _, rfl, rfl, e4⟩
    refine use1 S e1 fun v H1 Hf1 x1 r1 => use1 (S.mono x1) e2 fun u H2 Hf2 x2 r2 => ?_
    cases r2.rv.int
    refine ⟨i, rfl, use1 ((S.mono x1).mono x2) e3 fun u3 H3 Hf3 x3 r3 => ?_⟩
    cases r3.rv.int
    exact ⟨j, rfl, Hf3, x, d, x3.sub, (r1.rv.mono x2.s x2.f).mono x3.s x3.f, e5, fun w H' Hf' x4 r4 => k w H' Hf' (((x1.trans x2).trans x3).trans x4) (r4.back ((x1.s.trans x2.s).trans x3.s))⟩
/-! ### list(range(..)), tuple(range(..)) -/
theorem rg_rep {K : Fg} {H : Hp} (i j : Int) : RepAll K H (rgV i j) (rangeD i j) := by
  unfold rgV rangeD
  generalize List.range (j - i).toNat = l
  induction l with
  | nil => exact .nil
  | cons n l ih => exact .cons (.int _) ih
theorem rg_ok {i j : Int} (h1 : rngOk i = true) (h2 : rngOk j = true) : RgOk i j := by
  simp only [rngOk, Bool.and_eq_true, decide_eq_true_eq] at h1 h2
  exact ⟨by omega, by omega, by omega, by omega, by omega⟩
theorem ev_rgl {t : Bool} {ρ : Rho} {d : D} (h : evX Φ (.rgl t p q) ρ = some d) : ∃ i j, evX Φ p ρ = some (.int i) ∧ evX Φ q ρ = some (.int j) ∧ rngOk i = true ∧ rngOk j = true ∧ d = if t = true then .tuple (rangeD i j) else .list (rangeD i j) := by
  rw [evX] at h
  obtain ⟨x, h1, h⟩ := Option.bind_eq_some_iff.mp h
  obtain ⟨y, h2, h⟩ := Option.bind_eq_some_iff.mp h
  obtain ⟨i, h3, h⟩ := Option.bind_eq_some_iff.mp h
  obtain ⟨j, h4, h⟩ := Option.bind_eq_some_iff.mp h
  cases x <;> simp only [intOf, reduceCtorEq, Option.some.injEq] at h3
  cases y <;> simp only [intOf, reduceCtorEq, Option.some.injEq] at h4
  subst h3 h4
  split at h
  · rename_i hh
    exact ⟨_, _, h1, h2, hh.1, hh.2, (Option.some.inj h).symm⟩
  · cases h
/-- a range of one or two parts -/
theorem rgl_list {t : L2.St → Hp → (Int → Int → Hp → Prop) → Prop} {pp : Pos} (hc : X.calm = true) (hg : Gl X "list") (hm : X.mg "list" = none) (he : PRg X e t) (na : isPlain e = true)
    (ht : ∀ σ H R, (∃ Hf Lk ρ i j, SOk X.K σ H Hf Lk st ρ ∧ evX Φ p ρ = some (.int i) ∧ evX Φ q ρ = some (.int j) ∧ ∀ H' Hf', Ext H Hf H' Hf' → R i j H') → t σ H R) :
    PE X (.Call (.Name "list" pp) [e] [] pos) (tP X.K Φ st .fr (.rgl false p q)) :=
  (pe_listRg hc hg hm he (star_plain na)).imp fun σ H Q ⟨Hf, Lk, ρ, d, S, ev, k⟩ => by
    obtain ⟨i, j, e1, e2, h1, h2, rfl⟩ := ev_rgl ev
    refine ht σ H _ ⟨Hf, Lk, ρ, i, j, S, e1, e2, fun H1 Hf1 x1 => ⟨rg_ok h1 h2, fun q nq => ?_⟩⟩
    exact finL x1.sub nq (rg_rep i j) fun w H' Hf' x2 r2 => k w H' Hf' (x1.trans x2) (r2.back x1.s)
theorem rgl_tuple {t : L2.St → Hp → (Int → Int → Hp → Prop) → Prop} {pp : Pos} (hc : X.calm = true) (hg : Gl X "tuple") (hm : X.mg "tuple" = none) (he : PRg X e t) (na : isPlain e = true)
    (ht : ∀ σ H R, (∃ Hf Lk ρ i j, SOk X.K σ H Hf Lk st ρ ∧ evX Φ p ρ = some (.int i) ∧ evX Φ q ρ = some (.int j) ∧ ∀ H' Hf', Ext H Hf H' Hf' → R i j H') → t σ H R) :
    PE X (.Call (.Name "tuple" pp) [e] [] pos) (tP X.K Φ st .sh (.rgl true p q)) := by
  refine ⟨fun pins s σ H Q I ⟨Hf, Lk, ρ, d, S, ev, k⟩ => ?_⟩
  obtain ⟨i, j, e1, e2, h1, h2, rfl⟩ := ev_rgl ev
  have hq := ht σ H (fun i' j' H1 => i' = i ∧ j' = j ∧ ∃ Hf1, Ext H Hf H1 Hf1) ⟨Hf, Lk, ρ, i, j, S, e1, e2, fun H1 Hf1 x1 => ⟨rfl, rfl, Hf1, x1⟩⟩
  refine Call_ (ld_blt I hg hm boot_tuple (PyProof.Rows.callWith_type1 (args_cons (thn (he pins s σ H _ I hq) fun x s1 ⟨r, a, b, t, u, v, H1, ex, hr, I1, ea, eb, Hf1, x1⟩ => args_nil ?_) (star_plain na)) (star_plain na)))
  subst ex ea eb
  obtain ⟨b1, b2, b3, b4, b5⟩ := rg_ok h1 h2
  refine call_tuple_range (n := (b - a).toNat) (I1.ok.hd hc) hr (small_one b1 b2 b3 b4) (rangeSize_nat a b) b5 fun h' tk acc hk hi => ?_
  have I2 : Inv X pins σ H1 { s1 with heap := h', toks := tk } := I1.kept hk
  exact epT (t' := tk) I2 (vals_rg hi) (by rw [rgV_length, sizeLine_eq]; omega) fun p ob hd np => finT x1.sub np hd (rg_rep a b) fun w H' Hf' x2 r2 => k w H' Hf' (x1.trans x2) (r2.back x1.s)
theorem rg1_sound {κ : Kd} {z : Ep} (hz : ∀ ρ, evX Φ p ρ = some (.int 0)) : ∀ σ H R, (∃ Hf Lk ρ i j, SOk X.K σ H Hf Lk st ρ ∧ evX Φ p ρ = some (.int i) ∧ evX Φ q ρ = some (.int j) ∧ ∀ H' Hf', Ext H Hf H' Hf' → R i j H') → tRg1 (tP X.K Φ st κ q) σ H R := by
  intro σ H R ⟨Hf, Lk, ρ, i, j, S, e1, e2, k⟩
  rw [hz] at e1
  cases e1
  refine use1 S e2 fun v H1 Hf1 x1 r1 => ⟨j, by cases r1.rv.int; rfl, k H1 Hf1 x1⟩
theorem rg2_sound {κa κb : Kd} : ∀ σ H R, (∃ Hf Lk ρ i j, SOk X.K σ H Hf Lk st ρ ∧ evX Φ p ρ = some (.int i) ∧ evX Φ q ρ = some (.int j) ∧ ∀ H' Hf', Ext H Hf H' Hf' → R i j H') → tRg2 (tP X.K Φ st κa p) (tP X.K Φ st κb q) σ H R := by
  intro σ H R ⟨Hf, Lk, ρ, i, j, S, e1, e2, k⟩
  exact use1 S e1 fun v H1 Hf1 x1 r1 => use1 (S.mono x1) e2 fun u H2 Hf2 x2 r2 => ⟨i, j, by cases r1.rv.int; rfl, by cases r2.rv.int; rfl, k H2 Hf2 (x1.trans x2)⟩
end
end Orp

/-! Orp, part 10b: set(x), x a list or a tuple. -/
namespace Orp
open PySem PySem.Spec PyProof.Rows L2
/-- a set without members -/
abbrev set0 (w : World) : Obj := { cls := .type "set", dict := none, data := .set #[] 0 (.fresh 0 0 (!w.params.followText "set-order")) }
section
variable {P : Program} {w : World} {A : Around} {E : Value → Shared → Prop} {s : Shared}
/-- what the loop of an update is to give -/
structure UpdL (P : Program) (w : World) (s : Shared) (l : Addr) (items : Array Value) (Fin : Heap → Prop) : Prop where
  run : ∀ {A' : Around} {St : Nat → Shared → Prop} {R : Result → Shared → Prop} {s1 : Shared}, WalksS P w A'.in1 (s.heap.push (set0 w)).objs.size [(s.heap.push (set0 w)).objs.size, l] [(s.heap.push (set0 w)).objs.size] (fun a b => b = a) items.size (fun i v => items[i]? = some v) St →
    s.heap.objs.size ∉ [(s.heap.push (set0 w)).objs.size, l] → A'.in1.units < cLine → St 0 s1 → s1.heap.get? s.heap.objs.size = some (set0 w) → (∀ b o, s.heap.get? b = some o → s1.heap.get? b = some o) →
    (∀ s2, Moved [s.heap.objs.size, (s.heap.push (set0 w)).objs.size] (fun a b => b = a) s1 s2 → Fin s2.heap → (∀ b o, s.heap.get? b = some o → s2.heap.get? b = some o) → R (.ok (.ret .none)) s2) →
    codeAny (model P w) A' (.builtin "set.update.loop" ⟨[.ref s.heap.objs.size, .ref (s.heap.push (set0 w)).objs.size], []⟩) R s1
theorem set_from {l : Addr} {items : Array Value} {Fin : Heap → Prop} {Q : Value → Shared → Prop} (hh : A.handled = none) (hu : A.units + 3 < cLine) (hl : s.heap.IsList l items ∨ s.heap.IsTuple l items) (U : UpdL P w s l items Fin)
    (h : ∀ (h' : Heap) (tk : Nat), Fin h' → (∀ b o, s.heap.get? b = some o → h'.get? b = some o) → Q (.ref s.heap.objs.size) { s with heap := h', toks := tk }) : wpAny (model P w) A (call (.type "set") [.ref l]) Q E s := by
  obtain ⟨c, tl, hmro⟩ := F.called_set.mro; have hmade := F.called_set.made; have hsub := F.called_set.sub
  refine wpAny_call (codeAny_of_tree ?_); show wpAny _ _ (callAny (.type "set") _) _ _ _
  refine wpAny_pure ⟨Code.quiet_builtin _ (by decide +kernel), codeAny_builtin F.entry_type_call ?_⟩; rw [Around.under_plain (weight_type_call_type "set" [.ref l] []) rfl]
  have h1 := F.called_set.notType; have h2 := F.called_set.canCreate; have hct := F.typeCall_set_1 (.ref l)
  repeat (any_goals (first | assumption | wp_step))
  refine codeAny_mono (code_set_led1 (.ref l) (E := E) (Q₁ := fun obj s₁ => obj = .ref s.heap.objs.size ∧ s₁ = { s with heap := s.heap.push (set0 w) }) ⟨rfl, rfl⟩) fun r s₁ hr => ?_
  cases r with
  | error e => exact hr
  | ok fl =>
    cases fl with
    | next => exact hr.elim
    | brk => exact hr.elim
    | cont => exact hr.elim
    | ret obj =>
      obtain ⟨rfl, rfl⟩ := hr
      have hS : (s.heap.push (set0 w)).get? s.heap.objs.size = some (set0 w) := Heap.get?_push_size _ rfl
      have hT : Shared.TypeIs { s with heap := s.heap.push (set0 w) } (.ref s.heap.objs.size) "set" := ⟨_, hS, rfl⟩
      have hli := F.called_set.init.lookup; have hbi := F.called_set.init.bind (.ref s.heap.objs.size)
      repeat (any_goals (first | assumption | wp_step))
      refine codeAny_mono (codeAny_call_builtin (R := wants (fun r s₂ => r = .none ∧ ∃ h' tk, s₂ = { s with heap := h', toks := tk } ∧ Fin h' ∧ ∀ b o, s.heap.get? b = some o → h'.get? b = some o) E) F.called_set.init.plain F.entry_set_init (check_set_init_1 hT ?_)) fun r₂ s₂ hr₂ => ?_
      · have lt_of : ∀ {o : Obj}, s.heap.get? l = some o → l < s.heap.objs.size := fun z => Heap.lt_size z
        have ne_of : l < s.heap.objs.size → l ≠ (s.heap.push (set0 w)).objs.size ∧ s.heap.objs.size ∉ [(s.heap.push (set0 w)).objs.size, l] := fun z => by
          rw [Heap.size_push]
          refine ⟨Nat.ne_of_lt (Nat.lt_succ_of_lt z), fun q => ?_⟩
          rcases List.mem_cons.mp q with q | q
          · exact Nat.ne_of_lt (Nat.lt_succ_self _) q
          · exact Nat.ne_of_lt z (List.mem_singleton.mp q).symm
        have hh3 : A.in1.in1.in1.handled = none := by simp [hh]
        rcases hl with hl | hl
        · obtain ⟨ol, hol, hcl, nl, hdl⟩ := hl
          obtain ⟨ocls, odict, odata, oslots⟩ := ol
          simp only at hcl hdl
          subst hcl; subst hdl
          have hlS := lt_of hol
          obtain ⟨hneI, hSf⟩ := ne_of hlS
          have hol' : (s.heap.push (set0 w)).get? l = some { cls := .type "list", dict := odict, data := .seq items nl, slots := oslots } := Heap.get?_push_of_some _ hol
          have hsls := F.sub_list_set; have hslf := F.sub_list_frozenset; have hne : (Value.type "list" == Value.type "dict") = false := by decide
          have hl1 : (s.heap.push (set0 w)).IsList l items := ⟨_, hol', rfl, nl, rfl⟩
          unfold Builtin.«set.__init__» noKeywords Builtin.Frozenset.updateFrom
          generalize hPI : pyIter = PI
          wp_walk
          subst hPI
          refine wpAny_pyIter_list hl1 (wpAny_bind (wpAny_runValue ?_))
          refine U.run ((Walks.list hh3 _ l hneI items).toS) hSf hu ⟨⟨_, Heap.get?_push_size _ rfl, rfl, rfl⟩, hl1.push _⟩ (Heap.get?_push_of_some _ hS) (fun b o e => Heap.get?_push_of_some _ (Heap.get?_push_of_some _ e)) fun s2 hm hF hk => ?_
          obtain ⟨h', g2, d', tk', os'⟩ := s2
          have eg : g2 = s.gens := hm.gens
          have ed : d' = s.drawn := hm.drawn
          have eo : os' = s.os := hm.os
          subst eg; subst ed; subst eo
          refine wpAny_pure ?_
          exact wpAny_pure ⟨rfl, h', tk', rfl, hF, hk⟩
        · obtain ⟨ol, hol, hcl, nl, hdl⟩ := hl
          obtain ⟨ocls, odict, odata, oslots⟩ := ol
          simp only at hcl hdl
          subst hcl; subst hdl
          have hlS := lt_of hol
          obtain ⟨hneI, hSf⟩ := ne_of hlS
          have hol' : (s.heap.push (set0 w)).get? l = some { cls := .type "tuple", dict := odict, data := .seq items nl, slots := oslots } := Heap.get?_push_of_some _ hol
          have hsls := F.sub_tuple_set; have hslf := F.sub_tuple_frozenset; have hne : (Value.type "tuple" == Value.type "dict") = false := by decide
          have hl1 : (s.heap.push (set0 w)).IsTuple l items := ⟨_, hol', rfl, nl, rfl⟩
          unfold Builtin.«set.__init__» noKeywords Builtin.Frozenset.updateFrom
          generalize hPI : pyIter = PI
          wp_walk
          subst hPI
          refine wpAny_pyIter_tuple hl1 (wpAny_bind (wpAny_runValue ?_))
          refine U.run ((Walks.tuple hh3 _ l hneI items).toS) hSf hu ⟨⟨_, Heap.get?_push_size _ rfl, rfl, rfl⟩, hl1.push _⟩ (Heap.get?_push_of_some _ hS) (fun b o e => Heap.get?_push_of_some _ (Heap.get?_push_of_some _ e)) fun s2 hm hF hk => ?_
          obtain ⟨h', g2, d', tk', os'⟩ := s2
          have eg : g2 = s.gens := hm.gens
          have ed : d' = s.drawn := hm.drawn
          have eo : os' = s.os := hm.os
          subst eg; subst ed; subst eo
          refine wpAny_pure ?_
          exact wpAny_pure ⟨rfl, h', tk', rfl, hF, hk⟩
      · cases r₂ with
        | error e => exact hr₂
        | ok fl₂ =>
          cases fl₂ with
          | next => exact hr₂.elim
          | brk => exact hr₂.elim
          | cont => exact hr₂.elim
          | ret r =>
            obtain ⟨rfl, h', tk, rfl, hF, hk'⟩ := hr₂
            repeat (any_goals (first | assumption | wp_step))
            exact h _ _ hF hk'
end
end Orp

/-! Orp, part 10c: set(x) of ints, of tuples of ints. -/
namespace Orp
open PySem PySem.Spec PyProof.Rows L2
section
variable {P : Program} {w : World} {A : Around} {E : Value → Shared → Prop} {s : Shared}
theorem moved_keep {S I : Addr} {s0 s1 s2 : Shared} (hS : ∀ b o, s0.heap.get? b = some o → b ≠ S ∧ b ≠ I) (k : ∀ b o, s0.heap.get? b = some o → s1.heap.get? b = some o) {G : Array GenState → Array GenState → Prop} (hm : Moved [S, I] G s1 s2) : ∀ b o, s0.heap.get? b = some o → s2.heap.get? b = some o := fun b o e =>
  hm.heap b o (fun z => by
    rcases List.mem_cons.mp z with z | z
    · exact (hS b o e).1 z
    · exact (hS b o e).2 (List.mem_singleton.mp z)) (k b o e)
theorem old_ne {b : Addr} {o : Obj} (e : s.heap.get? b = some o) : b ≠ s.heap.objs.size ∧ b ≠ (s.heap.push (set0 w)).objs.size := by
  have hb : b < s.heap.objs.size := Heap.lt_size e
  rw [Heap.size_push]
  exact ⟨Nat.ne_of_lt hb, Nat.ne_of_lt (Nat.lt_succ_of_lt hb)⟩
/-- ints -/
theorem upd_ints {l : Addr} {items : Array Value} (ns : List Int) (hit : IntsAre items.toList ns) (hb : ns.length + 1 < scanBound) : UpdL P w s l items fun h => ∃ c, c ≤ ns.length ∧ SetR w h s.heap.objs.size (fun j => decide (j ∈ ns)) c := by
  refine ⟨fun {A' St R s1} W hSf hu h0 hS hk hR => ?_⟩
  have hisz : items.size = ns.length := by
    have q := IntsAre.length hit
    rwa [Array.length_toList] at q
  refine set_update_ints W s.heap.objs.size hSf ns hisz hb (fun i v hv => ?_) (items.size - 0) 0 s1 (by omega) (Nat.zero_le _) h0 ⟨0, Nat.le_refl 0, setR_new_at hS⟩ fun s2 c hm hc R2 => hR s2 hm ⟨c, by rw [← hisz]; exact hc, R2⟩ (moved_keep (fun b o e => old_ne e) hk hm)
  have hi : i < ns.length := by rw [← hisz]; exact (Array.getElem?_eq_some_iff.mp hv).1
  obtain ⟨t, e⟩ := IntsAre.int_at hit i v (by rw [Array.getElem?_toList]; exact hv)
  exact ⟨ns[i], t, List.getElem?_eq_getElem hi, by rw [e, List.getD_eq_getElem?_getD, List.getElem?_eq_getElem hi]; rfl⟩
/-- tuples of ints: the loop -/
theorem loop_tups {I S : Addr} {fp wr : List Addr} {G : Array GenState → Array GenState → Prop} {n : Nat} {Pv : Nat → Value → Prop} {St : Nat → Shared → Prop} {R : Result → Shared → Prop} (W : WalksS P w A.in1 I fp wr G n Pv St) (hSf : S ∉ fp) {ks : List (Addr × List Int)} (hn : n = ks.length)
    (few : ∀ L : List (Addr × List Int), (L.map (·.2)).Nodup → (∀ p ∈ L, p ∈ ks) → L.length + 1 < 64) (hval : ∀ i v, Pv i v → ∃ p, ks[i]? = some p ∧ v = .ref p.1) {h0 : Heap} (hk : ∀ p ∈ ks, IsT P w h0 p.2 p.1) (hS0 : h0.get? S = none) (hw0 : ∀ b ∈ wr, h0.get? b = none) (hu : A.in1.units < cLine) :
    ∀ (k i : Nat) (s : Shared), i + k = n → St i s → (∀ b o, h0.get? b = some o → s.heap.get? b = some o) → (∃ L es ep t, SetTR P w s.heap S L es ep t ∧ Got ks i L) →
      (∀ s', Moved (S :: wr) G s s' → (∃ L es ep t, SetTR P w s'.heap S L es ep t ∧ Got ks n L) → R (.ok (.ret .none)) s') → codeAny (model P w) A (.builtin "set.update.loop" ⟨[.ref S, .ref I], []⟩) R s := by
  have sw : S ∉ wr := fun z => hSf (W.sub _ z)
  have up : ∀ b ∈ wr, b ∈ S :: wr := fun b z => List.mem_cons_of_mem _ z
  have old : ∀ {s s' : Shared}, Moved wr G s s' → (∀ b o, h0.get? b = some o → s.heap.get? b = some o) → ∀ b o, h0.get? b = some o → s'.heap.get? b = some o := fun hm kp b o e =>
    hm.heap b o (fun z => nomatch (hw0 b z).symm.trans e) (kp b o e)
  intro k
  induction k with
  | zero =>
    intro i s hi st kp ⟨L, es, ep, t, T, g⟩ hR
    have hi : i = n := hi
    subst hi
    refine codeAny_builtin F.entry_set_update_loop ?_
    rw [Around.under_plainId F.plain_set_update_loop _]
    show wpAny _ A.in1 (pyNext (.ref I) >>= _) _ _ s
    refine wpAny_bind (W.done s _ _ st fun s' hm => wpAny_pure (hR s' (hm.mono up) ⟨L, es, ep, t, T.keep (fun o e => hm.heap S o sw e) fun p hp => ?_, g⟩))
    exact isT_keep (hk p (List.mem_of_mem_take (g.sub p hp))) (old hm kp)
  | succ k ih =>
    intro i s hi st kp ⟨L, es, ep, t, T, g⟩ hR
    refine codeAny_builtin F.entry_set_update_loop ?_
    rw [Around.under_plainId F.plain_set_update_loop _]
    show wpAny _ A.in1 (pyNext (.ref I) >>= _) _ _ s
    refine wpAny_bind (W.item i s _ _ (by omega) st fun v s' pv st' hm => ?_)
    obtain ⟨p, hp, rfl⟩ := hval i v pv
    have kp' := old hm kp
    have mem : ∀ q ∈ L, q ∈ ks := fun q z => List.mem_of_mem_take (g.sub q z)
    have T' : SetTR P w s'.heap S L es ep t := T.keep (fun o e => hm.heap S o sw e) fun q hq => isT_keep (hk q (mem q hq)) kp'
    have it : IsT P w s'.heap p.2 p.1 := isT_keep (hk p (List.mem_of_getElem? hp)) kp'
    show wpAny _ A.in1 (holding [Value.ref p.1] (setAdd S (.ref p.1)) >>= _) _ _ s'
    unfold setAdd
    refine wpAny_bind (wpAny_holding (wpAny_holding (wpAny_bind (wpAny_pyHash_tuple hu it ?_))))
    refine add_at (s := { s' with toks := s'.toks + (p.2.length + 1) }) T' it hu (few L T.nd mem) fun b h' L' es' ep' t' hsb T2 c1 c2 => ?_
    have g' : Got ks (i + 1) L' := by
      by_cases c : p.2 ∈ L.map (·.2)
      · rw [c1 c]
        exact g.same hp c
      · exact g.more hp (c2 c)
    have ne : ∀ b o, h0.get? b = some o → b ≠ S := fun b o e z => nomatch (show none = some o from by rw [← hS0, ← z]; exact e)
    refine wpAny_pure ⟨plainId_quiet F.plain_set_update_loop _, ih (i + 1) _ (by omega) (W.frame _ s' _ _ st' (Nat.le_add_right _ _) fun b hb o e => ?_) (fun b o e => (hsb.2 b (ne b o e)).trans (kp' b o e)) ⟨L', es', ep', t', T2, g'⟩ fun s2 hm2 r2 => hR s2 (Moved.trans W.gtrans ((hm.mono up).then_heap (Nat.le_add_right _ _) fun b o hb e => ?_) hm2) r2⟩
    · exact (hsb.2 b fun z : b = S => hSf (z ▸ hb)).trans e
    · exact (hsb.2 b fun z : b = S => hb (z ▸ List.mem_cons_self)).trans e
/-- tuples of ints -/
theorem upd_tups {l : Addr} {items : Array Value} (ks : List (Addr × List Int)) (hit : items.toList = ks.map fun p => Value.ref p.1) (hk : ∀ p ∈ ks, IsT P w s.heap p.2 p.1) (few : ∀ L : List (Addr × List Int), (L.map (·.2)).Nodup → (∀ p ∈ L, p ∈ ks) → L.length + 1 < 64) :
    UpdL P w s l items fun h => ∃ L es ep t, SetTR P w h s.heap.objs.size L es ep t ∧ Got ks ks.length L := by
  refine ⟨fun {A' St R s1} W hSf hu h0 hS hkp hR => ?_⟩
  have hisz : items.size = ks.length := by
    have q := congrArg List.length hit
    rwa [Array.length_toList, List.length_map] at q
  have none_of : ∀ b, s.heap.objs.size ≤ b → s.heap.get? b = none := fun b hb => by
    cases q : s.heap.get? b with
    | none => rfl
    | some o => exact absurd (Nat.lt_of_lt_of_le (Heap.lt_size q) hb) (Nat.lt_irrefl _)
  refine loop_tups W hSf hisz few (fun i v hv => ?_) hk (none_of _ (Nat.le_refl _)) (fun b hb => none_of b ?_) hu items.size 0 s1 (Nat.zero_add _) h0 hkp ⟨[], #[], 0, _, setTR_fresh hS, Got.zero ks⟩ fun s2 hm r2 => hR s2 hm (by rw [← hisz]; exact r2) (moved_keep (fun b o e => old_ne e) hkp hm)
  · have q : items.toList[i]? = some v := by rw [Array.getElem?_toList]; exact hv
    rw [hit, List.getElem?_map] at q
    obtain ⟨p, e1, e2⟩ := Option.map_eq_some_iff.mp q
    exact ⟨p, e1, e2.symm⟩
  · rw [List.mem_singleton.mp hb, Heap.size_push]
    exact Nat.le_succ _
end
end Orp

/-! Orp, part 13b: set(x), sorted(set(x)), len(set(x)) by values. -/
namespace Orp
open PySem PySem.Spec PyProof.Rows L2
def tupOf (k : List Int) : D := .tuple (k.map .int)
theorem intsOf_map : ∀ (is : List Int), intsOf (is.map .int) = some is
  | [] => rfl
  | i :: is => by
    show (some i).bind (fun i => (intsOf (is.map .int)).map fun is => i :: is) = _
    rw [intsOf_map is]
    rfl
theorem reps_ints {K : Fg} {Hf : Hp} {vs : List V} {is : List Int} (r : RepAll K Hf vs (is.map .int)) : vs = is.map V.int := dpa_ints r (intsOf_map is)
theorem reps_tups {K : Fg} {Hf : Hp} : ∀ {kk : List (List Int)} {xs : List V}, RepAll K Hf xs (kk.map tupOf) → ∃ ks : List (Addr × List Int), ks.map (·.2) = kk ∧ xs = ks.map (fun p => V.ref p.1) ∧ ∀ p ∈ ks, TupK K Hf p.1 (p.2.map V.int)
  | [], _, .nil => ⟨[], rfl, rfl, fun _ h => by cases h⟩
  | k :: kk, _, .cons h r => by
    obtain ⟨ks, h1, h2, h3⟩ := reps_tups r
    cases h with
    | @tup a ys _ t q =>
      have e := reps_ints q
      subst e
      refine ⟨(a, k) :: ks, by rw [List.map_cons, h1], by rw [List.map_cons, h2], fun p hp => ?_⟩
      rcases List.mem_cons.mp hp with rfl | hp
      · exact t
      · exact h3 p hp
theorem tups_reps {K : Fg} {Hf : Hp} : ∀ {ks : List (Addr × List Int)}, (∀ p ∈ ks, TupK K Hf p.1 (p.2.map V.int)) → RepAll K Hf (ks.map fun p => V.ref p.1) (ks.map fun p => tupOf p.2)
  | [], _ => .nil
  | p :: ks, h => .cons (.tup (h p List.mem_cons_self) (ints_dpa p.2)) (tups_reps fun q hq => h q (List.mem_cons_of_mem _ hq))
section
variable {X : Cx}
/-- set(x), tuples of ints -/
def rSetT (K : Fg) (P : Program) (w : World) : List V → Hp → VK → Prop := fun xs H Q => ∃ (Hf : Hp) (x : V) (d : D) (kk : List (List Int)), xs = [x] ∧ Same Hf H ∧ RV K H Hf x d ∧ seqOf d = some (kk.map tupOf) ∧ (∀ L : List (List Int), L.Nodup → (∀ k ∈ L, k ∈ kk) → L.length < 63) ∧
  ∀ (S : Addr) (L : List (Addr × List Int)), H S = none → (∀ p ∈ L, TupK K Hf p.1 (p.2.map V.int)) → (∀ k, k ∈ L.map (·.2) ↔ k ∈ kk) → (L.map (·.2)).Nodup → Q (.ref S) (upd H S (SetTO P w S L))
theorem seq_items {pins : List (Addr × Obj)} {s : Shared} {σ : L2.St} {H : Hp} {a : Addr} {xs : List V} (I : Inv X pins σ H s) (h : (SqL X.K H a xs ∧ s.TypeIs (.ref a) "list") ∨ (SqT X.K H a xs ∧ s.TypeIs (.ref a) "tuple")) : ∃ its : List Value, Vals xs its ∧ (s.heap.IsList a its.toArray ∨ s.heap.IsTuple a its.toArray) := by
  rcases h with ⟨h, _⟩ | ⟨h, _⟩
  · obtain ⟨its, rv, pl, _⟩ := I.list h
    exact ⟨its, rv, .inl pl.isList⟩
  · obtain ⟨its, rv, pl, _⟩ := I.tuple h
    exact ⟨its, rv, .inr pl⟩
theorem c_setT (hc : X.calm = true) (hu : X.A.units + 200 < cLine) : CallR X (.type "set") (rSetT X.K X.prog X.w) := by
  intro pins s σ H xs us Q I r ⟨Hf, x, d, kk, hx, sm, rd, e, few, q⟩
  subst hx
  cases r with
  | cons r0 r1 =>
    cases r1
    obtain ⟨a, ys, rfl, rfl, ra, hq, _⟩ := seq_is I sm r0 rd e
    obtain ⟨ks, e1, rfl, hk⟩ := reps_tups ra
    obtain ⟨its, rv, hl⟩ := seq_items I hq
    have hS : H s.heap.objs.size = none := I.hok.fresh (Nat.le_refl _)
    refine set_from (P := X.prog) (w := X.w) (I.ok.hd hc) (by omega) hl (upd_tups ks (by simpa using refs_of_vals rv) (fun p hp => I.isT ((hk p hp).mono sm).sqt) fun L n m => ?_) fun h' tk ⟨L, es, ep, t, R, g⟩ k => ?_
    · have := few (L.map (·.2)) n fun z hz => by
        obtain ⟨p, hp, rfl⟩ := List.mem_map.mp hz
        rw [← e1]
        exact List.mem_map.mpr ⟨p, m p hp, rfl⟩
      rw [List.length_map] at this
      omega
    · refine ⟨.ref s.heap.objs.size, upd H s.heap.objs.size (SetTO X.prog X.w s.heap.objs.size L), I.laid (t' := tk) k (Nat.le_refl _) (setTO_new R.t0), rfl, q _ L hS (fun p hp => hk p (List.mem_of_mem_take (g.sub p hp))) (fun z => ?_) R.nd⟩
      constructor
      · intro hz
        obtain ⟨p, hp, rfl⟩ := List.mem_map.mp hz
        rw [← e1]
        exact List.mem_map.mpr ⟨p, List.mem_of_mem_take (g.sub p hp), rfl⟩
      · intro hz
        rw [← e1] at hz
        obtain ⟨p, hp, rfl⟩ := List.mem_map.mp hz
        exact g.all p (by rw [List.take_length]; exact hp)
/-- .. of ints -/
def rSetI (K : Fg) (w : World) : List V → Hp → VK → Prop := fun xs H Q => ∃ (Hf : Hp) (x : V) (d : D) (ns : List Int), xs = [x] ∧ Same Hf H ∧ RV K H Hf x d ∧ seqOf d = some (ns.map .int) ∧ ns.length < 4000 ∧
  ∀ (S : Addr) (c : Nat), H S = none → Q (.ref S) (upd H S (SetO w S (fun j => decide (j ∈ ns)) c))
theorem c_setI (hc : X.calm = true) (hu : X.A.units + 200 < cLine) : CallR X (.type "set") (rSetI X.K X.w) := by
  intro pins s σ H xs us Q I r ⟨Hf, x, d, ns, hx, sm, rd, e, few, q⟩
  subst hx
  cases r with
  | cons r0 r1 =>
    cases r1
    obtain ⟨a, ys, rfl, rfl, ra, hq, _⟩ := seq_is I sm r0 rd e
    have e1 := reps_ints ra
    subst e1
    obtain ⟨its, rv, hl⟩ := seq_items I hq
    refine set_from (P := X.prog) (w := X.w) (I.ok.hd hc) (by omega) hl (upd_ints ns (by simpa using rv.ints) (by unfold scanBound; omega)) fun h' tk ⟨c, _, R⟩ k => ?_
    exact ⟨.ref s.heap.objs.size, _, I.laid (t' := tk) k (Nat.le_refl _) (setO_new R), rfl, q _ c (I.hok.fresh (Nat.le_refl _))⟩
/-- sorted(set), tuples -/
def rSortT (K : Fg) (P : Program) (w : World) : List V → Hp → VK → Prop := fun vs H Q => ∃ (Hf : Hp) (S : Addr) (L : List (Addr × List Int)), vs = [.ref S] ∧ Same Hf H ∧ H S = some (SetTO P w S L) ∧ (∀ p ∈ L, TupK K Hf p.1 (p.2.map V.int)) ∧ alkL (L.map fun p => tupOf p.2) = true ∧
  ∀ u H' Hf', Ext H Hf H' Hf' → RR K H H' Hf' .fr u (.list (sortD (L.map fun p => tupOf p.2))) → Q u H'
theorem IsStep {s s' : Shared} (g : s'.gens = s.gens) (o : s'.os = s.os) : s' = { s with heap := s'.heap, gens := s.gens, drawn := s'.drawn, toks := s'.toks } := by
  cases s'
  cases s
  cases g
  cases o
  rfl
/-- the heap kept, all else but drawings as it was -/
theorem inv_kept {pins : List (Addr × Obj)} {σ : L2.St} {H : Hp} {s s' : Shared} (I : Inv X pins σ H s) (k : ∀ b o, s.heap.get? b = some o → s'.heap.get? b = some o) (g : s'.gens = s.gens) (o : s'.os = s.os) : Inv X pins σ H s' :=
  I.call' (ch := []) o (Un.kept k) (I.hok.kept k) (by rw [g]; exact I.bare) fun _ z => nomatch z
theorem perm_map_inv {α β : Type} {f : α → β} : ∀ {out : List β} {l : List α}, out.Perm (l.map f) → ∃ m : List α, out = m.map f ∧ m.Perm l := by
  intro out l p
  induction hl : l.map f generalizing l out with
  | nil =>
    rw [hl] at p
    obtain rfl := p.eq_nil
    cases l with
    | nil => exact ⟨[], rfl, .nil⟩
    | cons a l => cases hl
  | cons b bs ih =>
    cases l with
    | nil => cases hl
    | cons a l =>
      rw [List.map_cons] at hl p
      have hm : f a ∈ out := p.mem_iff.mpr List.mem_cons_self
      obtain ⟨o1, o2, rfl⟩ := List.append_of_mem hm
      have p2 : (o1 ++ o2).Perm (l.map f) := by
        have := (List.perm_middle (a := f a) (l₁ := o1) (l₂ := o2)).symm.trans p
        exact this.cons_inv
      obtain ⟨m, e, pm⟩ := ih p2 (List.cons.inj hl).2
      refine ⟨m.take o1.length ++ a :: m.drop o1.length, ?_, ?_⟩
      · rw [List.map_append, List.map_cons, List.map_take, List.map_drop, ← e, List.take_left, List.drop_left]
      · exact (List.perm_middle.trans ((List.take_append_drop _ _).symm ▸ .refl _)).trans (pm.cons a)
theorem c_sortT (hc : X.calm = true) (hu : X.A.units + 200 < cLine) : CallR X (.builtin "sorted") (rSortT X.K X.prog X.w) := by
  intro pins s σ H vs us Q I r ⟨Hf, S, L, hv, sm, hS, hk, hal, q⟩
  subst hv
  rw [Vals.ref1 r]
  have R0 : SetT0 X.prog X.w s.heap S L := (I.hok S _ hS).1
  obtain ⟨es, ep, t, R⟩ := R0.full fun p hp => I.isT ((hk p hp).mono sm).sqt
  obtain ⟨o, ho, hex, hd⟩ := R.ob
  have hsz := R.size
  have hfew := R.few
  refine Calls.call_function_entry PyProof.Rows.kind_sorted PyProof.Rows.plain_sorted PyProof.Rows.entry_sorted (PyProof.Rows.args_sorted1 _) ?_
  unfold Builtin.«sorted»
  refine wpAny_bind (m := checkCount "sorted" 1 1 _) (wpAny_pure ?_)
  refine wpAny_bind (collect_set (A := X.A.in1) (I.ok.hd hc) ⟨o, ho, hex.1, hd⟩ R.fits (by unfold scanBound; omega) R.tab.ris R.led fun s1 out k1 _ g1 o1 pm => ?_)
  have hes : es.toList.map (·.2) = L.map fun q => Value.ref q.1 := by
    rw [R.rows]
    unfold rowsOf
    rw [List.map_map]
    rfl
  rw [hes] at pm
  obtain ⟨M, rfl, pM⟩ := perm_map_inv pm
  have hal2 : alkL (M.map fun p => tupOf p.2) = true := by
    unfold alkL at hal ⊢
    have pp := (pM.map fun p => tupOf p.2)
    simp only [List.all_eq_true, Bool.and_eq_true] at hal ⊢
    exact fun x hx => ⟨(hal x (pp.mem_iff.mp hx)).1, fun y hy => (hal x (pp.mem_iff.mp hx)).2 y (pp.mem_iff.mp hy)⟩
  refine sort_vals_I hu (inv_kept I k1 g1 o1) sm (vals_of_refs M) (tups_reps fun p hp => hk p (pM.mem_iff.mp hp)) hal2 (by rw [List.length_map, pM.length_eq, sizeLine_eq]; omega) ?_
  rw [sortD_uniq (alkL_at hal).2 ((sortD_perm _).trans (pM.map _)) (sortD_srt (alkL_at hal2).2)]
  exact q
/-- len(set), tuples -/
def rLenT (K : Fg) (P : Program) (w : World) : List V → Hp → VK → Prop := fun vs H Q => ∃ (Hf : Hp) (S : Addr) (L : List (Addr × List Int)), vs = [.ref S] ∧ Same Hf H ∧ H S = some (SetTO P w S L) ∧ (∀ p ∈ L, TupK K Hf p.1 (p.2.map V.int)) ∧ Q (.int L.length) H
theorem c_lenT : CallR X (.builtin "len") (rLenT X.K X.prog X.w) := by
  intro pins s σ H vs us Q I r ⟨Hf, S, L, hv, sm, hS, hk, q⟩
  subst hv
  rw [Vals.ref1 r]
  have R0 : SetT0 X.prog X.w s.heap S L := (I.hok S _ hS).1
  obtain ⟨es, ep, t, R⟩ := R0.full fun p hp => I.isT ((hk p hp).mono sm).sqt
  obtain ⟨o, ho, hex, hd⟩ := R.ob
  have hsz := R.size
  have hfew := R.few
  exact call_len_set ho hex hd R.fits (by omega) ⟨.int L.length, H, I.tok _, ⟨_, by rw [hsz]⟩, q⟩
end
end Orp

/-! Orp, part 13c: sorted(set(x)), len(set(x)). -/
namespace Orp
open PySem PySem.Spec PyProof.Rows L2
/-! ### data without repeats -/
theorem alkAll_ints : ∀ (a b : List Int), alkAll (a.map .int) (b.map .int) = true
  | [], _ => by simp [alkAll]
  | _ :: _, [] => by simp [alkAll]
  | x :: a, y :: b => by
    rw [List.map_cons, List.map_cons, alkAll, alkAll_ints a b]
    rfl
theorem alk_tups (a b : List Int) : alk (tupOf a) (tupOf b) = true := by
  unfold tupOf
  rw [alk]
  exact alkAll_ints a b
theorem eqvAll_il : ∀ (a b : List Int), PyData.eqvAll (a.map .int) (b.map .int) = decide (a = b)
  | [], [] => by simp [PyData.eqvAll]
  | [], y :: b => by simp [PyData.eqvAll]
  | x :: a, [] => by simp [PyData.eqvAll]
  | x :: a, y :: b => by
    rw [List.map_cons, List.map_cons, PyData.eqvAll, eqvAll_il a b]
    have : PyData.eqv (.int x) (.int y) = decide (x = y) := by
      show (x == y) = _
      rw [Bool.eq_iff_iff]
      simp
    rw [this, ← Bool.decide_and, Bool.eq_iff_iff]
    simp
theorem eqv_tups (a b : List Int) : PyData.eqv (tupOf a) (tupOf b) = decide (a = b) := by
  unfold tupOf
  rw [PyData.eqv]
  exact eqvAll_il a b
theorem eqv_ints (a b : Int) : PyData.eqv (.int a) (.int b) = decide (a = b) := by
  show (a == b) = _
  rw [Bool.eq_iff_iff]
  simp
/-- the last of each -/
def lasts {α : Type} [DecidableEq α] : List α → List α
  | [] => []
  | x :: r => if x ∈ r then lasts r else x :: lasts r
theorem mem_lasts {α : Type} [DecidableEq α] : ∀ {l : List α} {x : α}, x ∈ lasts l ↔ x ∈ l
  | [], _ => .rfl
  | y :: r, x => by
    rw [lasts]
    split
    · rename_i h
      rw [mem_lasts, List.mem_cons]
      exact ⟨.inr, fun q => q.elim (fun e => e ▸ h) id⟩
    · rw [List.mem_cons, mem_lasts, List.mem_cons]
theorem lasts_nodup {α : Type} [DecidableEq α] : ∀ {l : List α}, (lasts l).Nodup
  | [] => .nil
  | y :: r => by
    rw [lasts]
    split
    · exact lasts_nodup
    · rename_i h
      exact List.nodup_cons.mpr ⟨fun z => h (mem_lasts.mp z), lasts_nodup⟩
theorem dedup_map {α : Type} [DecidableEq α] {f : α → D} (hf : ∀ a b, PyData.eqv (f a) (f b) = decide (a = b)) : ∀ l : List α, dedup (l.map f) = (lasts l).map f
  | [] => rfl
  | x :: r => by
    rw [List.map_cons, dedup, lasts, dedup_map hf r]
    have : ((r.map f).any fun y => PyData.eqv y (f x)) = decide (x ∈ r) := by
      rw [Bool.eq_iff_iff, List.any_eq_true, decide_eq_true_eq]
      constructor
      · rintro ⟨_, hm, e⟩
        obtain ⟨y, hy, rfl⟩ := List.mem_map.mp hm
        rw [hf, decide_eq_true_eq] at e
        exact e ▸ hy
      · intro h
        exact ⟨f x, List.mem_map.mpr ⟨x, h, rfl⟩, by rw [hf]; exact decide_eq_true rfl⟩
    rw [this]
    by_cases h : x ∈ r
    · simp [h]
    · simp [h]
/-- lists without repeats and of the same members -/
theorem perm_of_mem {α : Type} {l m : List α} (hl : l.Nodup) (hm : m.Nodup) (h : ∀ x, x ∈ l ↔ x ∈ m) : l.Perm m := (List.perm_ext_iff_of_nodup hl hm).mpr h
theorem all_ints {ds : List D} (h : ds.all isIntK = true) : ∃ ns : List Int, ds = ns.map .int := by
  induction ds with
  | nil => exact ⟨[], rfl⟩
  | cons d ds ih =>
    rw [List.all_cons, Bool.and_eq_true] at h
    obtain ⟨ns, rfl⟩ := ih h.2
    cases d <;> simp only [isIntK, Bool.false_eq_true, false_and] at h
    rename_i i
    exact ⟨i :: ns, rfl⟩
theorem all_tups {ds : List D} (h : ds.all isTupK = true) : ∃ kk : List (List Int), ds = kk.map tupOf := by
  induction ds with
  | nil => exact ⟨[], rfl⟩
  | cons d ds ih =>
    rw [List.all_cons, Bool.and_eq_true] at h
    obtain ⟨kk, rfl⟩ := ih h.2
    cases d <;> simp only [isTupK, Bool.false_eq_true, false_and] at h
    rename_i xs
    obtain ⟨ns, rfl⟩ := all_ints h.1
    exact ⟨ns :: kk, rfl⟩
theorem alk_perm {l m : List D} (p : l.Perm m) (h : alkL m = true) : alkL l = true := by
  unfold alkL at h ⊢
  simp only [List.all_eq_true, Bool.and_eq_true] at h ⊢
  exact fun x hx => ⟨(h x (p.mem_iff.mp hx)).1, fun y hy => (h x (p.mem_iff.mp hx)).2 y (p.mem_iff.mp hy)⟩
theorem alk_sub {l m : List D} (p : ∀ x ∈ l, x ∈ m) (h : alkL m = true) : alkL l = true := by
  unfold alkL at h ⊢
  simp only [List.all_eq_true, Bool.and_eq_true] at h ⊢
  exact fun x hx => ⟨(h x (p x hx)).1, fun y hy => (h x (p x hx)).2 y (p y hy)⟩
theorem sortD_perm2 {l m : List D} (p : l.Perm m) (h : alkL m = true) : sortD l = sortD m :=
  sortD_uniq (alkL_at h).2 ((sortD_perm _).trans p) (sortD_srt (alkL_at (alk_perm p h)).2)
/-- a new object leaves the others -/
theorem _root_.L2.Same.new {H : Hp} {p : Addr} {o : HO} (np : H p = none) : Same H (upd H p o) := fun b u e => by
  rw [upd_ne fun z => nomatch (show none = some u from by rw [← np, ← z]; exact e)]
  exact e
section
variable {X : Cx}
/-- sorted(set), ints -/
def rSortI (K : Fg) (w : World) : List V → Hp → VK → Prop := fun vs H Q => ∃ (Hf : Hp) (S : Addr) (c : Nat) (ns : List Int), vs = [.ref S] ∧ Same Hf H ∧ H S = some (SetO w S (fun j => decide (j ∈ ns)) c) ∧ alkL (ns.map .int) = true ∧
  ∀ u H' Hf', Ext H Hf H' Hf' → RR K H H' Hf' .fr u (.list (sortD ((lasts ns).map .int))) → Q u H'
theorem keys_of {es : List (Int × Value)} (g : ∀ e ∈ es, GoodE e) : IntsAre (es.map (·.2)) (es.map keyOf) := by
  have := L2.ints_of (es.map (·.2)) fun v hv => by
    obtain ⟨e, he, rfl⟩ := List.mem_map.mp hv
    obtain ⟨k, tk, h1, _⟩ := g e he
    exact ⟨k, tk, h1⟩
  rw [List.map_map] at this
  exact this
theorem c_sortI (hc : X.calm = true) (hu : X.A.units + 200 < cLine) : CallR X (.builtin "sorted") (rSortI X.K X.w) := by
  intro pins s σ H vs us Q I r ⟨Hf, S, c, ns, hv, sm, hS, hal, q⟩
  subst hv
  rw [Vals.ref1 r]
  obtain ⟨o, es, ep, t, ho, hex, hd, g, nd, hm, hb, hf, hn, hr, hl⟩ := setO_get I hS
  refine Calls.call_function_entry PyProof.Rows.kind_sorted PyProof.Rows.plain_sorted PyProof.Rows.entry_sorted (PyProof.Rows.args_sorted1 _) ?_
  unfold Builtin.«sorted»
  refine wpAny_bind (m := checkCount "sorted" 1 1 _) (wpAny_pure ?_)
  refine wpAny_bind (collect_set (A := X.A.in1) (I.ok.hd hc) ⟨o, ho, hex.1, hd⟩ hf hb hr hl fun s1 out k1 _ g1 o1 pm => ?_)
  obtain ⟨M, rfl, pM⟩ := perm_map_inv pm
  have pk : (M.map keyOf).Perm (es.toList.map keyOf) := pM.map keyOf
  have pl : (M.map keyOf).Perm (lasts ns) := perm_of_mem (pk.nodup_iff.mpr nd) lasts_nodup fun k => by
    rw [pk.mem_iff, mem_lasts, ← hm k, decide_eq_true_eq]
  have hal3 : alkL ((lasts ns).map .int) = true := alk_sub (fun x hx => by
    obtain ⟨k, hk, rfl⟩ := List.mem_map.mp hx
    exact List.mem_map.mpr ⟨k, mem_lasts.mp hk, rfl⟩) hal
  have pd : ((M.map keyOf).map PyData.int).Perm ((lasts ns).map .int) := pl.map _
  refine sort_vals_I hu (inv_kept I k1 g1 o1) sm (vals_of_ints (keys_of fun e he => g e (pM.mem_iff.mp he))) (ints_dpa _) (alk_perm pd hal3) (by rw [List.length_map, List.length_map, pM.length_eq, Array.length_toList, sizeLine_eq]; unfold scanBound at hb; omega) ?_
  rw [sortD_perm2 pd hal3]
  exact q
/-- len(set), ints -/
def rLenI (w : World) : List V → Hp → VK → Prop := fun vs H Q => ∃ (S : Addr) (c : Nat) (ns : List Int), vs = [.ref S] ∧ H S = some (SetO w S (fun j => decide (j ∈ ns)) c) ∧ Q (.int (lasts ns).length) H
theorem c_lenI : CallR X (.builtin "len") (rLenI X.w) := by
  intro pins s σ H vs us Q I r ⟨S, c, ns, hv, hS, q⟩
  subst hv
  rw [Vals.ref1 r]
  obtain ⟨o, es, ep, t, ho, hex, hd, g, nd, hm, hb, hf, hn, hr, hl⟩ := setO_get I hS
  have pl : (es.toList.map keyOf).Perm (lasts ns) := perm_of_mem nd lasts_nodup fun k => by
    rw [mem_lasts, ← hm k, decide_eq_true_eq]
  have hsz : es.size = (lasts ns).length := by
    rw [← pl.length_eq, List.length_map, Array.length_toList]
  exact call_len_set ho hex hd hf (by unfold scanBound at hb; omega) ⟨.int (lasts ns).length, H, I.tok _, ⟨_, by rw [hsz]⟩, q⟩
end
end Orp

/-! Orp, part 13d: sorted(set(x)), len(set(x)) as expressions. -/
namespace Orp
open PySem PySem.Spec PyProof.Rows L2
section
variable {X : Cx} {Φ : Fn0} {st : List Stat} {a : Expr} {p : Ep} {κ : Kd} {p1 p2 p3 pos : Pos}
abbrev rSet (K : Fg) (P : Program) (w : World) : List V → Hp → VK → Prop := fun xs H Q => rSetT K P w xs H Q ∨ rSetI K w xs H Q
theorem c_set (hc : X.calm = true) (hu : X.A.units + 200 < cLine) : CallR X (.type "set") (rSet X.K X.prog X.w) := (c_setT hc hu).or (c_setI hc hu)
abbrev tSet (X : Cx) (t : TE) : TE := tCB (rSet X.K X.prog X.w) (tCons t tNil)
theorem pe_set (hc : X.calm = true) (hu : X.A.units + 200 < cLine) (hg : Gl X "set") (hm : X.mg "set" = none) (hp : isPlain a = true) (ha : PE X a (tP X.K Φ st κ p)) : PE X (.Call (.Name "set" p1) [a] [] p2) (tSet X (tP X.K Φ st κ p)) :=
  pe_callTy (c_set hc hu) hg hm (by decide +kernel) (pa_cons ha pa_nil (star_plain hp)) (by decide) (by decide) (star_plain hp) rfl
theorem len_sub {α : Type} [DecidableEq α] : ∀ {L M : List α}, L.Nodup → (∀ x ∈ L, x ∈ M) → L.length ≤ M.length
  | [], _, _, _ => Nat.zero_le _
  | x :: L, M, n, m => by
    have hx := m x List.mem_cons_self
    have := len_sub (M := M.erase x) (List.nodup_cons.mp n).2 fun y hy => (List.mem_erase_of_ne fun (e : y = x) => (List.nodup_cons.mp n).1 (e ▸ hy)).mpr (m y (List.mem_cons_of_mem _ hy))
    rw [List.length_erase_of_mem hx] at this
    have := List.length_pos_of_mem hx
    rw [List.length_cons]
    omega
theorem few_of {kk : List (List Int)} (h : (dedup (kk.map tupOf)).length < 63) : ∀ L : List (List Int), L.Nodup → (∀ k ∈ L, k ∈ kk) → L.length < 63 := by
  intro L n m
  rw [dedup_map eqv_tups, List.length_map] at h
  exact Nat.lt_of_le_of_lt (len_sub n fun k hk => mem_lasts.mpr (m k hk)) h
theorem tups_list {L : List (Addr × List Int)} {kk : List (List Int)} (m : ∀ k, k ∈ L.map (·.2) ↔ k ∈ kk) (n : (L.map (·.2)).Nodup) : (L.map fun p => tupOf p.2).Perm (dedup (kk.map tupOf)) := by
  rw [dedup_map eqv_tups]
  have e : (L.map fun p => tupOf p.2) = (L.map (·.2)).map tupOf := by rw [List.map_map]; rfl
  rw [e]
  exact (perm_of_mem n lasts_nodup fun k => by rw [m k, mem_lasts]).map _
theorem sub_dedup {kk : List (List Int)} : ∀ x ∈ dedup (kk.map tupOf), x ∈ kk.map tupOf := by
  rw [dedup_map eqv_tups]
  intro x hx
  obtain ⟨k, hk, rfl⟩ := List.mem_map.mp hx
  exact List.mem_map.mpr ⟨k, mem_lasts.mp hk, rfl⟩
/-- behind set(x) -/
theorem set_sound {o : O1} {K : Fg} {P : Program} {w : World} {σ : L2.St} {H : Hp} {Q : VK} {R : List V → Hp → VK → Prop} (S0 : ∃ Hf Lk ρ x ds, SOk K σ H Hf Lk st ρ ∧ evX Φ p ρ = some x ∧ seqOf x = some ds ∧ ((ds.all isTupK = true ∧ (dedup ds).length < 63) ∨ (ds.all isIntK = true ∧ ds.length < 4000)) ∧
      (∀ kk : List (List Int), ds = kk.map tupOf → ∀ (H1 Hf1 H2 : Hp) (S : Addr) (L : List (Addr × List Int)), Ext H Hf H1 Hf1 → H1 S = none → H2 = upd H1 S (SetTO P w S L) → Same Hf1 H2 → (∀ p ∈ L, TupK K Hf1 p.1 (p.2.map V.int)) → (L.map fun p => tupOf p.2).Perm (dedup ds) → R [.ref S] H2 Q) ∧
      (∀ ns : List Int, ds = ns.map .int → ∀ (H1 Hf1 H2 : Hp) (S : Addr) (c : Nat), Ext H Hf H1 Hf1 → H1 S = none → H2 = upd H1 S (SetO w S (fun j => decide (j ∈ ns)) c) → Same Hf1 H2 → R [.ref S] H2 Q)) :
    tCB R (tCons (tCB (rSet K P w) (tCons (tP K Φ st κ p) tNil)) tNil) σ H Q := by
  obtain ⟨Hf, Lk, ρ, x, ds, S, e1, e2, e3, kT, kI⟩ := S0
  refine use1 S e1 fun v H1 Hf1 x1 r1 => ?_
  rcases e3 with ⟨h1, h2⟩ | ⟨h1, h2⟩
  · obtain ⟨kk, rfl⟩ := all_tups h1
    refine .inl ⟨Hf1, v, x, kk, rfl, x1.sub, r1.rv, e2, few_of h2, fun Sa L hn hk m n => ?_⟩
    exact kT kk rfl H1 Hf1 _ Sa L x1 hn rfl (x1.sub.trans (Same.new hn)) hk (tups_list m n)
  · obtain ⟨ns, rfl⟩ := all_ints h1
    rw [List.length_map] at h2
    refine .inr ⟨Hf1, v, x, ns, rfl, x1.sub, r1.rv, e2, h2, fun Sa c hn => ?_⟩
    exact kI ns rfl H1 Hf1 _ Sa c x1 hn rfl (x1.sub.trans (Same.new hn))
/-- behind the set: the set itself is nobody's -/
theorem ext_set {H Hf H1 Hf1 H2 Hf2 : Hp} {S : Addr} {o : HO} (x : Ext H Hf H1 Hf1) (hn : H1 S = none) (x2 : Ext (upd H1 S o) Hf1 H2 Hf2) : Ext H Hf H2 Hf2 where
  s := (x.s.trans (Same.new hn)).trans x2.s
  f := x.f.trans x2.f
  sub := x2.sub
  n := fun a h1 h2 => by
    have q := x.n a h1 h2
    refine x2.n a (fun z => h1 ?_) q
    exact ((x.s.trans (Same.new hn)).free z)
theorem pe_sset (hc : X.calm = true) (hu : X.A.units + 200 < cLine) (hg : Gl X "sorted") (hm : X.mg "sorted" = none) (hg2 : Gl X "set") (hm2 : X.mg "set" = none) (hp : isPlain a = true) (ha : PE X a (tP X.K Φ st κ p)) :
    PE X (.Call (.Name "sorted" p3) [.Call (.Name "set" p1) [a] [] p2] [] pos) (tP X.K Φ st .fr (.o1 .sset p)) := by
  refine (pe_callB ((c_sortT hc hu).or (c_sortI hc hu)) hg hm (by decide +kernel) (pa_cons (pe_set hc hu hg2 hm2 hp ha) pa_nil rfl) (by decide) (by decide) rfl rfl).imp fun σ H Q ⟨Hf, Lk, ρ, d, S, ev, k⟩ => ?_
  obtain ⟨x, e1, e2⟩ := ev1 ev
  simp only [o1F] at e2
  obtain ⟨ds, e3, e4⟩ := Option.bind_eq_some_iff.mp e2
  split at e4
  case isFalse => cases e4
  rename_i hh
  cases e4
  obtain ⟨hal, hh⟩ := hh
  refine set_sound (o := .sset) ⟨Hf, Lk, ρ, x, ds, S, e1, e3, hh, fun kk e H1 Hf1 H2 Sa L x1 hn eH sm hk pm => .inl ?_, fun ns e H1 Hf1 H2 Sa c x1 hn eH sm => .inr ?_⟩
  · subst eH; subst e
    have hal2 : alkL (dedup (kk.map tupOf)) = true := alk_sub sub_dedup hal
    refine ⟨Hf1, Sa, L, rfl, sm, upd_same, hk, alk_perm pm hal2, fun u H' Hf' x2 r2 => ?_⟩
    rw [sortD_perm2 pm hal2] at r2
    exact k u H' Hf' (ext_set x1 hn x2) (r2.back (x1.s.trans (Same.new hn)))
  · subst eH; subst e
    refine ⟨Hf1, Sa, c, ns, rfl, sm, upd_same, hal, fun u H' Hf' x2 r2 => ?_⟩
    rw [← dedup_map eqv_ints] at r2
    exact k u H' Hf' (ext_set x1 hn x2) (r2.back (x1.s.trans (Same.new hn)))
theorem pe_lset (hc : X.calm = true) (hu : X.A.units + 200 < cLine) (hg : Gl X "len") (hm : X.mg "len" = none) (hg2 : Gl X "set") (hm2 : X.mg "set" = none) (hp : isPlain a = true) (ha : PE X a (tP X.K Φ st κ p)) :
    PE X (.Call (.Name "len" p3) [.Call (.Name "set" p1) [a] [] p2] [] pos) (tP X.K Φ st .sh (.o1 .lset p)) := by
  refine (pe_callB (c_lenT.or c_lenI) hg hm (by decide +kernel) (pa_cons (pe_set hc hu hg2 hm2 hp ha) pa_nil rfl) (by decide) (by decide) rfl rfl).imp fun σ H Q ⟨Hf, Lk, ρ, d, S, ev, k⟩ => ?_
  obtain ⟨x, e1, e2⟩ := ev1 ev
  simp only [o1F] at e2
  obtain ⟨ds, e3, e4⟩ := Option.bind_eq_some_iff.mp e2
  split at e4
  case isFalse => cases e4
  rename_i hh
  cases e4
  refine set_sound (o := .lset) ⟨Hf, Lk, ρ, x, ds, S, e1, e3, hh, fun kk e H1 Hf1 H2 Sa L x1 hn eH sm hk pm => .inl ?_, fun ns e H1 Hf1 H2 Sa c x1 hn eH sm => .inr ?_⟩
  · subst eH
    refine ⟨Hf1, Sa, L, rfl, sm, upd_same, hk, ?_⟩
    have := pm.length_eq
    rw [List.length_map] at this
    rw [this]
    exact k _ _ Hf1 (ext_set x1 hn (Ext.refl sm)) (show Rep X.K Hf1 (.int _) (.int _) from .int _)
  · subst eH; subst e
    refine ⟨Sa, c, ns, rfl, upd_same, ?_⟩
    rw [dedup_map eqv_ints, List.length_map] at k
    exact k _ _ Hf1 (ext_set x1 hn (Ext.refl sm)) (show Rep X.K Hf1 (.int _) (.int _) from .int _)
end
end Orp

/-! Orp, part 14: displays of dicts. -/
namespace Orp
open PySem PySem.Spec PyProof.Rows L2
def dkd (tk : Bool) : Kd := if tk = true then .dT else .dI
theorem rr_d {K : Fg} {H H' Hf' : Hp} {tk : Bool} {a : Addr} {es : Array DictEntry} {ep : Nat} {kvs : List (D × D)} (h0 : H a = none) (h1 : H' a = some (DO a es ep)) (h2 : Hf' a = none) (h3 : DcR K Hf' tk es kvs) : RR K H H' Hf' (dkd tk) (.ref a) (mkD tk kvs) := by
  cases tk with
  | false => exact ⟨a, es, ep, kvs, rfl, rfl, h0, h1, h2, h3⟩
  | true => exact ⟨a, es, ep, kvs, rfl, rfl, h0, h1, h2, h3⟩
theorem do_empty {P : Program} {w : World} {H : Hp} (h : Heap) (hb : sysModules < h.objs.size) : ObjOk P w H (h.push { cls := .type "dict", data := .dict #[] }) h.objs.size (DO h.objs.size #[] 0) :=
  ⟨⟨beq_eq_false_iff_ne.mpr (Ne.symm (Nat.ne_of_lt hb)), _, Heap.get?_push_size _ rfl, ⟨rfl, rfl, rfl⟩, rfl⟩, ⟨_, Heap.get?_push_size _ rfl⟩, fun h1 h2 ⟨p1, o, p2, p3, p4⟩ k => ⟨p1, o, k o p2, p3, p4⟩⟩
theorem dc_empty {K : Fg} {Hf : Hp} {tk : Bool} : DcR K Hf tk #[] [] := ⟨.nil, .nil, Nat.zero_le _⟩
section
variable {X : Cx} {Φ : Fn0} {st : List Stat} {e a b c : Expr} {p q r : Ep} {κ κa κb κc : Kd} {pos apos : Pos} {tk : Bool}
theorem new_dict {pins : List (Addr × Obj)} {s : Shared} {σ : L2.St} {H : Hp} (I : Inv X pins σ H s) : Inv X pins σ (upd H s.heap.objs.size (DO s.heap.objs.size #[] 0)) { s with heap := s.heap.push { cls := .type "dict", data := .dict #[] } } :=
  I.laid (a := s.heap.objs.size) (o := DO s.heap.objs.size #[] 0) (t' := s.toks) (fun _ _ q => Heap.get?_push_of_some _ q) (Nat.le_refl _) (do_empty s.heap I.big)
theorem pe_d0 : PE X (.Dict [] [] pos) (tP X.K Φ st (dkd tk) (.dnew tk)) := ⟨fun pins s σ H Q I ⟨Hf, Lk, ρ, d, S, ev, k⟩ => by
  rw [evX] at ev
  cases ev
  have hn := I.hok.fresh (Nat.le_refl s.heap.objs.size)
  have x := Ext.lay (o := DO s.heap.objs.size #[] 0) S.sub hn
  have nf : Hf s.heap.objs.size = none := by
    cases z : Hf s.heap.objs.size with
    | none => rfl
    | some u => have := S.sub _ _ z; rw [hn] at this; cases this
  exact wpAny_Dict_empty ⟨.ref s.heap.objs.size, _, new_dict I, rfl, k _ _ Hf x (rr_d hn upd_same nf dc_empty)⟩⟩
theorem sub_none {H Hf : Hp} {a : Addr} (s : Same Hf H) (h : H a = none) : Hf a = none := by
  cases z : Hf a with
  | none => rfl
  | some u => have := s _ _ z; rw [h] at this; cases this
/-- a new object changes -/
theorem Ext.wr {H Hf H2 Hf2 : Hp} {a : Addr} {o : HO} (e : Ext H Hf H2 Hf2) (h : H a = none) (hf : Hf2 a = none) : Ext H Hf (upd H2 a o) Hf2 where
  s := fun b u q => by rw [upd_ne (ne_of_none q h)]; exact e.s _ _ q
  f := e.f
  sub := fun b u q => by rw [upd_ne (ne_of_none q hf)]; exact e.sub _ _ q
  n := e.n
theorem pe_d1 (hu : X.A.units + 200 < cLine) (hk : κb = .sh ∨ κb = .fr) (ha : PE X a (tP X.K Φ st κa p)) (hb : PE X b (tP X.K Φ st κb q)) : PE X (.Dict [some a] [b] pos) (tP X.K Φ st (dkd tk) (.done tk p q)) := by
  refine ⟨fun pins s σ H Q I ⟨Hf, Lk, ρ, d, S, ev, k⟩ => ?_⟩
  rw [evX] at ev
  obtain ⟨x, e1, ev⟩ := Option.bind_eq_some_iff.mp ev
  obtain ⟨y, e2, ev⟩ := Option.bind_eq_some_iff.mp ev
  split at ev
  case isFalse => cases ev
  rename_i ok
  cases ev
  have hn := I.hok.fresh (Nat.le_refl s.heap.objs.size)
  have x0 := Ext.lay (o := DO s.heap.objs.size #[] 0) S.sub hn
  refine wpAny_Dict_any rfl rfl (by simp) (by simp) ?_
  refine pairTrees_cons_walk (run1 ha (new_dict I) (S.mono x0) e1 fun u v s1 H1 Hf1 I1 ru x1 r1 => ?_)
  refine run1 hb I1 ((S.mono x0).mono x1) e2 fun u2 v2 s2 H2 Hf2 I2 ru2 x2 r2 => ?_
  refine pairTrees_nil_walk ?_
  obtain ⟨Hf3, x3, sm3, r3⟩ := RR.freeze hk x2 r2
  have hp : H2 s.heap.objs.size = some (DO s.heap.objs.size #[] 0) := x2.s _ _ (x1.s _ _ upd_same)
  have xx := (x0.trans x1).trans x3
  have nf : Hf3 s.heap.objs.size = none := (x1.trans x3).n _ (by rw [upd_same]; exact fun z => nomatch z) (sub_none S.sub hn)
  unfold storeAll
  rw [List.forIn_cons]
  refine wpAny_bind (wpAny_bind (dd_dset (kvs := []) (by omega) I2 x3.sub hp dc_empty (key_of ((r1.rv.mono x3.s x3.f)) ok) ru ru2 r3 (by decide) fun es' ep' s3 R3 I3 => ?_))
  refine wpAny_pure ?_
  show wpAny _ _ (forIn ([] : List (Value × Value)) PUnit.unit _) _ _ _
  rw [List.forIn_nil]
  refine wpAny_pure ⟨.ref s.heap.objs.size, _, I3, rfl, ?_⟩
  exact k _ _ Hf3 (xx.wr hn nf) (rr_d hn upd_same nf R3)
end
end Orp

/-! Orp, part 15: what is walked. -/
namespace Orp
open PySem PySem.Spec PyProof.Rows L2
/-- what an item is to the target -/
def BindV (K : Fg) (H Hf : Hp) (tup : Bool) (x : V) (d : D) : Prop :=
  if tup = true then ∃ a xs es, x = .ref a ∧ d = .tuple es ∧ SqT K H a xs ∧ RepAll K Hf xs es else Rep K Hf x d
/-- the iterator gives the items ds, wherever the heap still has what it needs -/
def Goes (K : Fg) (Hb Hfb : Hp) (J : It) (tup : Bool) (ds : List D) : Prop :=
  ∀ H Hf, Same Hb H → Same Hfb Hf → Same Hf H → ∀ i, i ≤ ds.length → (i = ds.length → J.stop i H) ∧ ∀ d, ds[i]? = some d → J.go i H ∧ ∀ x H', J.yld i H x H' → ∃ Hf', Ext H Hf H' Hf' ∧ BindV K H' Hf' tup x d
/-- a thing that can be walked, by the sub-heap Hb -/
inductive Wlk (K : Fg) (Hb Hf : Hp) (v : V) (d : D) : Prop where
  | lst (a : Addr) (xs : List V) (ds : List D) (hv : v = .ref a) (hd : d = .list ds) (h : SqL K Hb a xs) (hx : RepAll K Hf xs ds)
  | tup (a : Addr) (xs : List V) (ds : List D) (hv : v = .ref a) (hd : d = .tuple ds) (h : SqT K Hb a xs) (hx : RepAll K Hf xs ds)
  | str (s : Str) (hv : v = .str s) (hd : d = .str s)
  | dct (tk : Bool) (a : Addr) (es : Array DictEntry) (ep : Nat) (kvs : List (D × D)) (hv : v = .ref a) (hd : d = mkD tk kvs) (h : Hb a = some (DO a es ep)) (hx : DcR K Hf tk es kvs)
/-- one object alone -/
def only1 (H : Hp) (a : Addr) : Hp := fun b => if b = a then H b else none
theorem only1_same {H : Hp} {a : Addr} : Same (only1 H a) H := fun b u e => by
  unfold only1 at e
  split at e
  · exact e
  · cases e
theorem only1_at {H : Hp} {a : Addr} : only1 H a a = H a := by unfold only1; rw [if_pos rfl]
theorem sq_only {K : Fg} {H : Hp} {a : Addr} {xs : List V} (h : Rd H a (.lst xs)) : SqL K (only1 H a) a xs := by
  rcases h with h | ⟨o, h⟩
  · exact .inl (.inl (by rw [only1_at]; exact h))
  · exact .inl (.inr ⟨o, by rw [only1_at]; exact h⟩)
theorem walk_sh {K : Fg} {Hf : Hp} {v : V} {d : D} {is : List D} (r : Rep K Hf v d) (e : itemsF d = some is) : Wlk K Hf Hf v d := by
  cases r with
  | non => cases e
  | bl => cases e
  | int => cases e
  | str s => exact .str s rfl rfl
  | lst h1 h2 => exact .lst _ _ _ rfl rfl h1 h2
  | tup h1 h2 => exact .tup _ _ _ rfl rfl h1.sqt h2
/-- kinds that nobody else changes -/
def Kd.still : Kd → Bool
  | .bw => false
  | .bd => false
  | _ => true
/-- a value that was made is walked -/
theorem walk_of {K : Fg} {H Hf H' Hf' : Hp} {κ : Kd} {v : V} {d : D} {is : List D} (x : Ext H Hf H' Hf') (r : RR K H H' Hf' κ v d) (e : itemsF d = some is) :
    ∃ Hf'' Hb, Ext H Hf H' Hf'' ∧ Same Hb H' ∧ (κ.still = true → Hb = Hf'') ∧ Wlk K Hb Hf'' v d := by
  cases κ with
  | mu i s => exact r.elim
  | sh => exact ⟨Hf', Hf', x, x.sub, fun _ => rfl, walk_sh r e⟩
  | fr =>
    obtain ⟨Hf'', x', _, r'⟩ := RR.freeze (.inr rfl) x r
    exact ⟨Hf'', Hf'', x', x'.sub, fun _ => rfl, walk_sh r' e⟩
  | bw =>
    obtain ⟨a, xs, ds, rfl, rfl, h1, h2⟩ := r
    exact ⟨Hf', only1 H' a, x, only1_same, (fun z => absurd z Bool.false_ne_true), .lst a xs ds rfl rfl (sq_only h1) h2⟩
  | bd =>
    obtain ⟨tk, a, es, ep, kvs, rfl, rfl, h1, h2⟩ := r
    exact ⟨Hf', only1 H' a, x, only1_same, (fun z => absurd z Bool.false_ne_true), .dct tk a es ep kvs rfl rfl (by rw [only1_at]; exact h1) h2⟩
  | dI =>
    obtain ⟨a, es, ep, kvs, rfl, rfl, h0, h1, h2, h3⟩ := r
    exact ⟨upd Hf' a (DO a es ep), _, x.add h1 h2 fun z => absurd h0 z, (x.add h1 h2 fun z => absurd h0 z).sub, fun _ => rfl, .dct false a es ep kvs rfl rfl upd_same (h3.mono (same_updf h2))⟩
  | dT =>
    obtain ⟨a, es, ep, kvs, rfl, rfl, h0, h1, h2, h3⟩ := r
    exact ⟨upd Hf' a (DO a es ep), _, x.add h1 h2 fun z => absurd h0 z, (x.add h1 h2 fun z => absurd h0 z).sub, fun _ => rfl, .dct true a es ep kvs rfl rfl upd_same (h3.mono (same_updf h2))⟩
/-! ### the keys of a dict -/
/-- the keys xs of the dict at d -/
def Itk (d : Addr) (es : Array DictEntry) (ep : Nat) (xs : List V) : It :=
  ⟨fun i H => H d = some (DO d es ep) ∧ i < xs.length, fun i H x H' => H' = H ∧ xs[i]? = some x, fun i H => H d = some (DO d es ep) ∧ i = xs.length⟩
theorem turn_keysD {P : Program} {w : World} {K : Fg} {tg : Expr} (d it : Addr) (es : Array DictEntry) (ep : Nat) (xs : List V) (rv : Vals xs (es.toList.map (·.key))) : Turn P w K tg (Itk d es ep xs) [it] it (fun i h => h.IsKeyIter it d i es.size ep) where
  mem := by simp
  obj := fun i h st b hb => by
    have e : b = it := by simpa using hb
    subst e
    obtain ⟨o, e, c, q⟩ := st
    exact ⟨o, e, fun v z => by rw [q] at z; cases z⟩
  keep := fun i h h' st k => st.at fun o e => k it (by simp) o e
  item := by
    intro X hP hw hK hc i pins s σ H E I hf st ⟨hd, hi⟩
    subst hP hw hK
    have hl := rv.length
    rw [List.length_map] at hl
    have hl' : xs.length = es.size := by rw [hl]; simp
    obtain ⟨hm, o, h1, h2, h3⟩ := d_raw I hd
    obtain ⟨f0, f1, f2, f3, f4, f5⟩ := hf it (by simp)
    have hie : i < es.size := by omega
    refine wpAny_pyNext_keys_item_raw st ⟨o, h1, h2, h3⟩ hie fun h' st' sb => ?_
    have I1 : Inv X pins σ H { s with heap := h' } := I.turned (t' := s.toks) (fun b o hb e => (sb.2 b hb).trans e) f0 f1 f3 f4 f5
    obtain ⟨o', e', c', q'⟩ := id st'
    obtain ⟨x, hx⟩ : ∃ x, xs[i]? = some x := ⟨xs[i], List.getElem?_eq_getElem hi⟩
    obtain ⟨u, hu, ru⟩ := rv.get hx
    have hu' : u = es[i].key := by
      rw [List.getElem?_map, Array.getElem?_toList, Array.getElem?_eq_getElem hie] at hu
      exact (Option.some.inj hu).symm
    subst hu'
    exact ⟨_, rfl, go_of (s := { s with heap := h' }) e' c' q' (by decide) ⟨x, H, I1, ru, ⟨rfl, hx⟩, st', fun b hb => (hf b hb).1⟩⟩
  done := by
    intro X hP hw hK hc i pins s σ H E I hf st ⟨hd, hi⟩
    subst hP hw hK
    have hl := rv.length
    rw [List.length_map] at hl
    have hl' : xs.length = es.size := by rw [hl]; simp
    obtain ⟨hm, o, h1, h2, h3⟩ := d_raw I hd
    obtain ⟨f0, f1, f2, f3, f4, f5⟩ := hf it (by simp)
    exact wpAny_pyNext_keys_end_raw (I.ok.hd hc) st ⟨o, h1, h2, h3⟩ (by omega) fun h' eb => ⟨rfl, I.turned (t' := s.toks) (fun b o hb e => eb b o hb e) f0 f1 f3 f4 f5⟩
  self := fun _ _ _ _ _ st h => wpAny_pyIter_keyiter st h
/-! ### one value is walked -/
theorem goes_list {K : Fg} {Hb Hf : Hp} {a : Addr} {xs : List V} {ds : List D} (h : SqL K Hb a xs) (hx : RepAll K Hf xs ds) : Goes K Hb Hf (Itl K a) false ds := by
  intro H Hf1 s1 s2 s3 i hi
  have hq : SqL K H a xs := Same.seq s1 h
  have hl := dpa_len hx
  refine ⟨fun e => ⟨xs, hq, by omega⟩, fun d hd => ?_⟩
  obtain ⟨v, hv, rv⟩ := dpa_get hx hd
  exact ⟨⟨xs, v, hq, hv⟩, fun x H' y => ⟨Hf1, by rw [y.1]; exact Ext.refl s3, by
    have := y.2 xs hq
    rw [hv] at this
    cases this
    exact Rep.mono s2 _ rv⟩⟩
theorem goes_tup {K : Fg} {Hb Hf : Hp} {a : Addr} {xs : List V} {ds : List D} (h : SqT K Hb a xs) (hx : RepAll K Hf xs ds) : Goes K Hb Hf (Itt K a) false ds := by
  intro H Hf1 s1 s2 s3 i hi
  have hq : SqT K H a xs := Same.sqt s1 h
  have hl := dpa_len hx
  refine ⟨fun e => ⟨xs, hq, by omega⟩, fun d hd => ?_⟩
  obtain ⟨v, hv, rv⟩ := dpa_get hx hd
  exact ⟨⟨xs, v, hq, hv⟩, fun x H' y => ⟨Hf1, by rw [y.1]; exact Ext.refl s3, by
    have := y.2 xs hq
    rw [hv] at this
    cases this
    exact Rep.mono s2 _ rv⟩⟩
theorem goes_str {K : Fg} {Hb Hf : Hp} {s : Str} : Goes K Hb Hf (Its s) false (signs s) := by
  intro H Hf1 s1 s2 s3 i hi
  have hl : (signs s).length = s.cps.size := by simp [signs]
  refine ⟨fun e => show s.cps.size ≤ i by omega, fun d hd => ?_⟩
  have hlt : i < s.cps.size := by rw [← hl]; exact (List.getElem?_eq_some_iff.mp hd).1
  refine ⟨hlt, fun x H' ⟨e1, c, e2, e3⟩ => ⟨Hf1, by rw [e1]; exact Ext.refl s3, ?_⟩⟩
  subst e3
  have : d = .str ⟨#[c]⟩ := by
    unfold signs at hd
    rw [List.getElem?_map, Array.getElem?_toList, e2] at hd
    exact (Option.some.inj hd).symm
  rw [this]
  exact Rep.str _
theorem goes_keys {K : Fg} {Hb Hf : Hp} {a : Addr} {es : Array DictEntry} {ep : Nat} {xs : List V} {ds : List D} (h : Hb a = some (DO a es ep)) (hx : RepAll K Hf xs ds) : Goes K Hb Hf (Itk a es ep xs) false ds := by
  intro H Hf1 s1 s2 s3 i hi
  have hq := s1 _ _ h
  have hl := dpa_len hx
  refine ⟨fun e => ⟨hq, by omega⟩, fun d hd => ?_⟩
  obtain ⟨v, hv, rv⟩ := dpa_get hx hd
  exact ⟨⟨hq, (List.getElem?_eq_some_iff.mp hv).1⟩, fun x H' y => ⟨Hf1, by rw [y.1]; exact Ext.refl s3, by
    have := y.2
    rw [hv] at this
    cases this
    exact Rep.mono s2 _ rv⟩⟩
theorem goes_rng {K : Fg} {Hb Hf : Hp} {lo hi : Int} : Goes K Hb Hf (Itr lo (hi - lo).toNat) false (rangeD lo hi) := by
  intro H Hf1 s1 s2 s3 i hi'
  have hl : (rangeD lo hi).length = (hi - lo).toNat := by simp [rangeD]
  refine ⟨fun e => show _ ≤ i by omega, fun d hd => ?_⟩
  have hlt : i < (hi - lo).toNat := by rw [← hl]; exact (List.getElem?_eq_some_iff.mp hd).1
  refine ⟨hlt, fun x H' ⟨e1, e2⟩ => ⟨Hf1, by rw [e1]; exact Ext.refl s3, ?_⟩⟩
  have : d = .int (lo + (i : Nat)) := by
    unfold rangeD at hd
    rw [List.getElem?_map, List.getElem?_range hlt] at hd
    exact (Option.some.inj hd).symm
  rw [this, e2]
  exact Rep.int _
theorem goes_rngD {K : Fg} {Hb Hf : Hp} {lo hi : Int} : Goes K Hb Hf (Itc hi (-1) (hi - lo).toNat) false (rangeDn hi lo) := by
  intro H Hf1 s1 s2 s3 i hi'
  have hl : (rangeDn hi lo).length = (hi - lo).toNat := by simp [rangeDn]
  refine ⟨fun e => show _ ≤ i by omega, fun d hd => ?_⟩
  have hlt : i < (hi - lo).toNat := by rw [← hl]; exact (List.getElem?_eq_some_iff.mp hd).1
  refine ⟨hlt, fun x H' ⟨e1, e2⟩ => ⟨Hf1, by rw [e1]; exact Ext.refl s3, ?_⟩⟩
  have : d = .int (hi + (i : Nat) * (-1)) := by
    unfold rangeDn at hd
    rw [List.getElem?_map, List.getElem?_range hlt] at hd
    rw [← Option.some.inj hd]
    have : (i : Int) * (-1) = -(i : Int) := by rw [Int.mul_neg, Int.mul_one]
    rw [this, ← Int.sub_eq_add_neg]
  rw [this, e2]
  exact Rep.int _
section
variable {X : Cx} {pins : List (Addr × Obj)} {σ : L2.St} {tg : Expr}
theorem iter_W {s : Shared} {H Hb Hf : Hp} {v : V} {u : Value} {d : D} {ds : List D} {R : It → Hp → Prop} {E : Value → Shared → Prop} (I : Inv X pins σ H s) (ru : RelV v u) (sb : Same Hb H) (w : Wlk X.K Hb Hf v d) (e : itemsF d = some ds)
    (q : ∀ J, Goes X.K Hb Hf J false ds → R J H) : wpAny (model X.prog X.w) X.A (pyIter u) (PIE X pins σ tg R) E s := by
  cases w with
  | lst a xs es hv hd h hx =>
    subst hv hd
    cases e
    cases ru
    obtain ⟨its, rv, p, hz⟩ := I.list (Same.seq sb h)
    exact wpAny_pyIter_list p.isList (pi_one (tk := s.toks) I _ (turn_list a _) ⟨_, Heap.get?_push_size _ rfl, rfl, rfl⟩ (q _ (goes_list h hx)))
  | tup a xs es hv hd h hx =>
    subst hv hd
    cases e
    cases ru
    obtain ⟨its, rv, p, hz⟩ := I.tuple (Same.sqt sb h)
    exact wpAny_pyIter_tuple (show s.heap.IsTuple a its.toArray from p) (pi_one (tk := s.toks) I _ (turn_tuple a _) ⟨_, Heap.get?_push_size _ rfl, rfl, rfl⟩ (q _ (goes_tup h hx)))
  | str x hv hd =>
    subst hv hd
    cases e
    obtain ⟨t, rfl⟩ := ru
    have q := q _ goes_str
    cases ha : x.cps.all (· < 128)
    · exact wpAny_pyIter_wide ha (pi_one (tk := s.toks) I _ (turn_str _ x t "str_iterator" (.inr rfl)) ⟨_, Heap.get?_push_size _ rfl, rfl, rfl⟩ q)
    · exact wpAny_pyIter_ascii ha (pi_one (tk := s.toks) I _ (turn_str _ x t "str_ascii_iterator" (.inl rfl)) ⟨_, Heap.get?_push_size _ rfl, rfl, rfl⟩ q)
  | dct tk a es ep kvs hv hd h hx =>
    subst hv hd
    cases e
    cases ru
    obtain ⟨hm, o, h1, h2, h3⟩ := d_raw I (sb _ _ h)
    obtain ⟨ys, rv, rr⟩ := dict_keys hx.ps
    exact wpAny_pyIter_dict_raw hm ⟨o, h1, h2, h3⟩ (pi_one (tk := s.toks) I _ (turn_keysD a _ es ep ys rv) ⟨_, Heap.get?_push_size _ rfl, rfl, rfl⟩ (q _ (goes_keys h rr)))
end
/-! ### the readings -/
def isTupW : Wk → Bool
  | .enu _ => true
  | .zip _ _ => true
  | _ => false
/-- something is walked: still says that nothing in it will change while only locked things stay -/
def tW (K : Fg) (Φ : Fn0) (st : List Stat) (still : Bool) (w : Wk) : TI := fun σ H R => ∃ Hf Lk ρ ds, SOk K σ H Hf Lk st ρ ∧ evW Φ w ρ = some ds ∧
  ∀ J H' Hf' Hb, Ext H Hf H' Hf' → Same Hb H' → (still = true → ∀ a o, Hb a = some o → Hf' a = some o ∨ Lk a = some o) → Goes K Hb Hf' J (isTupW w) ds → R J H'
section
variable {X : Cx} {Φ : Fn0} {st : List Stat} {e a b c tg : Expr} {p q r : Ep} {κ κa κb κc : Kd} {pos : Pos}
theorem pi_dat (he : PE X e (tP X.K Φ st κ p)) : PI X tg e (tW X.K Φ st κ.still (.dat p)) := by
  refine ⟨fun pins s σ H R I ⟨Hf, Lk, ρ, ds, S, ev, k⟩ => ?_⟩
  rw [evW] at ev
  obtain ⟨d, e1, e2⟩ := Option.bind_eq_some_iff.mp ev
  refine run1 he I S e1 fun u v s1 H1 Hf1 I1 ru x1 r1 => ?_
  obtain ⟨Hf2, Hb, x2, sb, hs, w⟩ := walk_of x1 r1 e2
  exact iter_W I1 ru sb w e2 fun J g => k J H1 Hf2 Hb x2 sb (fun z a o h => .inl (by rw [← hs z]; exact h)) g
/-- a locked list or dict, by its name -/
theorem pi_lock {i : Nat} {x : Str} {s0 : Stat} (hN : X.N[i]? = some x) (hv : Vis X.env.scope x) (hd : (x == ("__debug__" : Str)) = false) (hcd : (x == ("__classdict__" : Str)) = false) (hs : st[i]? = some s0) (hl : s0 = .lck ∨ s0 = .dIl ∨ s0 = .dTl) :
    PI X tg (.Name x pos) (tW X.K Φ st true (.dat (.var i))) := by
  refine ⟨fun pins s σ H R I ⟨Hf, Lk, ρ, ds, S, ev, k⟩ => ?_⟩
  rw [evW] at ev
  obtain ⟨d, e1, e2⟩ := Option.bind_eq_some_iff.mp ev
  rw [evX] at e1
  have hi : i < σ.length := by rw [← S.ls]; exact (List.getElem?_eq_some_iff.mp hs).1
  have q := S.slot i s0 σ[i] d hs (List.getElem?_eq_getElem hi) e1
  have lk1 : ∀ a o, only1 Lk a a = some o → Lk a = some o := fun a o h => by rw [only1_at] at h; exact h
  have fin : ∀ (v : V) (a : Addr), σ[i] = some v → Wlk X.K (only1 Lk a) Hf v d → wpAny (model X.prog X.w) X.A (eval (.Name x pos) X.env) (fun v s1 => wpAny (model X.prog X.w) X.A (pyIter v) (PIE X pins σ tg R) X.xe s1) X.xe s := fun v a hv' w =>
    thn ((pe_var hN hv hd hcd).run pins s σ H (fun v' H' => v' = v ∧ H' = H) I ⟨v, by rw [List.getElem?_eq_getElem hi, hv'], rfl, rfl⟩) fun u s1 ⟨v', H', I1, ru, ev', eh⟩ => by
      subst ev' eh
      exact iter_W I1 ru (fun b o h => S.lk _ _ (only1_same b o h)) w e2 fun J g => k J H' Hf (only1 Lk a) (Ext.refl S.sub) (fun b o h => S.lk _ _ (only1_same b o h)) (fun _ b o h => .inr (only1_same b o h)) g
  rcases hl with rfl | rfl | rfl
  · obtain ⟨a, xs, es, h1, h2, h3, h4⟩ := q
    exact fin _ a h1 (.lst a xs es rfl h2 (.inl (.inl (by rw [only1_at]; exact h3))) h4)
  · obtain ⟨a, es, ep, kvs, h1, h2, h3, h4⟩ := q
    exact fin _ a h1 (.dct false a es ep kvs rfl h2 (by rw [only1_at]; exact h3) h4)
  · obtain ⟨a, es, ep, kvs, h1, h2, h3, h4⟩ := q
    exact fin _ a h1 (.dct true a es ep kvs rfl h2 (by rw [only1_at]; exact h3) h4)
theorem rng_ok {i : Int} (h : rngOk i = true) : -(2 ^ 62) ≤ i ∧ i < 2 ^ 62 := by
  simp only [rngOk, Bool.and_eq_true, decide_eq_true_eq] at h
  omega
theorem intOf_some {x : D} {t : Int} (h : intOf x = some t) : x = .int t := by
  cases x <;> simp only [intOf, reduceCtorEq, Option.some.injEq] at h
  rw [h]
theorem pi_r1 {pp : Pos} {still : Bool} (hg : Gl X "range") (hm : X.mg "range" = none) (hp : isPlain a = true) (ha : PE X a (tP X.K Φ st κ p)) : PI X tg (.Call (.Name "range" pp) [a] [] pos) (tW X.K Φ st still (.rng p)) := by
  refine ⟨fun pins s σ H R I ⟨Hf, Lk, ρ, ds, S, ev, k⟩ => ?_⟩
  rw [evW] at ev
  obtain ⟨x, e1, ev⟩ := Option.bind_eq_some_iff.mp ev
  obtain ⟨i, e2, ev⟩ := Option.bind_eq_some_iff.mp ev
  split at ev
  case isFalse => cases ev
  rename_i ok
  cases ev
  cases intOf_some e2
  refine (pi_range1 hg hm (pa_cons ha pa_nil (star_plain hp)) (star_plain hp)).run pins s σ H R I (use1 S e1 fun v H1 Hf1 x1 r1 => ⟨i, by cases r1.rv.int; rfl, (rng_ok ok).1, (rng_ok ok).2, ?_⟩)
  have g := goes_rng (K := X.K) (Hb := Hf1) (Hf := Hf1) (lo := 0) (hi := i)
  rw [show i - 0 = i by omega] at g
  exact k _ H1 Hf1 Hf1 x1 x1.sub (fun _ a o h => .inl h) g
theorem pi_r2 {pp : Pos} {still : Bool} (hg : Gl X "range") (hm : X.mg "range" = none) (hp : isPlain a = true) (hp2 : isPlain b = true) (ha : PE X a (tP X.K Φ st κa p)) (hb : PE X b (tP X.K Φ st κb q)) : PI X tg (.Call (.Name "range" pp) [a, b] [] pos) (tW X.K Φ st still (.rng2 p q)) := by
  refine ⟨fun pins s σ H R I ⟨Hf, Lk, ρ, ds, S, ev, k⟩ => ?_⟩
  rw [evW] at ev
  obtain ⟨x, e1, ev⟩ := Option.bind_eq_some_iff.mp ev
  obtain ⟨y, e2, ev⟩ := Option.bind_eq_some_iff.mp ev
  obtain ⟨i, e3, ev⟩ := Option.bind_eq_some_iff.mp ev
  obtain ⟨j, e4, ev⟩ := Option.bind_eq_some_iff.mp ev
  split at ev
  case isFalse => cases ev
  rename_i ok
  cases ev
  cases intOf_some e3
  cases intOf_some e4
  refine (pi_range2 hg hm (pa_cons ha (pa_cons hb pa_nil (star_plain hp2)) (star_plain hp)) (by rw [star_plain hp, star_plain hp2]; rfl) (star_plain hp2)).run pins s σ H R I
    (use1 S e1 fun v H1 Hf1 x1 r1 => use1 (S.mono x1) e2 fun u H2 Hf2 x2 r2 => ⟨i, j, by cases r1.rv.int; cases r2.rv.int; rfl, ⟨(rng_ok ok.1).1, (rng_ok ok.1).2, (rng_ok ok.2).1, (rng_ok ok.2).2⟩, ?_⟩)
  exact k _ H2 Hf2 Hf2 (x1.trans x2) x2.sub (fun _ a o h => .inl h) goes_rng
theorem pi_rD {pp : Pos} {still : Bool} (hg : Gl X "range") (hm : X.mg "range" = none) (hp : isPlain a = true) (hp2 : isPlain b = true) (hp3 : isPlain c = true) (ha : PE X a (tP X.K Φ st κa p)) (hb : PE X b (tP X.K Φ st κb q)) (hc : PE X c (tC (.int (-1)))) :
    PI X tg (.Call (.Name "range" pp) [a, b, c] [] pos) (tW X.K Φ st still (.rngD p q)) := by
  refine ⟨fun pins s σ H R I ⟨Hf, Lk, ρ, ds, S, ev, k⟩ => ?_⟩
  rw [evW] at ev
  obtain ⟨x, e1, ev⟩ := Option.bind_eq_some_iff.mp ev
  obtain ⟨y, e2, ev⟩ := Option.bind_eq_some_iff.mp ev
  obtain ⟨i, e3, ev⟩ := Option.bind_eq_some_iff.mp ev
  obtain ⟨j, e4, ev⟩ := Option.bind_eq_some_iff.mp ev
  split at ev
  case isFalse => cases ev
  rename_i ok
  cases ev
  cases intOf_some e3
  cases intOf_some e4
  refine (pi_range3 hg hm (pa_cons ha (pa_cons hb (pa_cons hc pa_nil (star_plain hp3)) (star_plain hp2)) (star_plain hp)) (star_plain hp) (star_any (by simp [hp2, hp3]))).run pins s σ H R I
    (use1 S e1 fun v H1 Hf1 x1 r1 => use1 (S.mono x1) e2 fun u H2 Hf2 x2 r2 => ⟨i, j, -1, (i - j).toNat, by cases r1.rv.int; cases r2.rv.int; rfl, RgC.neg (rng_ok ok.1).1 (rng_ok ok.1).2 (rng_ok ok.2).1 (rng_ok ok.2).2, ?_⟩)
  exact k _ H2 Hf2 Hf2 (x1.trans x2) x2.sub (fun _ a o h => .inl h) goes_rngD
end
end Orp

/-! Orp, part 16: enumerate, zip. -/
namespace PySem
open AutoSeq1 (wpAny_loadPart')
theorem meets_enumerate_newT' (l : Addr) (items : Array Value) (n : Nat) (dct : Option Addr) (sl : Array (Option Value)) :
    Meets (Builtin.«enumerate.__new__» ⟨[.type "enumerate", .ref l], []⟩) (fun _ R s => s.heap.get? l = some { cls := .type "tuple", dict := dct, data := .seq items n, slots := sl } ∧
      R (.ok (.ret (.ref (s.heap.push { cls := .type "tuple_iterator", data := .fields #[.ref l, .int 0 0] }).objs.size)))
        { s with heap := (s.heap.push { cls := .type "tuple_iterator", data := .fields #[.ref l, .int 0 0] }).push { cls := .type "enumerate", data := .fields #[.none, .bool false, .ref s.heap.objs.size, rawInt 0, .none, .none] } }) :=
  .of_wp fun prog w A R s h => by
    obtain ⟨hp, g, d, tk, os⟩ := s
    obtain ⟨hl, h⟩ := h
    have hsub := sub_enumerate
    have hL : Heap.IsTuple (Shared.heap ⟨hp, g, d, tk, os⟩) l items := ⟨_, hl, rfl, n, rfl⟩
    wp_walk using wpAny_loadPart' hl
    refine wpAny_stack_any fun st => wpAny_pure ?_
    split
    · rename_i c _ _ _ _ _
      cases (c == Value.type "enumerate")
      · wp_walk using wpAny_loadPart' hl, wpAny_pyIter_tuple hL
        exact ⟨_, rfl, h⟩
      · wp_walk using wpAny_loadPart' hl, wpAny_pyIter_tuple hL
        exact ⟨_, rfl, h⟩
    · wp_walk using wpAny_loadPart' hl, wpAny_pyIter_tuple hL
      exact ⟨_, rfl, h⟩
section
variable {prog : Program} {w : World} {A : Around} {E : Value → Shared → Prop} {s : Shared}
theorem call_enumerate_tup {l : Addr} {items : Array Value} {Q : Value → Shared → Prop} (hL : s.heap.IsTuple l items)
    (h : ∀ h', IsEnum h' (s.heap.objs.size + 1) s.heap.objs.size 0 .none → h'.IsTupleIter s.heap.objs.size l 0 → h'.objs.size = s.heap.objs.size + 2 →
      (∀ b o, s.heap.get? b = some o → h'.get? b = some o) → Q (.ref (s.heap.objs.size + 1)) { s with heap := h' }) :
    wpAny (model prog w) A (call (.type "enumerate") [.ref l]) Q E s := by
  obtain ⟨⟨c, dct, dt, sl⟩, hl, hc, n, hd⟩ := hL
  replace hc : c = .type "tuple" := hc
  replace hd : dt = .seq items n := hd
  subst hc hd
  refine callType_new F.called_enumerate (by decide) (F.typeCall_enumerate_1 _) (F.newCall_enumerate_1 _) (fun obj => F.args_object_init_2 obj _) F.entry_enumerate_new
    (meets_enumerate_newT' l items n dct sl) ⟨hl, ?_⟩
  have hz : (s.heap.push { cls := .type "tuple_iterator", data := .fields #[.ref l, .int 0 0] }).objs.size = s.heap.objs.size + 1 := Heap.size_push ..
  show _ ∧ _
  rw [hz]
  have he : IsEnum ((s.heap.push { cls := .type "tuple_iterator", data := .fields #[.ref l, .int 0 0] }).push
      { cls := .type "enumerate", data := .fields #[.none, .bool false, .ref s.heap.objs.size, rawInt 0, .none, .none] }) (s.heap.objs.size + 1) s.heap.objs.size 0 .none := by
    show Heap.get? _ _ = _
    rw [← hz]
    exact Heap.get?_push_size _ rfl
  refine ⟨⟨_, he, rfl⟩, h _ he ⟨_, Heap.get?_push_of_some _ (Heap.get?_push_size _ rfl), rfl, rfl⟩ (by rw [Heap.size_push, hz]) fun b o e => Heap.get?_push_of_some _ (Heap.get?_push_of_some _ e)⟩
end
end PySem
namespace Orp
open PySem PySem.Spec PyProof.Rows L2
/-- a tuple's items, each in a new pair with its place -/
def IteT (K : Fg) (a : Addr) : It :=
  ⟨fun i H => ∃ (xs : List V) (x : V), SqT K H a xs ∧ xs[i]? = some x, fun i H v H' => ∃ T x, v = .ref T ∧ H T = none ∧ H' = upd H T (.tup [.int (i : Nat), x]) ∧ ∀ xs, SqT K H a xs → xs[i]? = some x, fun i H => ∃ xs : List V, SqT K H a xs ∧ i = xs.length⟩
theorem turn_enumT {P : Program} {w : World} {K : Fg} {elts : List Expr} {kk : Nat} {tpos : Pos} (a e it : Addr) :
    Turn P w K (.Tuple elts kk tpos) (IteT K a) [e, it] e (fun i h => (∃ old, IsEnum h e it ((i : Nat) : Int) old) ∧ h.IsTupleIter it a i ∧ e ≠ it) where
  mem := by simp
  obj := fun i h st b hb => by
    obtain ⟨⟨old, he⟩, ⟨o, ho, hc, hd⟩, _⟩ := st
    rcases (by simpa using hb : b = e ∨ b = it) with z | z <;> subst z
    · exact ⟨_, he, fun v q => nomatch q⟩
    · exact ⟨o, ho, fun v q => by rw [hd] at q; cases q⟩
  keep := fun i h h' st k => by
    obtain ⟨⟨old, he⟩, hi, hne⟩ := st
    exact ⟨⟨old, k e (by simp) _ he⟩, hi.at fun o q => k it (by simp) o q, hne⟩
  item := by
    intro X hP hw hK hc i pins s σ H E I hf ⟨⟨old, he⟩, hit, hne⟩ ⟨xs, x, hq, hx⟩
    subst hP hw hK
    obtain ⟨its, rv, pl, hz⟩ := I.tuple hq
    obtain ⟨u, hu, ru⟩ := rv.get hx
    have hel : e < s.heap.objs.size := Heap.lt_size he
    have hil : it < s.heap.objs.size := by obtain ⟨_, q, _⟩ := hit; exact Heap.lt_size q
    have hai : a ≠ it := fun z => by
      subst z
      obtain ⟨o, e1, e2, _⟩ := hit
      obtain ⟨o', e3, e4, _⟩ := pl
      rw [e1] at e3
      cases e3
      rw [e2] at e4
      exact absurd (Value.type.inj e4) (by decide)
    have hea : e ≠ a := fun z => by
      subst z
      obtain ⟨o', e3, e4, _⟩ := pl
      have he' : s.heap.get? e = some _ := he
      rw [he'] at e3
      cases e3
      exact absurd (Value.type.inj e4) (by decide)
    have hlt : i < its.toArray.size := by
      have := (List.getElem?_eq_some_iff.mp hu).1
      simpa using this
    refine wpAny_pyNext_enum_itemD (Draws.tuple (prog := X.prog) (w := X.w) (A := X.A.in1) (I.ok.hd hc) it a hai its.toArray) he ⟨hit, pl⟩ hlt hne (by simp [hne, hea]) fun x' h' tk hP ho hit' hT hsz hk => ?_
    have hxu : x' = u := by
      have e1 : its[i]? = some x' := by simpa using hP
      rw [hu] at e1
      exact (Option.some.inj e1).symm
    subst hxu
    refine ⟨_, rfl, wpAny_letOwnedTupleGo_enum (s := { s with heap := h', toks := tk + 1 }) ho fun h'' he' sb => ?_⟩
    have hT2 : h''.get? s.heap.objs.size = some { cls := .type "tuple", data := .seq #[.int i tk, x'] } := (sb.2 _ (Nat.ne_of_gt hel)).trans hT
    have I1 : Inv X pins σ (upd H s.heap.objs.size (.tup [.int (i : Nat), x])) { s with heap := h'', toks := tk + 1 } :=
      I.turnedNew (ch := [e, it]) (fun b ob hb q => by
        have n1 : b ≠ e := fun z => hb (by simp [z])
        have n2 : b ≠ it := fun z => hb (by simp [z])
        exact (sb.2 b n1).trans (hk b ob n1 n2 q)) hf (Nat.le_refl _) ⟨by show 2 ≤ sizeLine; decide, [.int i tk, x'], .cons ⟨_, rfl⟩ (.cons ru .nil), ⟨_, hT2, rfl, _, rfl⟩⟩
    refine ⟨.ref s.heap.objs.size, _, I1, rfl, ⟨_, x, rfl, I.hok.fresh (Nat.le_refl _), rfl, fun ys hy => ?_⟩, ⟨⟨x', ?_⟩, hit'.1.at fun o q => (sb.2 it (Ne.symm hne)).trans q, hne⟩, fun b hb => ?_⟩
    · obtain ⟨its2, rv2, pl2, _⟩ := I.tuple hy
      have e2 : its2 = its := by
        obtain ⟨o1, a1, _, n1, a2⟩ := pl
        obtain ⟨o2, b1, _, n2, b2⟩ := pl2
        rw [a1] at b1
        cases b1
        rw [a2] at b2
        injection b2 with b2 _
        exact (by simpa using b2.symm)
      subst e2
      have : ∀ {xs ys : List V} {us : List Value}, Vals xs us → Vals ys us → xs = ys := by
        intro xs ys us h1
        induction h1 generalizing ys with
        | nil => intro h2; cases h2; rfl
        | cons r1 _ ih =>
          intro h2
          cases h2 with
          | cons r2 t2 => rw [ih t2, RelV.inj r1 r2]
      rw [this rv2 rv]
      exact hx
    · rw [show ((i + 1 : Nat) : Int) = (i : Int) + 1 by omega]
      exact he'
    · have hb' : b < s.heap.objs.size := by
        rcases (by simpa using hb : b = e ∨ b = it) with z | z <;> rw [z] <;> assumption
      rw [upd_ne (Nat.ne_of_lt hb')]
      exact (hf b hb).1
  done := by
    intro X hP hw hK hc i pins s σ H E I hf ⟨⟨old, he⟩, hit, hne⟩ ⟨xs, hq, hx⟩
    subst hP hw hK
    obtain ⟨its, rv, pl, hz⟩ := I.tuple hq
    obtain ⟨f0, f1, f2, f3, f4, f5⟩ := hf it (by simp)
    have hl := rv.length
    have hai : a ≠ it := fun z => by
      subst z
      obtain ⟨o, e1, e2, _⟩ := hit
      obtain ⟨o', e3, e4, _⟩ := pl
      rw [e1] at e3
      cases e3
      rw [e2] at e4
      exact absurd (Value.type.inj e4) (by decide)
    refine wpAny_pyNext_enum_endD (Draws.tuple (prog := X.prog) (w := X.w) (A := X.A.in1) (I.ok.hd hc) it a hai its.toArray) he ⟨?_, pl⟩ fun h' eb => ⟨rfl, I.turned (t' := s.toks) (fun b o hb q => eb b o hb q) f0 f1 f3 f4 f5⟩
    rw [List.size_toArray, ← hl, ← hx]
    exact hit
  self := fun A i s Q E st h => by
    obtain ⟨⟨_, he⟩, _⟩ := st
    exact wpAny_pyIter_enum he h
theorem enuD_len : ∀ (ds : List D) (k : Nat), (enuD k ds).length = ds.length
  | [], _ => rfl
  | d :: ds, k => by rw [enuD, List.length_cons, List.length_cons, enuD_len ds]
theorem enuD_get : ∀ {ds : List D} {k i : Nat} {z : D}, (enuD k ds)[i]? = some z → ∃ d, ds[i]? = some d ∧ z = .tuple [.int ((k + i : Nat) : Int), d]
  | [], _, _, _, h => by simp [enuD] at h
  | d :: ds, k, 0, z, h => by
    simp [enuD] at h
    exact ⟨d, rfl, h.symm⟩
  | d :: ds, k, i + 1, z, h => by
    obtain ⟨d', h1, h2⟩ := enuD_get (ds := ds) (k := k + 1) (i := i) (by simpa [enuD] using h)
    exact ⟨d', by simpa using h1, by rw [h2, show k + 1 + i = k + (i + 1) by omega]⟩
theorem zipD_len : ∀ (xs ys : List D), (zipD xs ys).length = min xs.length ys.length
  | [], ys => by simp [zipD]
  | x :: xs, [] => by simp [zipD]
  | x :: xs, y :: ys => by rw [zipD, List.length_cons, List.length_cons, List.length_cons, zipD_len xs ys]; omega
theorem zipD_get : ∀ {xs ys : List D} {i : Nat} {z : D}, (zipD xs ys)[i]? = some z → ∃ x y, xs[i]? = some x ∧ ys[i]? = some y ∧ z = .tuple [x, y]
  | [], _, _, _, h => by simp [zipD] at h
  | _ :: _, [], _, _, h => by simp [zipD] at h
  | x :: xs, y :: ys, 0, z, h => by
    simp [zipD] at h
    exact ⟨x, y, rfl, rfl, h.symm⟩
  | x :: xs, y :: ys, i + 1, z, h => by
    obtain ⟨x', y', h1, h2, h3⟩ := zipD_get (xs := xs) (ys := ys) (i := i) (by simpa [zipD] using h)
    exact ⟨x', y', by simpa using h1, by simpa using h2, h3⟩
section
variable {K : Fg} {Hb Hf : Hp} {a b : Addr} {xs ys : List V} {ds es : List D}
/-- a new pair for the target -/
theorem bind_pair {H Hf1 : Hp} {T : Addr} {x y : V} {d e : D} (s3 : Same Hf1 H) (np : H T = none) (rx : Rep K Hf1 x d) (ry : Rep K Hf1 y e) : ∃ Hf', Ext H Hf1 (upd H T (.tup [x, y])) Hf' ∧ BindV K (upd H T (.tup [x, y])) Hf' true (.ref T) (.tuple [d, e]) :=
  ⟨Hf1, Ext.lay s3 np, T, [x, y], [d, e], rfl, rfl, .inl (.inl upd_same), .cons rx (.cons ry .nil)⟩
theorem goes_enuL (h : SqL K Hb a xs) (hx : RepAll K Hf xs ds) : Goes K Hb Hf (Ite K a) true (enuD 0 ds) := by
  intro H Hf1 s1 s2 s3 i hi
  have hq : SqL K H a xs := Same.seq s1 h
  have hl := dpa_len hx
  rw [enuD_len] at hi ⊢
  refine ⟨fun e => ⟨xs, hq, by omega⟩, fun d hd => ?_⟩
  obtain ⟨d, hd2, rfl⟩ := enuD_get hd
  obtain ⟨v, hv, rv⟩ := dpa_get hx hd2
  refine ⟨⟨xs, v, hq, hv⟩, fun x H' ⟨T, y, e1, e2, e3, e4⟩ => ?_⟩
  subst e1 e3
  have := e4 xs hq
  rw [hv] at this
  cases this
  rw [Nat.zero_add]
  exact bind_pair s3 e2 (.int _) (Rep.mono s2 _ rv)
theorem goes_enuT (h : SqT K Hb a xs) (hx : RepAll K Hf xs ds) : Goes K Hb Hf (IteT K a) true (enuD 0 ds) := by
  intro H Hf1 s1 s2 s3 i hi
  have hq : SqT K H a xs := Same.sqt s1 h
  have hl := dpa_len hx
  rw [enuD_len] at hi ⊢
  refine ⟨fun e => ⟨xs, hq, by omega⟩, fun d hd => ?_⟩
  obtain ⟨d, hd2, rfl⟩ := enuD_get hd
  obtain ⟨v, hv, rv⟩ := dpa_get hx hd2
  refine ⟨⟨xs, v, hq, hv⟩, fun x H' ⟨T, y, e1, e2, e3, e4⟩ => ?_⟩
  subst e1 e3
  have := e4 xs hq
  rw [hv] at this
  cases this
  rw [Nat.zero_add]
  exact bind_pair s3 e2 (.int _) (Rep.mono s2 _ rv)
theorem goes_zipL (h : SqL K Hb a xs) (h' : SqL K Hb b ys) (hx : RepAll K Hf xs ds) (hy : RepAll K Hf ys es) : Goes K Hb Hf (Itz K a b) true (zipD ds es) := by
  intro H Hf1 s1 s2 s3 i hi
  have hq : SqL K H a xs := Same.seq s1 h
  have hq' : SqL K H b ys := Same.seq s1 h'
  have hl := dpa_len hx
  have hl' := dpa_len hy
  rw [zipD_len] at hi ⊢
  refine ⟨fun e => ⟨xs, ys, hq, hq', by omega⟩, fun d hd => ?_⟩
  obtain ⟨d, d', hd2, hd', rfl⟩ := zipD_get hd
  obtain ⟨v, hv, rv⟩ := dpa_get hx hd2
  obtain ⟨u, hu, ru⟩ := dpa_get hy hd'
  refine ⟨⟨xs, ys, v, u, hq, hq', hv, hu⟩, fun x H' ⟨T, y, z, e1, e2, e3, e4, e5⟩ => ?_⟩
  subst e1 e3
  have t1 := e4 xs hq
  have t2 := e5 ys hq'
  rw [hv] at t1
  rw [hu] at t2
  cases t1
  cases t2
  exact bind_pair s3 e2 (Rep.mono s2 _ rv) (Rep.mono s2 _ ru)
theorem goes_zipT (h : SqT K Hb a xs) (h' : SqT K Hb b ys) (hx : RepAll K Hf xs ds) (hy : RepAll K Hf ys es) : Goes K Hb Hf (RZ.ItzT K a b) true (zipD ds es) := by
  intro H Hf1 s1 s2 s3 i hi
  have hq : SqT K H a xs := Same.sqt s1 h
  have hq' : SqT K H b ys := Same.sqt s1 h'
  have hl := dpa_len hx
  have hl' := dpa_len hy
  rw [zipD_len] at hi ⊢
  refine ⟨fun e => ⟨xs, ys, hq, hq', by omega⟩, fun d hd => ?_⟩
  obtain ⟨d, d', hd2, hd', rfl⟩ := zipD_get hd
  obtain ⟨v, hv, rv⟩ := dpa_get hx hd2
  obtain ⟨u, hu, ru⟩ := dpa_get hy hd'
  refine ⟨⟨xs, ys, v, u, hq, hq', hv, hu⟩, fun x H' ⟨T, y, z, e1, e2, e3, e4, e5⟩ => ?_⟩
  subst e1 e3
  have t1 := e4 xs hq
  have t2 := e5 ys hq'
  rw [hv] at t1
  rw [hu] at t2
  cases t1
  cases t2
  exact bind_pair s3 e2 (Rep.mono s2 _ rv) (Rep.mono s2 _ ru)
end
/-- two objects alone -/
def only2 (H : Hp) (a b : Addr) : Hp := fun c => if c = a ∨ c = b then H c else none
theorem only2_same {H : Hp} {a b : Addr} : Same (only2 H a b) H := fun c u e => by
  unfold only2 at e
  split at e
  · exact e
  · cases e
theorem sqt_only {K : Fg} {H Hb : Hp} {a : Addr} {xs : List V} (h : SqT K H a xs) (e : Hb a = H a) : SqT K Hb a xs := by
  rcases h with (h | ⟨o, h⟩) | h
  · exact .inl (.inl (by rw [e]; exact h))
  · exact .inl (.inr ⟨o, by rw [e]; exact h⟩)
  · exact .inr h
theorem sql_only {K : Fg} {H Hb : Hp} {a : Addr} {xs : List V} (h : SqL K H a xs) (e : Hb a = H a) : SqL K Hb a xs := by
  rcases h with (h | ⟨o, h⟩) | h
  · exact .inl (.inl (by rw [e]; exact h))
  · exact .inl (.inr ⟨o, by rw [e]; exact h⟩)
  · exact .inr h
section
variable {X : Cx} {Φ : Fn0} {st : List Stat} {e a b c tg : Expr} {p q r : Ep} {κ κa κb κc : Kd} {pos : Pos} {elts : List Expr} {kk : Nat} {tpos : Pos}
def Kd.still2 : Kd → Bool
  | .sh => true
  | .fr => true
  | _ => false
theorem pi_en {pp : Pos} (hg : Gl X "enumerate") (hm : X.mg "enumerate" = none) (hp : isPlain a = true) (ha : PE X a (tP X.K Φ st κ p)) : PI X (.Tuple elts kk tpos) (.Call (.Name "enumerate" pp) [a] [] pos) (tW X.K Φ st κ.still2 (.enu p)) := by
  refine ⟨fun pins s σ H R I ⟨Hf, Lk, ρ, ds, S, ev, k⟩ => ?_⟩
  rw [evW] at ev
  obtain ⟨d, e1, ev⟩ := Option.bind_eq_some_iff.mp ev
  obtain ⟨es, e2, rfl⟩ := Option.map_eq_some_iff.mp ev
  have key : ∀ v H1 Hf1, Ext H Hf H1 Hf1 → RR X.K H H1 Hf1 κ v d → ∃ Hf2 Hb, Ext H Hf H1 Hf2 ∧ Same Hb H1 ∧ (κ.still2 = true → Hb = Hf2) ∧ Wlk X.K Hb Hf2 v d := fun v H1 Hf1 x1 r1 => by
    obtain ⟨Hf2, Hb, h1, h2, h3, h4⟩ := walk_of (is := es) x1 r1 (by cases d <;> simp_all [seqOf, itemsF])
    exact ⟨Hf2, Hb, h1, h2, fun z => h3 (by cases κ <;> first | rfl | exact absurd z Bool.false_ne_true), h4⟩
  cases d <;> simp only [seqOf, reduceCtorEq, Option.some.injEq] at e2
  · subst e2
    refine (pi_enum hg hm (pa_cons ha pa_nil (star_plain hp)) (star_plain hp)).run pins s σ H R I (use1 S e1 fun v H1 Hf1 x1 r1 => ?_)
    obtain ⟨Hf2, Hb, x2, sb, hs, w⟩ := key v H1 Hf1 x1 r1
    cases w with
    | lst l xs zs hv hd h hx =>
      cases hd
      subst hv
      exact ⟨l, xs, rfl, Same.seq sb h, k _ H1 Hf2 Hb x2 sb (fun z c o h => .inl (by rw [← hs z]; exact h)) (goes_enuL h hx)⟩
    | tup l xs zs hv hd h hx => cases hd
    | str x hv hd => cases hd
    | dct tk l es ep kvs hv hd h hx => cases hd
  · subst e2
    refine Call_ (ld_blt I hg hm boot_enumerate (PyProof.Rows.callWith_type1 (thn ((pa_cons ha pa_nil (star_plain hp)).run pos pins s σ H (fun vs H1 => ∃ v Hf1, vs = [v] ∧ Ext H Hf H1 Hf1 ∧ RR X.K H H1 Hf1 κ v _) I
      (use1 S e1 fun v H1 Hf1 x1 r1 => ⟨v, Hf1, rfl, x1, r1⟩)) fun us s1 ⟨vs, H1, I1, r1, v, Hf1, ex, x1, rr⟩ => ?_) (star_plain hp) rfl))
    subst ex
    obtain ⟨u, rfl, ru⟩ := vals1 r1
    obtain ⟨Hf2, Hb, x2, sb, hs, w⟩ := key v H1 Hf1 x1 rr
    cases w with
    | tup l xs zs hv hd h hx =>
      cases hd
      subst hv
      cases ru
      obtain ⟨its, rv, pl, hz⟩ := I1.tuple (Same.sqt sb h)
      refine call_enumerate_tup (show s1.heap.IsTuple l its.toArray from pl) fun h' he hit hsz hk => wpAny_pyIter_enum he ?_
      have I2 : Inv X pins σ H1 { s1 with heap := h' } := I1.kept (t' := s1.toks) hk
      refine ⟨s1.heap.objs.size + 1, [s1.heap.objs.size + 1, s1.heap.objs.size], _, _, H1, rfl, I2, turn_enumT l (s1.heap.objs.size + 1) s1.heap.objs.size, ⟨⟨.none, he⟩, hit, Nat.succ_ne_self _⟩, fun c hc => ?_,
        k _ H1 Hf2 Hb x2 sb (fun z c o h => .inl (by rw [← hs z]; exact h)) (goes_enuT h hx)⟩
      have hle : s1.heap.objs.size ≤ c := by
        rcases (by simpa using hc : c = s1.heap.objs.size + 1 ∨ c = s1.heap.objs.size) with z | z
        · rw [z]; exact Nat.le_succ _
        · rw [z]; exact Nat.le_refl _
      exact I1.fpOk hle (I1.hok.fresh hle)
    | lst l xs zs hv hd h hx => cases hd
    | str x hv hd => cases hd
    | dct tk l es ep kvs hv hd h hx => cases hd
theorem pi_zp {pp : Pos} (hg : Gl X "zip") (hm : X.mg "zip" = none) (hp : isPlain a = true) (hp2 : isPlain b = true) (ha : PE X a (tP X.K Φ st κa p)) (hb : PE X b (tP X.K Φ st κb q)) :
    PI X (.Tuple elts kk tpos) (.Call (.Name "zip" pp) [a, b] [] pos) (tW X.K Φ st (κa.still2 && κb.still2) (.zip p q)) := by
  refine ⟨fun pins s σ H R I ⟨Hf, Lk, ρ, ds, S, ev, k⟩ => ?_⟩
  rw [evW] at ev
  obtain ⟨d, e1, ev⟩ := Option.bind_eq_some_iff.mp ev
  obtain ⟨d', e2, ev⟩ := Option.bind_eq_some_iff.mp ev
  have key : ∀ κ v d is H0 Hf0 H1 Hf1, Ext H0 Hf0 H1 Hf1 → RR X.K H0 H1 Hf1 κ v d → itemsF d = some is → ∃ Hf2 Hb, Ext H0 Hf0 H1 Hf2 ∧ Same Hf1 Hf2 ∧ Same Hb H1 ∧ (κ.still2 = true → Hb = Hf2) ∧ Wlk X.K Hb Hf2 v d := fun κ v d is H0 Hf0 H1 Hf1 x1 r1 hi => by
    cases κ with
    | mu i s => exact r1.elim
    | sh => exact ⟨Hf1, Hf1, x1, Same.refl _, x1.sub, fun _ => rfl, walk_sh r1 hi⟩
    | fr =>
      obtain ⟨Hf2, x2, sm, r2⟩ := RR.freeze (.inr rfl) x1 r1
      exact ⟨Hf2, Hf2, x2, sm, x2.sub, fun _ => rfl, walk_sh r2 hi⟩
    | bw =>
      obtain ⟨a, xs, ds, rfl, rfl, h1, h2⟩ := r1
      exact ⟨Hf1, only1 H1 a, x1, Same.refl _, only1_same, (fun z => absurd z Bool.false_ne_true), .lst a xs ds rfl rfl (sq_only h1) h2⟩
    | bd =>
      obtain ⟨tk, a, es, ep, kvs, rfl, rfl, h1, h2⟩ := r1
      exact ⟨Hf1, only1 H1 a, x1, Same.refl _, only1_same, (fun z => absurd z Bool.false_ne_true), .dct tk a es ep kvs rfl rfl (by rw [only1_at]; exact h1) h2⟩
    | dI =>
      obtain ⟨a, es, ep, kvs, rfl, rfl, h0, h1, h2, h3⟩ := r1
      exact ⟨Hf1, only1 H1 a, x1, Same.refl _, only1_same, (fun z => absurd z Bool.false_ne_true), .dct false a es ep kvs rfl rfl (by rw [only1_at]; exact h1) h3⟩
    | dT =>
      obtain ⟨a, es, ep, kvs, rfl, rfl, h0, h1, h2, h3⟩ := r1
      exact ⟨Hf1, only1 H1 a, x1, Same.refl _, only1_same, (fun z => absurd z Bool.false_ne_true), .dct true a es ep kvs rfl rfl (by rw [only1_at]; exact h1) h3⟩
  refine (RZ.pi_zipA hg hm (pa_cons ha (pa_cons hb pa_nil (star_plain hp2)) (star_plain hp)) (star_plain hp) (star_any (by simp [hp2]))).run pins s σ H R I ?_
  refine use1 S e1 fun v H1 Hf1 x1 r1 => ?_
  cases d <;> cases d' <;> simp only [zipF, reduceCtorEq, Option.some.injEq] at ev
  · rename_i zs zs'
    subst ev
    obtain ⟨Hf1', Hb1, y1, m1, sb1, hs1, w1⟩ := key κa v _ _ H Hf H1 Hf1 x1 r1 rfl
    refine use1 (S.mono y1) e2 fun u H2 Hf2 x2 r2 => ?_
    obtain ⟨Hf2', Hb2, y2, m2, sb2, hs2, w2⟩ := key κb u _ _ H1 Hf1' H2 Hf2 x2 r2 rfl
    cases w1 with
    | lst l xs z1 hv hd h hx =>
      cases w2 with
      | lst l' xs' z2 hv' hd' h' hx' =>
        cases hd
        cases hd'
        subst hv hv'
        by_cases sl : (κa.still2 && κb.still2) = true
        · rw [Bool.and_eq_true] at sl
          have g1 := hs1 sl.1
          have g2 := hs2 sl.2
          subst g1 g2
          exact ⟨l, l', xs, xs', rfl, .inl ⟨Same.seq y2.sub0 h, Same.seq sb2 h', k _ H2 Hb2 Hb2 (y1.trans y2) sb2 (fun _ c o h => .inl h) (goes_zipL (Same.seq y2.f h) h' (RepAll.mono y2.f _ hx) hx')⟩⟩
        · have q1 : SqL X.K H2 l xs := Same.seq (sb1.trans y2.s) h
          have q2 : SqL X.K H2 l' xs' := Same.seq sb2 h'
          exact ⟨l, l', xs, xs', rfl, .inl ⟨q1, q2, k _ H2 Hf2' (only2 H2 l l') (y1.trans y2) only2_same (fun z => absurd z sl)
            (goes_zipL (sql_only q1 (by unfold only2; rw [if_pos (.inl rfl)])) (sql_only q2 (by unfold only2; rw [if_pos (.inr rfl)])) (RepAll.mono y2.f _ hx) hx')⟩⟩
      | tup _ _ _ _ hd' => cases hd'
      | str _ _ hd' => cases hd'
      | dct _ _ _ _ _ _ hd' => cases hd'
    | tup _ _ _ _ hd => cases hd
    | str _ _ hd => cases hd
    | dct _ _ _ _ _ _ hd => cases hd
  · rename_i zs zs'
    subst ev
    obtain ⟨Hf1', Hb1, y1, m1, sb1, hs1, w1⟩ := key κa v _ _ H Hf H1 Hf1 x1 r1 rfl
    refine use1 (S.mono y1) e2 fun u H2 Hf2 x2 r2 => ?_
    obtain ⟨Hf2', Hb2, y2, m2, sb2, hs2, w2⟩ := key κb u _ _ H1 Hf1' H2 Hf2 x2 r2 rfl
    cases w1 with
    | tup l xs z1 hv hd h hx =>
      cases w2 with
      | tup l' xs' z2 hv' hd' h' hx' =>
        cases hd
        cases hd'
        subst hv hv'
        by_cases sl : (κa.still2 && κb.still2) = true
        · rw [Bool.and_eq_true] at sl
          have g1 := hs1 sl.1
          have g2 := hs2 sl.2
          subst g1 g2
          exact ⟨l, l', xs, xs', rfl, .inr ⟨Same.sqt y2.sub0 h, Same.sqt sb2 h', k _ H2 Hb2 Hb2 (y1.trans y2) sb2 (fun _ c o h => .inl h) (goes_zipT (Same.sqt y2.f h) h' (RepAll.mono y2.f _ hx) hx')⟩⟩
        · have q1 : SqT X.K H2 l xs := Same.sqt (sb1.trans y2.s) h
          have q2 : SqT X.K H2 l' xs' := Same.sqt sb2 h'
          exact ⟨l, l', xs, xs', rfl, .inr ⟨q1, q2, k _ H2 Hf2' (only2 H2 l l') (y1.trans y2) only2_same (fun z => absurd z sl)
            (goes_zipT (sqt_only q1 (by unfold only2; rw [if_pos (.inl rfl)])) (sqt_only q2 (by unfold only2; rw [if_pos (.inr rfl)])) (RepAll.mono y2.f _ hx) hx')⟩⟩
      | lst _ _ _ _ hd' => cases hd'
      | str _ _ hd' => cases hd'
      | dct _ _ _ _ _ _ hd' => cases hd'
    | lst _ _ _ _ hd => cases hd
    | str _ _ hd => cases hd
    | dct _ _ _ _ _ _ hd => cases hd
end
end Orp

/-! Orp, part 17: comprehensions with any number of clauses. -/
namespace Orp
open PySem PySem.Spec PyProof.Rows L2
/-! ### the model's turn -/
def emitL (elt : Expr) (acc : Value) (env : Env) : Sem Unit := do let _ ← call (.builtin "list.append") [acc, ← eval elt env]
def emitD (kx vx : Expr) (acc : Value) (env : Env) : Sem Unit := do
  let kv ← eval kx env
  let vv ← holding [kv] (eval vx env)
  match acc with
  | .ref d => do
    standAt { kx.pos with endLine := vx.pos.endLine, endCol := vx.pos.endCol }
    holding [kv, vv] (dictSet d kv vv)
  | _ => unsupported "internal:dictcomp"
/-- one turn of a clause that is not the last -/
def turnO (e : Expr) (k : Nat) (t i i' : Expr) (ifs : List Expr) (it acc : Value) (env : Env) : Sem PySem.Fin := do
  standAt i.pos
  match ← pyNext it with
  | none => pure (.done .next)
  | some v =>
    letOwnedTupleGo t it v
    assign t env v
    let mut ok := true
    for c in ifs do
      if ok then ok ← isTrue c env (eval c env)
    if ok then
      let x ← eval i' env
      standAt i'.pos
      let x ← foldedSetIterable i' env x
      let _ ← runOwn (.compStart e (k + 1) (← holding [x] (pyIter x)) acc env) env
    again (.compLoop e k it acc env)
/-- .. of the last -/
def turnI (e : Expr) (emit : Sem Unit) (k : Nat) (t i : Expr) (ifs : List Expr) (it acc : Value) (env : Env) : Sem PySem.Fin := do
  standAt i.pos
  match ← pyNext it with
  | none => pure (.done .next)
  | some v =>
    letOwnedTupleGo t it v
    assign t env v
    let mut ok := true
    for c in ifs do
      if ok then ok ← isTrue c env (eval c env)
    if ok then
      emit
    again (.compLoop e k it acc env)
/-- a comprehension by its clauses and what the innermost does -/
structure CompX (e : Expr) (gens : List Comprehension) (emit : Value → Env → Sem Unit) : Prop where
  out : ∀ (k : Nat) (t i t' i' : Expr) (ifs ifs' : List Expr) (it acc : Value) (env : Env), gens[k]? = some ⟨t, i, ifs, 0⟩ → gens[k + 1]? = some ⟨t', i', ifs', 0⟩ → compTurn e k it acc env = turnO e k t i i' ifs it acc env
  inn : ∀ (k : Nat) (t i : Expr) (ifs : List Expr) (it acc : Value) (env : Env), gens[k]? = some ⟨t, i, ifs, 0⟩ → gens[k + 1]? = none → compTurn e k it acc env = turnI e (emit acc env) k t i ifs it acc env
  cls : clausesOf e = gens
  qL : ∀ (k : Nat) (it acc : Value) (env : Env), Code.quiet (.compLoop e k it acc env) = true
  dL : ∀ (prog : Program) (w : World) (k : Nat) (it acc : Value) (env : Env), (model prog w).den (.compLoop e k it acc env) = (compTurn e k it acc env).onRaise (fun x => do noteFrame x env; theTreesLotGoes x)
  uL : ∀ (A : Around) (k : Nat) (it acc : Value) (env : Env), A.under (.compLoop e k it acc env) = A
  dS : ∀ (prog : Program) (w : World) (k : Nat) (it acc : Value) (env : Env), (model prog w).den (.compStart e k it acc env) = (compStart e k it acc env).onRaise (fun x => do noteFrame x env; standAt theWindowsPlace)
  uS : ∀ (A : Around) (k : Nat) (it acc : Value) (env : Env), A.under (.compStart e k it acc env) = A
theorem compX_list {elt : Expr} {gens : List Comprehension} {scope : Scope} {pos : Pos} : CompX (.ListComp elt gens scope pos) gens (emitL elt) where
  out k t i t' i' ifs ifs' it acc env h1 h2 := by
    unfold compTurn turnO
    simp only [h1, h2]
    rfl
  inn k t i ifs it acc env h1 h2 := by
    unfold compTurn turnI emitL
    simp only [h1, h2]
    rfl
  cls := rfl
  qL _ _ _ _ := rfl
  dL _ _ _ _ _ _ := rfl
  uL _ _ _ _ _ := rfl
  dS _ _ _ _ _ _ := rfl
  uS _ _ _ _ _ := rfl
theorem compX_dict {kx vx : Expr} {gens : List Comprehension} {scope : Scope} {pos : Pos} : CompX (.DictComp kx vx gens scope pos) gens (emitD kx vx) where
  out k t i t' i' ifs ifs' it acc env h1 h2 := by
    unfold compTurn turnO
    simp only [h1, h2]
    rfl
  inn k t i ifs it acc env h1 h2 := by
    unfold compTurn turnI emitD
    simp only [h1, h2]
    rfl
  cls := rfl
  qL _ _ _ _ := rfl
  dL _ _ _ _ _ _ := rfl
  uL _ _ _ _ _ := rfl
  dS _ _ _ _ _ _ := rfl
  uS _ _ _ _ _ := rfl
section
variable {prog : Program} {w : World} {A : Around} {R : Result → Shared → Prop} {s : Shared} {e t i i' : Expr} {gens : List Comprehension} {emit : Value → Env → Sem Unit} {ifs : List Expr} {k : Nat} {it acc : Value} {env : Env}
abbrev NF : Value → Shared → Prop := fun _ _ => False
/-- the tests of a clause -/
abbrev testsC (ifs : List Expr) (env : Env) : Sem Bool := forIn ifs true fun c r => if r = true then do let ok ← isTrue c env (eval c env); pure (ForInStep.yield ok) else pure (ForInStep.yield r)
theorem loopO (X : CompX e gens emit) {t' : Expr} {ifs' : List Expr} (h1 : gens[k]? = some ⟨t, i, ifs, 0⟩) (h2 : gens[k + 1]? = some ⟨t', i', ifs', 0⟩) (hs : ∀ x, foldedSetIterable i' env x = pure x) (I : Nat → Shared → Prop)
    (turn : ∀ n s, I n s → wpAny (model prog w) A (pyNext it) (fun r s₁ => match r with
      | none => R (.ok .next) s₁
      | some v => wpAny (model prog w) A (letOwnedTupleGo t it v) (fun _ s₂ => wpAny (model prog w) A (assign t env v) (fun _ s₃ => wpAny (model prog w) A (testsC ifs env) (fun ok s₄ =>
          if ok = true then wpAny (model prog w) A (eval i' env) (fun x s₅ => wpAny (model prog w) A (pyIter x) (fun it1 s₆ =>
            codeAny (model prog w) A (.compStart e (k + 1) it1 acc env) (fun r s' => match r with
              | .ok _ => ∃ m, m < n ∧ I m s'
              | .error _ => False) s₆) NF s₅) NF s₄
          else ∃ m, m < n ∧ I m s₄) NF s₃) NF s₂) NF s₁) NF s)
    (n : Nat) (h : I n s) : codeAny (model prog w) A (.compLoop e k it acc env) R s := by
  refine codeAny_loop (X.qL _ _ _ _) I (fun n s hI => ?_) n h
  rw [X.uL, X.dL, X.out k t i t' i' ifs ifs' it acc env h1 h2]
  unfold turnO
  refine wpAny_noted (wpAny_bind (wpAny_standAt (wpAny_bind (wpAny_mono (turn n s hI) (fun r s₁ h₁ => ?_) fun _ _ z => False.elim z))))
  cases r with
  | none => exact wpAny_pure h₁
  | some v =>
    refine wpAny_bind (wpAny_mono h₁ (fun _ s₂ h₂ => ?_) fun _ _ z => False.elim z)
    refine wpAny_bind (wpAny_mono h₂ (fun _ s₃ h₃ => wpAny_bind (wpAny_mono h₃ (fun ok s₄ h₄ => ?_) fun _ _ z => False.elim z)) fun _ _ z => False.elim z)
    cases ok with
    | false => exact wpAny_pure ⟨rfl, h₄⟩
    | true =>
      refine wpAny_bind (wpAny_mono h₄ (fun x s₅ h₅ => ?_) fun _ _ z => False.elim z)
      refine wpAny_bind (wpAny_standAt (wpAny_bind (wpAny_of_eq (hs x) (wpAny_bind (wpAny_holding (wpAny_mono h₅ (fun it1 s₆ h₆ => ?_) fun _ _ z => False.elim z))))))
      refine wpAny_bind (wpAny_runOwn ?_)
      rw [Around.mark_none]
      refine codeAny_mono h₆ fun r s' hr => ?_
      cases r with
      | ok f =>
        first
          | exact wpAny_pure ⟨rfl, hr⟩
          | exact wpAny_bind (wpAny_pure (wpAny_pure ⟨rfl, hr⟩))
      | error e => exact hr.elim
theorem loopI (X : CompX e gens emit) (h1 : gens[k]? = some ⟨t, i, ifs, 0⟩) (h2 : gens[k + 1]? = none) (I : Nat → Shared → Prop)
    (turn : ∀ n s, I n s → wpAny (model prog w) A (pyNext it) (fun r s₁ => match r with
      | none => R (.ok .next) s₁
      | some v => wpAny (model prog w) A (letOwnedTupleGo t it v) (fun _ s₂ => wpAny (model prog w) A (assign t env v) (fun _ s₃ => wpAny (model prog w) A (testsC ifs env) (fun ok s₄ =>
          if ok = true then wpAny (model prog w) A (emit acc env) (fun _ s' => ∃ m, m < n ∧ I m s') NF s₄
          else ∃ m, m < n ∧ I m s₄) NF s₃) NF s₂) NF s₁) NF s)
    (n : Nat) (h : I n s) : codeAny (model prog w) A (.compLoop e k it acc env) R s := by
  refine codeAny_loop (X.qL _ _ _ _) I (fun n s hI => ?_) n h
  rw [X.uL, X.dL, X.inn k t i ifs it acc env h1 h2]
  unfold turnI
  refine wpAny_noted (wpAny_bind (wpAny_standAt (wpAny_bind (wpAny_mono (turn n s hI) (fun r s₁ h₁ => ?_) fun _ _ z => False.elim z))))
  cases r with
  | none => exact wpAny_pure h₁
  | some v =>
    refine wpAny_bind (wpAny_mono h₁ (fun _ s₂ h₂ => ?_) fun _ _ z => False.elim z)
    refine wpAny_bind (wpAny_mono h₂ (fun _ s₃ h₃ => wpAny_bind (wpAny_mono h₃ (fun ok s₄ h₄ => ?_) fun _ _ z => False.elim z)) fun _ _ z => False.elim z)
    cases ok with
    | false => exact wpAny_pure ⟨rfl, h₄⟩
    | true => exact wpAny_bind (wpAny_mono h₄ (fun _ s₅ h₅ => wpAny_pure ⟨rfl, h₅⟩) fun _ _ z => False.elim z)
/-- a clause's start -/
theorem startC (X : CompX e gens emit) (h1 : gens[k]? = some ⟨t, i, ifs, 0⟩) (h0 : codeAny (model prog w) A (.compLoop e k it acc env) R s)
    (h : wpAny (model prog w) A (pyIter it) (fun it' s' => codeAny (model prog w) A (.compLoop e k it' acc env) R s') NF s) : codeAny (model prog w) A (.compStart e k it acc env) R s := by
  refine codeAny_of_tree ?_
  rw [X.uS, X.dS]
  refine wpAny_notedAt ?_
  unfold compStart
  rw [X.cls, h1]
  show wpAny _ _ (ask >>= _) _ _ s
  refine wpAny_bind (wpAny_askSetting (wpAny_ite ?_))
  split
  · first
      | exact wpAny_bind (wpAny_pure (wpAny_pure (And.intro (X.qL _ _ _ _) h0)))
      | exact wpAny_pure (And.intro (X.qL _ _ _ _) h0)
  · refine wpAny_bind (wpAny_rule ?_)
    show wpAny _ _ (standAt i.pos >>= _) _ _ s
    exact wpAny_bind (wpAny_standAt (wpAny_bind (wpAny_mono h (fun it' s' h' => wpAny_pure (And.intro (X.qL _ _ _ _) h')) fun _ _ z => False.elim z)))
end
end Orp

/-! Orp, part 18: comprehensions, the clauses. -/
namespace Orp
open PySem PySem.Spec PyProof.Rows L2
/-! ### the evaluator's fold -/
def foldG {α β : Type} (f : β → α → Option α) : List β → α → Option α
  | [], acc => some acc
  | d :: ds, acc => (f d acc).bind (foldG f ds)
/-- one clause's turn -/
def stepG {α : Type} (Φ : Fn0) (t : Tg) (q : Ep) (ρ : Rho) (g : Rho → α → Option α) : D → α → Option α :=
  fun d acc => (bindT t d ρ).bind fun ρ' => (evX Φ q ρ').bind fun x => (truthF x).bind fun b => if b = true then g ρ' acc else some acc
def evG {α : Type} (Φ : Fn0) : Cl → Rho → (Rho → α → Option α) → α → Option α
  | .nil, ρ, k, acc => k ρ acc
  | .cons t s q r, ρ, k, acc => (evW Φ s ρ).bind fun ds => foldG (stepG Φ t q ρ fun ρ' a => evG Φ r ρ' k a) ds acc
theorem foldF_eq (f : D → List (D × D) → Option (List (D × D))) : ∀ (ds : List D) (acc : List (D × D)), foldF f ds acc = foldG f ds acc
  | [], _ => rfl
  | d :: ds, acc => by
    rw [foldF, foldG]
    cases f d acc with
    | none => rfl
    | some a => exact foldF_eq f ds a
theorem evD_eq (Φ : Fn0) : ∀ (c : Cl) (ρ : Rho) (k : Rho → List (D × D) → Option (List (D × D))) (acc : List (D × D)), evD Φ c ρ k acc = evG Φ c ρ k acc
  | .nil, ρ, k, acc => by rw [evD, evG]
  | .cons t s q r, ρ, k, acc => by
    rw [evD, evG]
    congr 1
    funext ds
    rw [foldF_eq]
    congr 1
    funext d acc
    unfold stepG
    congr 1
    funext ρ'
    congr 1
    funext x
    congr 1
    funext b
    cases b with
    | false => rfl
    | true => simp only [if_true]; exact evD_eq Φ r ρ' k acc
/-- the items, put behind what is there -/
def pushG (f : Rho → Option (List D)) : Rho → List D → Option (List D) := fun ρ a => if a.length < BIG then (f ρ).map fun xs => a ++ xs else none
theorem foldG_flat {f : D → Option (List D)} {g : D → List D → Option (List D)} {n : Nat} (h : ∀ d acc out, f d = some out → (acc ++ out).length ≤ n → g d acc = some (acc ++ out)) :
    ∀ (ds : List D) (acc out : List D), flatF f ds = some out → (acc ++ out).length ≤ n → foldG g ds acc = some (acc ++ out)
  | [], acc, out, e, _ => by
    rw [flatF] at e
    cases e
    rw [foldG, List.append_nil]
  | d :: ds, acc, out, e, hl => by
    rw [flatF] at e
    obtain ⟨xs, e1, e⟩ := Option.bind_eq_some_iff.mp e
    obtain ⟨ys, e2, rfl⟩ := Option.map_eq_some_iff.mp e
    have hl1 : (acc ++ xs).length ≤ n := by simp only [List.length_append] at hl ⊢; omega
    rw [foldG, h d acc xs e1 hl1]
    show foldG g ds (acc ++ xs) = _
    rw [foldG_flat h ds (acc ++ xs) ys e2 (by rw [List.append_assoc]; exact hl), List.append_assoc]
theorem evC_evG (Φ : Fn0) {elt : Ep} : ∀ (c : Cl) (ρ : Rho) (acc out : List D), evC Φ c ρ (fun ρ' => (evX Φ elt ρ').map fun d => [d]) = some out → (acc ++ out).length ≤ BIG →
    evG Φ c ρ (pushG fun ρ' => (evX Φ elt ρ').map fun d => [d]) acc = some (acc ++ out)
  | .nil, ρ, acc, out, e, hl => by
    rw [evC] at e
    rw [evG, pushG, e]
    obtain ⟨d, _, rfl⟩ := Option.map_eq_some_iff.mp e
    rw [if_pos (by simp only [List.length_append, List.length_cons, List.length_nil] at hl; omega)]
    rfl
  | .cons t s q r, ρ, acc, out, e, hl => by
    rw [evC] at e
    rw [evG]
    obtain ⟨ds, e1, e⟩ := Option.bind_eq_some_iff.mp e
    rw [e1]
    show foldG _ ds acc = _
    refine foldG_flat (n := BIG) (fun d acc out h hl => ?_) ds acc out e hl
    unfold stepG
    obtain ⟨ρ', h1, h⟩ := Option.bind_eq_some_iff.mp h
    obtain ⟨x, h2, h⟩ := Option.bind_eq_some_iff.mp h
    obtain ⟨b, h3, h⟩ := Option.bind_eq_some_iff.mp h
    rw [h1]
    show ((evX Φ q ρ').bind _) = _
    rw [h2]
    show ((truthF x).bind _) = _
    rw [h3]
    cases b with
    | false => cases h; rw [List.append_nil]; rfl
    | true => exact evC_evG Φ r ρ' acc out h hl
/-! ### heaps that change at one new object -/
structure ExtD (D : Addr) (H Hf H' Hf' : Hp) : Prop where
  s : ∀ b u, b ≠ D → H b = some u → H' b = some u
  f : Same Hf Hf'
  sub : Same Hf' H'
  n : ∀ a, H a ≠ none → Hf a = none → Hf' a = none
  d : H D ≠ none → H' D ≠ none
theorem ExtD.of {D : Addr} {H Hf H' Hf' : Hp} (e : Ext H Hf H' Hf') : ExtD D H Hf H' Hf' := ⟨fun b u _ q => e.s b u q, e.f, e.sub, e.n, fun h z => h (e.s.free z)⟩
theorem ExtD.there {D : Addr} {H Hf H' Hf' : Hp} (e : ExtD D H Hf H' Hf') {a : Addr} (h : H a ≠ none) : H' a ≠ none := by
  by_cases z : a = D
  · rw [z] at h ⊢; exact e.d h
  · cases q : H a with
    | none => exact absurd q h
    | some u => rw [e.s a u z q]; exact fun z => nomatch z
theorem ExtD.trans {D : Addr} {H Hf H1 Hf1 H2 Hf2 : Hp} (a : ExtD D H Hf H1 Hf1) (b : ExtD D H1 Hf1 H2 Hf2) : ExtD D H Hf H2 Hf2 :=
  ⟨fun c u hc q => b.s c u hc (a.s c u hc q), a.f.trans b.f, b.sub, fun c h1 h2 => b.n c (a.there h1) (a.n c h1 h2), fun h => b.d (a.d h)⟩
/-- from before the object stood -/
theorem ExtD.ext {D : Addr} {H Hf H1 Hf1 H2 Hf2 : Hp} (a : Ext H Hf H1 Hf1) (h : H D = none) (b : ExtD D H1 Hf1 H2 Hf2) : Ext H Hf H2 Hf2 :=
  ⟨fun c u q => b.s c u (ne_of_none q h) (a.s c u q), a.f.trans b.f, b.sub, fun c h1 h2 => b.n c (fun z => h1 (a.s.free z)) (a.n c h1 h2)⟩
theorem ExtD.same {D : Addr} {H Hf H' Hf' Hb : Hp} (e : ExtD D H Hf H' Hf') (h : Same Hb H) (hd : Hb D = none) : Same Hb H' := fun b u q => e.s b u (ne_of_none q hd) (h b u q)
/-! ### slots in a block: nothing is the def's to change -/
def lockS : Stat → Stat
  | .own => .lck
  | .dI => .dIl
  | .dT => .dTl
  | s => s
def noMut (st : List Stat) : Prop := ∀ (i : Nat) (s : Stat), st[i]? = some s → s.mut = false
theorem noMut_lock (st : List Stat) : noMut (st.map lockS) := fun i s h => by
  rw [List.getElem?_map] at h
  obtain ⟨s', _, rfl⟩ := Option.map_eq_some_iff.mp h
  cases s' <;> rfl
/-- all that is not frozen is locked -/
def lkAll (H Hf : Hp) : Hp := fun a => match Hf a with
  | none => H a
  | some _ => none
theorem lkAll_at {H Hf : Hp} {a : Addr} (h : Hf a = none) : lkAll H Hf a = H a := by unfold lkAll; rw [h]
theorem SOk.lockAll {K : Fg} {σ : L2.St} {H Hf Lk : Hp} {st : List Stat} {ρ : Rho} (S : SOk K σ H Hf Lk st ρ) : SOk K σ H Hf (lkAll H Hf) (st.map lockS) ρ where
  ls := by rw [List.length_map]; exact S.ls
  lr := S.lr
  sub := S.sub
  lk := fun a u q => by
    unfold lkAll at q
    split at q
    · exact q
    · cases q
  dj := fun a q => by
    cases h : Hf a with
    | none => rfl
    | some u => exact absurd (by unfold lkAll; rw [h]) q
  slot := fun i s o d h1 h2 h3 => by
    rw [List.getElem?_map] at h1
    obtain ⟨s', h0, rfl⟩ := Option.map_eq_some_iff.mp h1
    have q := S.slot i s' o d h0 h2 h3
    have up : ∀ {a : Addr} {u : HO}, Lk a = some u → lkAll H Hf a = some u := fun {a u} e => by
      rw [lkAll_at (S.dj a (by rw [e]; exact fun z => nomatch z))]
      exact S.lk _ _ e
    cases s' with
    | dead => trivial
    | sh => exact q
    | own => obtain ⟨a, xs, ds, h1, h2, h3, h4, h5, h6⟩ := q; exact ⟨a, xs, ds, h1, h2, by rw [lkAll_at h4]; exact h3, h6⟩
    | lck => obtain ⟨a, xs, ds, h1, h2, h3, h6⟩ := q; exact ⟨a, xs, ds, h1, h2, up h3, h6⟩
    | dI => obtain ⟨a, es, ep, ds, h1, h2, h3, h4, h5, h6⟩ := q; exact ⟨a, es, ep, ds, h1, h2, by rw [lkAll_at h4]; exact h3, h6⟩
    | dT => obtain ⟨a, es, ep, ds, h1, h2, h3, h4, h5, h6⟩ := q; exact ⟨a, es, ep, ds, h1, h2, by rw [lkAll_at h4]; exact h3, h6⟩
    | dIl => obtain ⟨a, es, ep, ds, h1, h2, h3, h6⟩ := q; exact ⟨a, es, ep, ds, h1, h2, up h3, h6⟩
    | dTl => obtain ⟨a, es, ep, ds, h1, h2, h3, h6⟩ := q; exact ⟨a, es, ep, ds, h1, h2, up h3, h6⟩
  ne := fun i j a s t _ h1 _ m1 _ _ _ => by
    have := noMut_lock st i s h1
    rw [m1] at this
    cases this
theorem SOk.monoD {K : Fg} {D : Addr} {σ : L2.St} {H Hf Lk H' Hf' : Hp} {st : List Stat} {ρ : Rho} (S : SOk K σ H Hf Lk st ρ) (nm : noMut st) (hl : Lk D = none) (e : ExtD D H Hf H' Hf') : SOk K σ H' Hf' Lk st ρ where
  ls := S.ls
  lr := S.lr
  sub := e.sub
  lk := fun a u q => e.s a u (ne_of_none q hl) (S.lk _ _ q)
  dj := fun a q => e.n a (fun z => q (by cases w : Lk a with | none => rfl | some u => rw [S.lk _ _ w] at z; cases z)) (S.dj a q)
  slot := fun i s o d h1 h2 h3 => by
    have q := S.slot i s o d h1 h2 h3
    have m := nm i s h1
    cases s with
    | dead => trivial
    | sh => obtain ⟨v, h1, h2⟩ := q; exact ⟨v, h1, Rep.mono e.f _ h2⟩
    | own => cases m
    | lck => obtain ⟨a, xs, ds, h1, h2, h3, h6⟩ := q; exact ⟨a, xs, ds, h1, h2, h3, RepAll.mono e.f _ h6⟩
    | dI => cases m
    | dT => cases m
    | dIl => obtain ⟨a, es, ep, ds, h1, h2, h3, h6⟩ := q; exact ⟨a, es, ep, ds, h1, h2, h3, h6.mono e.f⟩
    | dTl => obtain ⟨a, es, ep, ds, h1, h2, h3, h6⟩ := q; exact ⟨a, es, ep, ds, h1, h2, h3, h6.mono e.f⟩
  ne := S.ne
/-! ### targets -/
def Tg.slots : Tg → List Nat
  | .one i => [i]
  | .tup is => is
def setSs (is : List Nat) (st : List Stat) : List Stat := is.foldl (fun st i => st.set i .sh) st
def setVs : List Nat → List V → L2.St → L2.St
  | i :: is, v :: vs, σ => setVs is vs (σ.set i (some v))
  | _, _, σ => σ
def gTg (K : Fg) : Tg → TG
  | .one i => gName i
  | .tup is => gTup K is.length fun vs σ H Q => vs.length = is.length ∧ Q (setVs is vs σ) H
theorem SOk.set {K : Fg} {σ : L2.St} {H Hf Lk : Hp} {st : List Stat} {ρ : Rho} (S : SOk K σ H Hf Lk st ρ) (i : Nat) {v : V} {d : D} (r : Rep K Hf v d) : SOk K (σ.set i (some v)) H Hf Lk (st.set i .sh) (ρ.set i d) where
  ls := by rw [List.length_set, List.length_set]; exact S.ls
  lr := by rw [List.length_set, List.length_set]; exact S.lr
  sub := S.sub
  lk := S.lk
  dj := S.dj
  slot := fun j s o d' h1 h2 h3 => by
    by_cases e : i = j
    · subst e
      have hl : i < st.length := by have := (List.getElem?_eq_some_iff.mp h1).1; rwa [List.length_set] at this
      rw [List.getElem?_set_self hl] at h1
      cases h1
      rw [List.getElem?_set_self (by rw [← S.ls]; exact hl)] at h2
      rw [List.getElem?_set_self (by rw [S.lr, ← S.ls]; exact hl)] at h3
      cases h2
      cases h3
      exact ⟨v, rfl, r⟩
    · rw [List.getElem?_set_ne e] at h1 h2 h3
      exact S.slot j s o d' h1 h2 h3
  ne := fun j k a s t hjk h1 h2 m1 m2 e1 e2 => by
    have n1 : i ≠ j := fun e => by
      subst e
      have hl : i < st.length := by have := (List.getElem?_eq_some_iff.mp h1).1; rwa [List.length_set] at this
      rw [List.getElem?_set_self hl] at h1
      cases h1
      cases m1
    have n2 : i ≠ k := fun e => by
      subst e
      have hl : i < st.length := by have := (List.getElem?_eq_some_iff.mp h2).1; rwa [List.length_set] at this
      rw [List.getElem?_set_self hl] at h2
      cases h2
      cases m2
    rw [List.getElem?_set_ne n1] at h1 e1
    rw [List.getElem?_set_ne n2] at h2 e2
    exact S.ne j k a s t hjk h1 h2 m1 m2 e1 e2
theorem SOk.sets {K : Fg} {H Hf Lk : Hp} : ∀ {is : List Nat} {vs : List V} {ds : List D} {σ : L2.St} {st : List Stat} {ρ ρ' : Rho}, SOk K σ H Hf Lk st ρ → RepAll K Hf vs ds → setAll is ds ρ = some ρ' →
    vs.length = is.length ∧ SOk K (setVs is vs σ) H Hf Lk (setSs is st) ρ'
  | [], _, _, σ, st, ρ, ρ', S, .nil, e => by
    rw [setAll] at e
    cases e
    exact ⟨rfl, S⟩
  | i :: is, v :: vs, d :: ds, σ, st, ρ, ρ', S, .cons r t, e => by
    rw [setAll] at e
    obtain ⟨h1, h2⟩ := SOk.sets (S.set i r) t e
    exact ⟨by rw [List.length_cons, List.length_cons, h1], h2⟩
  | [], _, _, σ, st, ρ, ρ', S, .cons _ _, e => by cases e
  | _ :: _, _, _, σ, st, ρ, ρ', S, .nil, e => by cases e
/-- slots that a target leaves -/
theorem setVs_ne : ∀ {is : List Nat} {vs : List V} {σ : L2.St} {j : Nat}, j ∉ is → (setVs is vs σ)[j]? = σ[j]?
  | [], vs, σ, j, _ => by cases vs <;> rfl
  | _ :: _, [], σ, j, _ => rfl
  | i :: is, v :: vs, σ, j, h => by
    rw [setVs, setVs_ne (fun z => h (List.mem_cons_of_mem _ z)), List.getElem?_set_ne (fun e => h (by rw [e]; exact List.mem_cons_self))]
theorem setVs_len : ∀ {is : List Nat} {vs : List V} {σ : L2.St}, (setVs is vs σ).length = σ.length
  | [], vs, σ => by cases vs <;> rfl
  | _ :: _, [], σ => rfl
  | i :: is, v :: vs, σ => by rw [setVs, setVs_len, List.length_set]
/-- what a target leaves behind -/
def TgQ (K : Fg) (H Hf Lk : Hp) (t : Tg) (st : List Stat) (ρ' : Rho) (σ : L2.St) : L2.St → Hp → Prop := fun σ2 H2 => H2 = H ∧ SOk K σ2 H Hf Lk (setSs t.slots st) ρ' ∧ σ2.length = σ.length ∧ ∀ j, j ∉ t.slots → σ2[j]? = σ[j]?
theorem gTg_bind {K : Fg} {H Hf Lk : Hp} {σ : L2.St} {st : List Stat} {ρ ρ' : Rho} {t : Tg} {tup : Bool} {x : V} {d : D} (S : SOk K σ H Hf Lk st ρ) (b : BindV K H Hf tup x d) (ht : tup = true → ∃ is, t = .tup is) (e : bindT t d ρ = some ρ') :
    gTg K t x σ H (TgQ K H Hf Lk t st ρ' σ) := by
  cases t with
  | one i =>
    cases tup with
    | true => obtain ⟨is, z⟩ := ht rfl; cases z
    | false =>
      have r : Rep K Hf x d := b
      cases e
      exact ⟨rfl, S.set i r, by rw [List.length_set], fun j hj => List.getElem?_set_ne (fun z => hj (by rw [z]; exact List.mem_cons_self))⟩
  | tup is =>
    cases d <;> simp only [bindT, reduceCtorEq] at e
    rename_i ds
    have key : ∃ a xs, x = .ref a ∧ SqT K H a xs ∧ RepAll K Hf xs ds := by
      cases tup with
      | true =>
        obtain ⟨a, xs, es, h1, h2, h3, h4⟩ := (show ∃ a xs es, x = .ref a ∧ PyData.tuple ds = .tuple es ∧ SqT K H a xs ∧ RepAll K Hf xs es from b)
        cases h2
        exact ⟨a, xs, h1, h3, h4⟩
      | false =>
        have r : Rep K Hf x (.tuple ds) := b
        cases r with
        | tup h1 h2 => exact ⟨_, _, rfl, (h1.mono S.sub).sqt, h2⟩
    obtain ⟨a, xs, rfl, h1, h2⟩ := key
    obtain ⟨h3, h4⟩ := SOk.sets S h2 e
    exact ⟨a, xs, rfl, h1, h3, h3, rfl, h4, setVs_len, fun j hj => setVs_ne hj⟩
end Orp

/-! Orp, part 19: comprehensions, the loops. -/
namespace Orp
open PySem PySem.Spec PyProof.Rows L2
def slotsC : Cl → List Nat
  | .nil => []
  | .cons t _ _ r => t.slots ++ slotsC r
/-- what a turn does, up to what follows the tests -/
def TurnW (M : Model) (A : Around) (env : Env) (t : Expr) (ifs : List Expr) (it : Value) (TW : (Shared → Prop) → Shared → Prop) (R : Result → Shared → Prop) (I : Nat → Shared → Prop) (n : Nat) (s : Shared) : Prop :=
  wpAny M A (pyNext it) (fun r s₁ => match r with
    | none => R (.ok .next) s₁
    | some v => wpAny M A (letOwnedTupleGo t it v) (fun _ s₂ => wpAny M A (assign t env v) (fun _ s₃ => wpAny M A (testsC ifs env) (fun ok s₄ =>
        if ok = true then TW (fun s' => ∃ m, m < n ∧ I m s') s₄ else ∃ m, m < n ∧ I m s₄) NF s₃) NF s₂) NF s₁) NF s
/-- the wanted end of a clause's loop -/
def EndC (B : Cx) (pins : List (Addr × Obj)) (σ : L2.St) (D : Addr) (H Hf : Hp) {α : Type} (Acc : Hp → Hp → α → Prop) (a : α) (s' : Shared) : Prop :=
  ∃ H' Hf', Inv B pins σ H' s' ∧ ExtD D H Hf H' Hf' ∧ Acc H' Hf' a
section
variable {B : Cx} {Φ : Fn0} {D : Addr} {α : Type} {Acc : Hp → Hp → α → Prop}
/-- one clause's loop, given what follows its tests -/
theorem level {Lk : Hp} {st : List Stat} {t : Tg} {q : Ep} {tg : Expr} {ifs : List Expr} {later : List Nat} {g : Rho → α → Option α} {TW : (Shared → Prop) → Shared → Prop} {c : Code}
    (hc : B.calm = true) (hx : B.xe = NF) (amono : ∀ H Hf H' Hf' a, Acc H Hf a → Ext H Hf H' Hf' → Acc H' Hf' a) (aD : ∀ H Hf a, Acc H Hf a → H D ≠ none ∧ Hf D = none)
    (tmono : ∀ P P' s, TW P s → (∀ s', P s' → P' s') → TW P' s)
    (pg : PG B tg (gTg B.K t)) (pt : PTs B ifs (tT B.K Φ (setSs t.slots st) q)) (hd : (t.slots ++ later).Nodup)
    (htail : ∀ pins s σ H Hf ρ a a', Inv B pins σ H s → SOk B.K σ H Hf Lk (setSs t.slots st) ρ → Acc H Hf a → g ρ a = some a' → (∀ i ∈ later, σ[i]? = some none) → TW (EndC B pins σ D H Hf Acc a') s)
    {pins : List (Addr × Obj)} {s : Shared} {σ : L2.St} {H Hf Hb Hfb : Hp} {ρ : Rho} {it : Addr} {fp : List Addr} {tn : Nat → Heap → Prop} {J : It} {tup : Bool} {ds : List Orp.D} {a a' : α}
    (I : Inv B pins σ H s) (T : Turn B.prog B.w B.K tg J fp it tn) (st0 : tn 0 s.heap) (nf : ∀ b ∈ fp, H b = none)
    (stat : ∀ {σ' : L2.St} {H' : Hp} {s' : Shared}, Inv B pins σ' H' s' → (∀ b ∈ fp, H' b = none) → ∀ b ∈ fp, FpOk B pins H' b)
    (go : Goes B.K Hb Hfb J tup ds) (htg : tup = true → ∃ is, t = .tup is) (sb : Same Hb H) (sf : Same Hfb Hf) (hbD : Hb D = none) (S : SOk B.K σ H Hf Lk st ρ) (nm : noMut st) (hl : Lk D = none) (ha : Acc H Hf a)
    (ev : foldG (stepG Φ t q ρ g) ds a = some a') (hn : ∀ i ∈ t.slots ++ later, σ[i]? = some none)
    (L : ∀ I : Nat → Shared → Prop, (∀ n s, I n s → TurnW (model B.prog B.w) B.A B.env tg ifs (.ref it) TW (fun r s' => r = .ok .next ∧ EndC B pins σ D H Hf Acc a' s') I n s) → ∀ n s, I n s → codeAny (model B.prog B.w) B.A c (fun r s' => r = .ok .next ∧ EndC B pins σ D H Hf Acc a' s') s) :
    codeAny (model B.prog B.w) B.A c (fun r s' => r = .ok .next ∧ EndC B pins σ D H Hf Acc a' s') s := by
  refine L (fun n s' => ∃ i H' Hf' a1, n = ds.length - i ∧ i ≤ ds.length ∧ Inv B pins σ H' s' ∧ tn i s'.heap ∧ (∀ b ∈ fp, H' b = none) ∧ ExtD D H Hf H' Hf' ∧ Acc H' Hf' a1 ∧ foldG (stepG Φ t q ρ g) (ds.drop i) a1 = some a') ?_ ds.length s
    ⟨0, H, Hf, a, by omega, Nat.zero_le _, I, st0, nf, ExtD.of (Ext.refl S.sub), ha, by rw [List.drop_zero]; exact ev⟩
  rintro n s5 ⟨i, H5, Hf5, a1, rfl, hi, I5, st5, n5, x5, ha5, ev5⟩
  obtain ⟨gs, gi⟩ := go H5 Hf5 (x5.same sb hbD) (sf.trans x5.f) x5.sub i hi
  unfold TurnW
  by_cases hlt : i < ds.length
  · obtain ⟨gg, gy⟩ := gi ds[i] (List.getElem?_eq_getElem hlt)
    rw [List.drop_eq_getElem_cons hlt, foldG] at ev5
    obtain ⟨a2, e1, ev6⟩ := Option.bind_eq_some_iff.mp ev5
    unfold stepG at e1
    obtain ⟨ρ', e2, e1⟩ := Option.bind_eq_some_iff.mp e1
    obtain ⟨y, e3, e1⟩ := Option.bind_eq_some_iff.mp e1
    obtain ⟨b, e4, e1⟩ := Option.bind_eq_some_iff.mp e1
    refine wpAny_mono (T.item B rfl rfl rfl hc i pins s5 σ H5 NF I5 (stat I5 n5) st5 gg) (fun r s6 ⟨u, hr, h6⟩ => ?_) fun _ _ z => z
    subst hr
    refine wpAny_mono h6 (fun _ s7 ⟨x, H7, I7, r7, y7, st7, n7⟩ => ?_) fun _ _ z => z
    obtain ⟨Hf7, x7, bv⟩ := gy x H7 y7
    have I7' := I7.pinned (stat I7 n7) (T.obj _ _ st7)
    have S7 := (S.monoD nm hl x5).mono x7
    have pgr := pg.run _ s7 σ H7 x u _ I7' r7 (gTg_bind S7 bv htg e2)
    rw [hx] at pgr
    refine wpAny_mono pgr (fun _ s8 ⟨σ8, H8, I8, e8, S8, l8, k8⟩ => ?_) fun _ _ z => z
    subst e8
    have ptr := pt.run _ s8 σ8 H8 (fun b' H' => b' = b ∧ ∃ Hf', Ext H8 Hf7 H' Hf') I8 ⟨Hf7, Lk, ρ', b, S8, Option.bind_eq_some_iff.mpr ⟨y, e3, e4⟩, fun H' Hf' x => ⟨rfl, Hf', x⟩⟩
    rw [hx] at ptr
    refine wpAny_mono ptr (fun b9 s9 ⟨H9, I9, eb, Hf9, x9⟩ => ?_) fun _ _ z => z
    subst eb
    have a9 : Acc H9 Hf9 a1 := amono _ _ _ _ _ (amono _ _ _ _ _ ha5 x7) x9
    have D9 : ExtD D H Hf H9 Hf9 := (x5.trans (ExtD.of x7)).trans (ExtD.of x9)
    -- the turn's end
    have fin : ∀ s' H' Hf', Inv B (pins ++ pinsAt fp s7.heap) σ8 H' s' → ExtD D H9 Hf9 H' Hf' → Acc H' Hf' a2 → ∃ m, m < ds.length - i ∧ ∃ i H' Hf' a1, m = ds.length - i ∧ i ≤ ds.length ∧ Inv B pins σ H' s' ∧ tn i s'.heap ∧ (∀ b ∈ fp, H' b = none) ∧ ExtD D H Hf H' Hf' ∧ Acc H' Hf' a1 ∧ foldG (stepG Φ t q ρ g) (ds.drop i) a1 = some a' := by
      intro s' H' Hf' I' xx aa
      have pin' : ∀ b ∈ fp, ∀ o, s7.heap.get? b = some o → s'.heap.get? b = some o ∧ H' b = none := fun b hb o e =>
        ⟨(I'.pin (b, o) (List.mem_append_right _ (List.mem_append_right _ (mem_pinsAt hb e)))).1, (I'.pin (b, o) (List.mem_append_right _ (List.mem_append_right _ (mem_pinsAt hb e)))).2.1⟩
      refine ⟨ds.length - (i + 1), by omega, i + 1, H', Hf', a2, rfl, hlt, (I'.unpinned (pins := pins)).weak l8.symm (fun j v e => ?_), T.keep _ _ _ st7 fun b hb o e => (pin' b hb o e).1, fun b hb => ?_, D9.trans xx, aa, ev6⟩
      · rw [k8 j fun hj => ?_]
        · exact e
        · rw [hn j (List.mem_append_left _ hj)] at e
          cases e
      · obtain ⟨o, e, _⟩ := T.obj _ _ st7 b hb
        exact (pin' b hb o e).2
    cases b9 with
    | false =>
      simp only [Bool.false_eq_true, if_false] at e1 ⊢
      cases e1
      exact fin s9 H9 Hf9 I9 (ExtD.of (Ext.refl x9.sub)) a9
    | true =>
      simp only [if_true] at e1 ⊢
      refine tmono _ _ _ (htail _ s9 σ8 H9 Hf9 ρ' a1 a2 I9 (S8.mono x9) a9 e1 fun j hj => ?_) fun s' ⟨H', Hf', I', xx, aa⟩ => fin s' H' Hf' I' xx aa
      rw [k8 j fun z => (List.nodup_append.mp hd).2.2 _ z _ hj rfl]
      exact hn j (List.mem_append_right _ hj)
  · have e : i = ds.length := by omega
    subst e
    rw [List.drop_length, foldG] at ev5
    cases ev5
    refine wpAny_mono (T.done B rfl rfl rfl hc _ pins s5 σ H5 NF I5 (stat I5 n5) st5 (gs rfl)) (fun r s6 ⟨hr, I6⟩ => ?_) fun _ _ z => z
    subst hr
    exact ⟨rfl, H5, Hf5, I6, x5, ha5⟩
end
/-- the clauses behind the first, in the block -/
def ClP (B : Cx) (Φ : Fn0) : List Stat → Cl → List Comprehension → List Stat → Prop
  | st, .nil, [], st' => st' = st
  | st, .cons t w q r, ⟨tg, iter, ifs, as⟩ :: gs, st' => as = 0 ∧ isPlain iter = true ∧ PI B tg iter (tW B.K Φ st true w) ∧ PG B tg (gTg B.K t) ∧ (isTupW w = true → ∃ is, t = .tup is) ∧ PTs B ifs (tT B.K Φ (setSs t.slots st) q) ∧ ClP B Φ (setSs t.slots st) r gs st'
  | _, _, _, _ => False
theorem noMut_set {st : List Stat} (h : noMut st) (i : Nat) : noMut (st.set i .sh) := fun j s e => by
  by_cases z : i = j
  · subst z
    have hl : i < st.length := by have := (List.getElem?_eq_some_iff.mp e).1; rwa [List.length_set] at this
    rw [List.getElem?_set_self hl] at e
    cases e
    rfl
  · rw [List.getElem?_set_ne z] at e
    exact h j s e
theorem noMut_sets : ∀ {is : List Nat} {st : List Stat}, noMut st → noMut (setSs is st)
  | [], _, h => h
  | i :: is, st, h => noMut_sets (is := is) (noMut_set h i)
section
variable {B : Cx} {Φ : Fn0} {D : Addr} {α : Type} {Acc : Hp → Hp → α → Prop} {e : Expr} {gens : List Comprehension} {emit : Value → Env → Sem Unit}
theorem run_cl {Lk : Hp} {stE : List Stat} {kf : Rho → α → Option α} (X : CompX e gens emit)
    (hc : B.calm = true) (hx : B.xe = NF) (amono : ∀ H Hf H' Hf' a, Acc H Hf a → Ext H Hf H' Hf' → Acc H' Hf' a) (aD : ∀ H Hf a, Acc H Hf a → H D ≠ none ∧ Hf D = none) (hl : Lk D = none)
    (hemit : ∀ pins s σ H Hf ρ a a', Inv B pins σ H s → SOk B.K σ H Hf Lk stE ρ → Acc H Hf a → kf ρ a = some a' → wpAny (model B.prog B.w) B.A (emit (.ref D) B.env) (fun _ s' => EndC B pins σ D H Hf Acc a' s') NF s) :
    ∀ (r : Cl) (k : Nat) (gs : List Comprehension) (st : List Stat) (t : Tg) (q : Ep) (tg iter : Expr) (ifs : List Expr), gens.drop k = ⟨tg, iter, ifs, 0⟩ :: gs → PG B tg (gTg B.K t) → PTs B ifs (tT B.K Φ (setSs t.slots st) q) → ClP B Φ (setSs t.slots st) r gs stE → (t.slots ++ slotsC r).Nodup →
    ∀ (pins : List (Addr × Obj)) (s : Shared) (σ : L2.St) (H Hf Hb Hfb : Hp) (ρ : Rho) (it : Addr) (fp : List Addr) (tn : Nat → Heap → Prop) (J : It) (tup : Bool) (ds : List Orp.D) (a a' : α),
    Inv B pins σ H s → Turn B.prog B.w B.K tg J fp it tn → tn 0 s.heap → (∀ b ∈ fp, H b = none) →
    (∀ {σ' : L2.St} {H' : Hp} {s' : Shared}, Inv B pins σ' H' s' → (∀ b ∈ fp, H' b = none) → ∀ b ∈ fp, FpOk B pins H' b) →
    Goes B.K Hb Hfb J tup ds → (tup = true → ∃ is, t = .tup is) → Same Hb H → Same Hfb Hf → Hb D = none → SOk B.K σ H Hf Lk st ρ → noMut st → Acc H Hf a →
    foldG (stepG Φ t q ρ fun ρ' a => evG Φ r ρ' kf a) ds a = some a' → (∀ i ∈ t.slots ++ slotsC r, σ[i]? = some none) →
    codeAny (model B.prog B.w) B.A (.compLoop e k (.ref it) (.ref D) B.env) (fun r s' => r = .ok .next ∧ EndC B pins σ D H Hf Acc a' s') s
  | .nil, k, gs, st, t, q, tg, iter, ifs, hg, pg, pt, cp, hd, pins, s, σ, H, Hf, Hb, Hfb, ρ, it, fp, tn, J, tup, ds, a, a', I, T, st0, nf, stat, go, htg, sb, sf, hbD, S, nm, ha, ev, hn => by
    cases gs with
    | cons g gs => exact cp.elim
    | nil =>
      have e1 : stE = setSs t.slots st := cp
      have h1 : gens[k]? = some ⟨tg, iter, ifs, 0⟩ := by
        have := congrArg (·[0]?) hg
        simpa using this
      have h2 : gens[k + 1]? = none := by
        have := congrArg (·[1]?) hg
        simpa using this
      exact level (later := slotsC .nil) (g := fun ρ' a => evG Φ .nil ρ' kf a) (TW := fun P s => wpAny (model B.prog B.w) B.A (emit (.ref D) B.env) (fun _ s' => P s') NF s) hc hx amono aD (fun P P' s h hm => wpAny_mono h (fun _ s' p => hm s' p) fun _ _ z => z) pg pt hd
        (fun pins s σ H Hf ρ a a' I' S' ha' hk _ => hemit pins s σ H Hf ρ a a' I' (by rw [e1]; exact S') ha' (by rw [evG] at hk; exact hk))
        I T st0 nf stat go htg sb sf hbD S nm hl ha ev hn (fun I hI n s h => loopI X h1 h2 I (fun n s h => hI n s h) n h)
  | .cons t' w' q' r', k, gs, st, t, q, tg, iter, ifs, hg, pg, pt, cp, hd, pins, s, σ, H, Hf, Hb, Hfb, ρ, it, fp, tn, J, tup, ds, a, a', I, T, st0, nf, stat, go, htg, sb, sf, hbD, S, nm, ha, ev, hn => by
    cases gs with
    | nil => exact cp.elim
    | cons g gs =>
      obtain ⟨tg', iter', ifs', as⟩ := g
      obtain ⟨rfl, hp, pi', pg', ht', pt', cp'⟩ := cp
      have h1 : gens[k]? = some ⟨tg, iter, ifs, 0⟩ := by
        have := congrArg (·[0]?) hg
        simpa using this
      have h2 : gens[k + 1]? = some ⟨tg', iter', ifs', 0⟩ := by
        have := congrArg (·[1]?) hg
        simpa using this
      have hg' : gens.drop (k + 1) = ⟨tg', iter', ifs', 0⟩ :: gs := by
        have := congrArg (List.drop 1) hg
        rw [List.drop_drop] at this
        simpa using this
      have hd' : (t'.slots ++ slotsC r').Nodup := (List.nodup_append.mp hd).2.1
      refine level (later := slotsC (.cons t' w' q' r')) (g := fun ρ' a => evG Φ (.cons t' w' q' r') ρ' kf a)
        (TW := fun P s => wpAny (model B.prog B.w) B.A (eval iter' B.env) (fun x s₅ => wpAny (model B.prog B.w) B.A (pyIter x) (fun it1 s₆ => codeAny (model B.prog B.w) B.A (.compStart e (k + 1) it1 (.ref D) B.env) (fun r s' => match r with
              | .ok _ => P s'
              | .error _ => False) s₆) NF s₅) NF s) hc hx amono aD ?_ pg pt hd ?_
        I T st0 nf stat go htg sb sf hbD S nm hl ha ev hn (fun I hI n s h => loopO X h1 h2 (folded_plain hp) I (fun n s h => hI n s h) n h)
      · intro P P' s h hm
        refine wpAny_mono h (fun x s₅ h5 => wpAny_mono h5 (fun it1 s₆ h6 => codeAny_mono h6 fun r s' hr => ?_) fun _ _ z => z) fun _ _ z => z
        cases r with
        | ok f => exact hm s' hr
        | error z => exact hr
      · intro pins s σ H Hf ρ a a' I' S' ha' hk hn'
        rw [evG] at hk
        obtain ⟨ds', e1, e2⟩ := Option.bind_eq_some_iff.mp hk
        have pr := pi'.run pins s σ H (fun J H1 => ∃ Hf1 Hb1, Ext H Hf H1 Hf1 ∧ Same Hb1 H1 ∧ (∀ a o, Hb1 a = some o → Hf1 a = some o ∨ Lk a = some o) ∧ Goes B.K Hb1 Hf1 J (isTupW w') ds') I'
          ⟨Hf, Lk, ρ, ds', S', e1, fun J H1 Hf1 Hb1 x sb h g => ⟨Hf1, Hb1, x, sb, h rfl, g⟩⟩
        rw [hx] at pr
        refine wpAny_mono pr (fun x s5 h5 => wpAny_mono h5 (fun itv s6 h6 => ?_) fun _ _ z => z) fun _ _ z => z
        obtain ⟨it1, fp1, tn1, J1, H1, rfl, I1, T1, st1, f1, Hf1, Hb1, x1, sb1, sub1, go1⟩ := h6
        have a1 := amono _ _ _ _ _ ha' x1
        have bD : Hb1 D = none := by
          cases z : Hb1 D with
          | none => rfl
          | some u =>
            rcases sub1 D u z with q | q
            · rw [(aD _ _ _ a1).2] at q; cases q
            · rw [hl] at q; cases q
        have inner := run_cl X hc hx amono aD hl hemit r' (k + 1) gs (setSs t.slots st) t' q' tg' iter' ifs' hg' pg' pt' cp' hd' pins s6 σ H1 Hf1 Hb1 Hf1 ρ it1 fp1 tn1 J1 (isTupW w') ds' a a' I1 T1 st1 (fun b hb => (f1 b hb).1)
          (fun I2 n2 b hb => ⟨n2 b hb, (f1 b hb).2⟩) go1 ht' sb1 (Same.refl _) bD (S'.mono x1) (noMut_sets nm) a1 e2 hn'
        refine startC X h2 (codeAny_mono inner fun r s' ⟨hr, H', Hf', I2, xx, aa⟩ => ?_) (T1.self B.A 0 _ _ _ st1 (codeAny_mono inner fun r s' ⟨hr, H', Hf', I2, xx, aa⟩ => ?_))
        · subst hr
          exact ⟨H', Hf', I2, (ExtD.of x1).trans xx, aa⟩
        · subst hr
          exact ⟨H', Hf', I2, (ExtD.of x1).trans xx, aa⟩
end
end Orp

/-! Orp, part 20: comprehensions as a whole. -/
namespace Orp
open PySem PySem.Spec PyProof.Rows L2
def deadS (vs : List Nat) (st : List Stat) : List Stat := vs.foldr (fun i st => st.set i .dead) st
theorem SOk.dead1 {K : Fg} {σ : L2.St} {H Hf Lk : Hp} {st : List Stat} {ρ : Rho} (S : SOk K σ H Hf Lk st ρ) (i : Nat) : SOk K (σ.set i none) H Hf Lk (st.set i .dead) ρ where
  ls := by rw [List.length_set, List.length_set]; exact S.ls
  lr := by rw [List.length_set]; exact S.lr
  sub := S.sub
  lk := S.lk
  dj := S.dj
  slot := fun j s o d h1 h2 h3 => by
    by_cases e : i = j
    · subst e
      have hl : i < st.length := by have := (List.getElem?_eq_some_iff.mp h1).1; rwa [List.length_set] at this
      rw [List.getElem?_set_self hl] at h1
      cases h1
      trivial
    · rw [List.getElem?_set_ne e] at h1 h2
      exact S.slot j s o d h1 h2 h3
  ne := fun j k a s t hjk h1 h2 m1 m2 e1 e2 => by
    have n1 : i ≠ j := fun e => by
      subst e
      have hl : i < st.length := by have := (List.getElem?_eq_some_iff.mp h1).1; rwa [List.length_set] at this
      rw [List.getElem?_set_self hl] at h1
      cases h1
      cases m1
    have n2 : i ≠ k := fun e => by
      subst e
      have hl : i < st.length := by have := (List.getElem?_eq_some_iff.mp h2).1; rwa [List.length_set] at this
      rw [List.getElem?_set_self hl] at h2
      cases h2
      cases m2
    rw [List.getElem?_set_ne n1] at h1 e1
    rw [List.getElem?_set_ne n2] at h2 e2
    exact S.ne j k a s t hjk h1 h2 m1 m2 e1 e2
theorem SOk.wiped {K : Fg} {σ : L2.St} {H Hf Lk : Hp} {st : List Stat} {ρ : Rho} (S : SOk K σ H Hf Lk st ρ) : ∀ vs : List Nat, SOk K (wipe σ vs) H Hf Lk (deadS vs st) ρ
  | [] => S
  | v :: vs => (S.wiped vs).dead1 v
theorem noMut_dead1 {st : List Stat} (h : noMut st) (i : Nat) : noMut (st.set i .dead) := fun j s e => by
  by_cases z : i = j
  · subst z
    have hl : i < st.length := by have := (List.getElem?_eq_some_iff.mp e).1; rwa [List.length_set] at this
    rw [List.getElem?_set_self hl] at e
    cases e
    rfl
  · rw [List.getElem?_set_ne z] at e
    exact h j s e
theorem noMut_deadS {st : List Stat} (h : noMut st) : ∀ vs : List Nat, noMut (deadS vs st)
  | [] => h
  | v :: vs => noMut_dead1 (noMut_deadS h vs) v
theorem wipe_none {σ : L2.St} {i : Nat} (hi : i < σ.length) : ∀ {vs : List Nat}, i ∈ vs → (wipe σ vs)[i]? = some none
  | [], h => nomatch h
  | v :: vs, h => by
    unfold wipe
    by_cases e : v = i
    · subst e
      rw [List.getElem?_set_self (by rw [wipe_length]; exact hi)]
    · rw [List.getElem?_set_ne e]
      rcases List.mem_cons.mp h with z | z
      · exact absurd z.symm e
      · exact wipe_none hi z
/-- the statuses in a block -/
def stB (own : List Nat) (st : List Stat) : List Stat := deadS own (st.map lockS)
/-- a block's context -/
abbrev BX (X : Cx) (scope : Scope) (s : Shared) (H : Hp) (C : Addr) (cl : List (Str × Addr)) (fp : List Addr) : Cx := X.blk s H scope (compEnvC scope cl C X.env) fp
section
variable {X : Cx} {Φ : Fn0} {st stE : List Stat} {e tg iter : Expr} {ifs : List Expr} {gs : List Comprehension} {emit : Value → Env → Sem Unit} {scope : Scope} {own : List (Str × Nat)} {t : Tg} {w : Wk} {q : Ep} {r : Cl} {α : Type} {Acc : Addr → Hp → Hp → α → Prop} {kf : Rho → α → Option α} {b : Bool}
theorem comp_core {pins : List (Addr × Obj)} {s : Shared} {σ : L2.St} {H Hf Lk : Hp} {ρ : Rho} {ds : List Orp.D} {a0 a' : α} {new : Sem Value} {o0 : Addr → Obj} {u0 : Addr → HO} {use : Option (Value → Sem Unit)} {Qf : Value → Shared → Prop} {pos' : Pos}
    (CX : CompX e (⟨tg, iter, ifs, 0⟩ :: gs) emit) (hc : X.calm = true) (hN : X.N.Nodup) (I : Inv X pins σ H s) (S : SOk X.K σ H Hf Lk st ρ) (hp : isPlain iter = true) (hi : PI X tg iter (tW X.K Φ st b w)) (ok : BlkOk X.N X.env.scope scope own)
    (htg : isTupW w = true → ∃ is, t = .tup is) (hd : (t.slots ++ slotsC r).Nodup) (ho : ∀ i ∈ t.slots ++ slotsC r, i ∈ own.map (·.2))
    (hg : ∀ s H C cl fp, PG (BX X scope s H C cl fp) tg (gTg X.K t)) (ht : ∀ s H C cl fp, PTs (BX X scope s H C cl fp) ifs (tT X.K Φ (setSs t.slots (stB (own.map (·.2)) st)) q))
    (hr : ∀ s H C cl fp, ClP (BX X scope s H C cl fp) Φ (setSs t.slots (stB (own.map (·.2)) st)) r gs stE)
    (amono : ∀ D H Hf H' Hf' a, Acc D H Hf a → Ext H Hf H' Hf' → Acc D H' Hf' a) (aD : ∀ D H Hf a, Acc D H Hf a → H D ≠ none ∧ Hf D = none)
    (hemit : ∀ (D : Addr) (Lk : Hp) s0 H0 C cl fp pins s σ H Hf ρ a a', Inv (BX X scope s0 H0 C cl fp) pins σ H s → SOk X.K σ H Hf Lk stE ρ → Acc D H Hf a → kf ρ a = some a' →
      wpAny (model X.prog X.w) X.A (emit (.ref D) (compEnvC scope cl C X.env)) (fun _ s' => EndC (BX X scope s0 H0 C cl fp) pins σ D H Hf (Acc D) a' s') NF s)
    (hnew : ∀ (s : Shared) (Q : Value → Shared → Prop) (E : Value → Shared → Prop), Q (.ref s.heap.objs.size) { s with heap := s.heap.push (o0 s.heap.objs.size) } → wpAny (model X.prog X.w) X.A new Q E s)
    (hlay : ∀ pins σ H s, Inv X pins σ H s → Inv X pins σ (upd H s.heap.objs.size (u0 s.heap.objs.size)) { s with heap := s.heap.push (o0 s.heap.objs.size) })
    (hz : ∀ D H Hf, H D = some (u0 D) → Hf D = none → Acc D H Hf a0)
    (ev : evW Φ w ρ = some ds) (ev2 : foldG (stepG Φ t q ρ fun ρ' a => evG Φ r ρ' kf a) ds a0 = some a')
    (hRR : ∀ D C s' m H' Hf', Inv X pins σ H' s' → Ext H Hf H' Hf' → Acc D H' Hf' a' → H D = none → s'.heap.Ns C m → FpOk X pins H' C → compPost (model X.prog X.w) X.A X.xe use Qf (.ref D) C (.ok .next) s') :
    wpAny (model X.prog X.w) X.A (comprehension e scope X.env pos' new false (eval iter X.env) use) Qf X.xe s := by
  have hfree : ∀ y ∈ scope.names, y.2 = .free → ∃ c, X.env.cells.lookup y.1 = some c := fun y hy e => (ok.free y hy e).elim (fun k => I.ok.has _ (.inl k)) fun k => I.ok.has _ (.inr k)
  have pr := hi.run pins s σ H (fun J H1 => ∃ Hf1 Hb, Ext H Hf H1 Hf1 ∧ Same Hb H1 ∧ Goes X.K Hb Hf1 J (isTupW w) ds) I ⟨Hf, Lk, ρ, ds, S, ev, fun J H1 Hf1 Hb x sb _ g => ⟨Hf1, Hb, x, sb, g⟩⟩
  refine wpAny_comprehension_free (use := use) CX.cls (folded_plain hp) (closure_ok hfree) ok.kind (fun y hy e => by rw [ok.uniq y hy, e]) (thn pr fun xv s1 hx => thn hx fun itv s2 h2 => ?_)
  obtain ⟨it, fp, tn, J, H2, e, I2, T, st2, f2, Hf2, Hb, x2, sb, go⟩ := h2
  subst e
  refine hnew _ _ _ (newEnv_comp ?_)
  generalize hD : s2.heap.objs.size = D
  have hDn : H2 D = none := I2.hok.fresh (Nat.le_of_eq hD)
  have I3 := hlay pins σ H2 s2 I2
  rw [hD] at I3
  generalize hs3 : ({ s2 with heap := s2.heap.push (o0 D) } : Shared) = s3 at I3
  have h3 : s3.heap = s2.heap.push (o0 D) := by rw [← hs3]
  have sz : ∀ b ∈ fp, b < s2.heap.objs.size := fun b hb => by
    obtain ⟨o, e, _⟩ := T.obj _ _ st2 b hb
    exact Heap.lt_size e
  have f3 : ∀ b ∈ fp, FpOk X pins (upd H2 D (u0 D)) b ∧ b < s3.heap.objs.size := fun b hb => by
    have hlt := sz b hb
    have ne : b ≠ D := by rw [← hD]; exact Nat.ne_of_lt hlt
    exact ⟨⟨by rw [upd_ne ne]; exact (f2 b hb).1, (f2 b hb).2⟩, by rw [h3, Heap.size_push]; exact Nat.lt_succ_of_lt hlt⟩
  have st3 : tn 0 s3.heap := T.keep _ _ _ st2 fun b _ o e => by rw [h3]; exact Heap.get?_push_of_some _ e
  have I4 := block_start I3 ok hN f3
  have nfp : ∀ b ∈ fp, (upd H2 D (u0 D)) b = none := fun b hb => (f3 b hb).1.1
  have l3 := Ext.lay (o := u0 D) x2.sub hDn
  have nf2 : Hf2 D = none := sub_none x2.sub hDn
  have S2 := ((S.mono x2).lockAll.mono l3).wiped (own.map (·.2))
  have lD : lkAll H2 Hf2 D = none := by rw [lkAll_at nf2]; exact hDn
  have bD : Hb D = none := sub_none sb hDn
  generalize hcl : cellsFrom (s3.heap.objs.size + 1) scope.names (cloFrom X.env.cells scope.names []) = cl at I4
  show codeAny _ _ (.compStart e 0 (.ref it) (.ref D) (compEnvC scope cl s3.heap.objs.size X.env)) (compPost (model X.prog X.w) X.A X.xe use Qf (.ref D) s3.heap.objs.size) { s3 with heap := pushCells (s3.heap.push { cls := .type "dict", data := .dict #[] }) scope.names }
  generalize hs4 : ({ s3 with heap := pushCells (s3.heap.push { cls := .type "dict", data := .dict #[] }) scope.names } : Shared) = s4 at I4 ⊢
  have st4 : tn 0 s4.heap := T.keep _ _ _ st3 fun b _ o e => by rw [← hs4]; exact pushCells_keeps _ _ _ _ (Heap.get?_push_of_some _ e)
  have hlen : σ.length = X.N.length := I.len
  have run := run_cl (B := BX X scope s3 (upd H2 D (u0 D)) s3.heap.objs.size cl fp) (D := D) (Acc := Acc D) (kf := kf) (Lk := lkAll H2 Hf2) CX hc rfl (amono D) (aD D) lD (hemit D _ _ _ _ _ _) r 0 gs (stB (own.map fun (p : Str × Nat) => (p.2 : Nat)) st) t q tg iter ifs rfl
    (hg _ _ _ _ _) (ht _ _ _ _ _) (hr _ _ _ _ _) hd [] s4 _ (upd H2 D (u0 D)) Hf2 Hb Hf2 ρ it fp tn J (isTupW w) ds a0 a' I4 T st4 nfp
    (fun I' n b hb => ⟨n b hb, (I'.ok.exf b hb).1, I'.ok.exfs b hb, .inl hb, fun x c e => (I'.ok.exf b hb).2 x c e, fun p hp => absurd hp (by simp)⟩)
    go htg (fun b u e => l3.s _ _ (sb _ _ e)) (Same.refl _) bD S2 (noMut_deadS (noMut_lock st) _) (hz D _ _ upd_same nf2) ev2
    (fun i hi => by
      obtain ⟨p, hp1, hp2⟩ := List.mem_map.mp (ho i hi)
      have hx := ok.ix p hp1
      rw [hp2] at hx
      exact wipe_none (by rw [hlen]; exact (List.getElem?_eq_some_iff.mp hx).1) (ho i hi))
  have fin : ∀ r' s', (r' = .ok .next ∧ EndC (BX X scope s3 (upd H2 D (u0 D)) s3.heap.objs.size cl fp) [] (wipe σ (own.map (·.2))) D (upd H2 D (u0 D)) Hf2 (Acc D) a' s') → compPost (model X.prog X.w) X.A X.xe use Qf (.ref D) s3.heap.objs.size r' s' := by
    rintro r' s' ⟨rfl, H', Hf', I6, xx, aa⟩
    have I7 : Inv X pins σ H' s' := I3.call' (ch := fp) I6.os I6.base I6.hok I6.bare fun b hb => ⟨(f3 b hb).1.2.2.2.1, (f3 b hb).1.2.1, (f3 b hb).1.2.2.2.2.1, (f3 b hb).1.2.2.2.2.2⟩
    have nC : H' s3.heap.objs.size = none := I6.free
    obtain ⟨m, hn, _⟩ := I6.loc
    exact hRR D s3.heap.objs.size s' m H' Hf' I7 (x2.trans (ExtD.ext l3 hDn xx)) aa (x2.s.free hDn) hn (I3.fpOk (Nat.le_refl _) nC)
  exact startC CX rfl (codeAny_mono run fin) (T.self X.A 0 _ _ _ st4 (codeAny_mono run fin))
end
/-! ### lists -/
def AccL (K : Fg) (D : Addr) (H Hf : Hp) (as : List Orp.D) : Prop := ∃ acc, H D = some (.lst acc) ∧ Hf D = none ∧ RepAll K Hf acc as
theorem accL_mono {K : Fg} (D : Addr) (H Hf H' Hf' : Hp) (a : List Orp.D) (h : AccL K D H Hf a) (e : Ext H Hf H' Hf') : AccL K D H' Hf' a := by
  obtain ⟨acc, h1, h2, h3⟩ := h
  exact ⟨acc, e.s _ _ h1, e.n D (by rw [h1]; exact (fun z => nomatch z)) h2, RepAll.mono e.f _ h3⟩
theorem accL_D {K : Fg} (D : Addr) (H Hf : Hp) (a : List Orp.D) (h : AccL K D H Hf a) : H D ≠ none ∧ Hf D = none := by
  obtain ⟨acc, h1, h2, h3⟩ := h
  exact ⟨by rw [h1]; exact (fun z => nomatch z), h2⟩
/-- the object itself changes -/
theorem ExtD.at {D : Addr} {H Hf H' Hf' : Hp} {u : HO} (e : ExtD D H Hf H' Hf') (hf : Hf' D = none) : ExtD D H Hf (upd H' D u) Hf' :=
  ⟨fun b o hb q => by rw [upd_ne hb]; exact e.s b o hb q, e.f, fun b o q => by rw [upd_ne (ne_of_none q hf)]; exact e.sub b o q, e.n, fun _ => by rw [upd_same]; exact fun z => nomatch z⟩
section
variable {B : Cx} {Φ : Fn0} {stE : List Stat} {elt kx vx : Expr} {p p2 : Ep} {κ κ2 : Kd}
theorem emitL_ok (hx : B.xe = NF) (hk : κ = .sh ∨ κ = .fr) (pe : PE B elt (tP B.K Φ stE κ p)) {D : Addr} {Lk : Hp} {pins : List (Addr × Obj)} {s : Shared} {σ : L2.St} {H Hf : Hp} {ρ : Rho} {a a' : List Orp.D} (I : Inv B pins σ H s) (S : SOk B.K σ H Hf Lk stE ρ) (ha : AccL B.K D H Hf a)
    (ev : pushG (fun ρ' => (evX Φ p ρ').map fun d => [d]) ρ a = some a') : wpAny (model B.prog B.w) B.A (emitL elt (.ref D) B.env) (fun _ s' => EndC B pins σ D H Hf (AccL B.K D) a' s') NF s := by
  unfold pushG at ev
  split at ev
  case isFalse => cases ev
  rename_i hz
  obtain ⟨xs, e1, rfl⟩ := Option.map_eq_some_iff.mp ev
  obtain ⟨d, e2, rfl⟩ := Option.map_eq_some_iff.mp e1
  unfold emitL
  have r1 := run1 (Q := fun u s1 => wpAny (model B.prog B.w) B.A (do let _ ← call (.builtin "list.append") [.ref D, u]) (fun _ s' => EndC B pins σ D H Hf (AccL B.K D) (a ++ [d]) s') NF s1) pe I S e2 fun u v s1 H1 Hf1 I1 ru x1 rr => ?_
  · rw [hx] at r1
    exact wpAny_bind r1
  · obtain ⟨Hf2, x2, _, r2⟩ := RR.freeze hk x1 rr
    obtain ⟨acc, h1, h2, h3⟩ := accL_mono D _ _ _ _ _ ha x2
    refine wpAny_bind (app_ok I1 h1 (by rw [dpa_len h3, ← big_line]; exact hz) ru fun s2 I2 => wpAny_pure ?_)
    refine ⟨_, Hf2, I2, (ExtD.of x2).at h2, acc ++ [v], upd_same, h2, dpa_app h3 (.cons r2 .nil)⟩
def AccD (K : Fg) (tk : Bool) (D : Addr) (H Hf : Hp) (kvs : List (Orp.D × Orp.D)) : Prop := ∃ es ep, H D = some (DO D es ep) ∧ Hf D = none ∧ DcR K Hf tk es kvs
theorem accD_mono {K : Fg} {tk : Bool} (D : Addr) (H Hf H' Hf' : Hp) (a : List (Orp.D × Orp.D)) (h : AccD K tk D H Hf a) (e : Ext H Hf H' Hf') : AccD K tk D H' Hf' a := by
  obtain ⟨es, ep, h1, h2, h3⟩ := h
  exact ⟨es, ep, e.s _ _ h1, e.n D (by rw [h1]; exact (fun z => nomatch z)) h2, h3.mono e.f⟩
theorem accD_D {K : Fg} {tk : Bool} (D : Addr) (H Hf : Hp) (a : List (Orp.D × Orp.D)) (h : AccD K tk D H Hf a) : H D ≠ none ∧ Hf D = none := by
  obtain ⟨es, ep, h1, h2, h3⟩ := h
  exact ⟨by rw [h1]; exact (fun z => nomatch z), h2⟩
def kfD (Φ : Fn0) (tk : Bool) (p p2 : Ep) (ρ : Rho) (acc : List (Orp.D × Orp.D)) : Option (List (Orp.D × Orp.D)) :=
  (evX Φ p ρ).bind fun x => (evX Φ p2 ρ).bind fun y => if keyOk tk x = true ∧ acc.length < BIG then some (putKD acc x y) else none
theorem emitD_ok {tk : Bool} (hu : B.A.units + 200 < cLine) (hx : B.xe = NF) (hk : κ2 = .sh ∨ κ2 = .fr) (pk : PE B kx (tP B.K Φ stE κ p)) (pv : PE B vx (tP B.K Φ stE κ2 p2)) {D : Addr} {Lk : Hp} {pins : List (Addr × Obj)} {s : Shared} {σ : L2.St} {H Hf : Hp} {ρ : Rho} {a a' : List (Orp.D × Orp.D)}
    (I : Inv B pins σ H s) (S : SOk B.K σ H Hf Lk stE ρ) (ha : AccD B.K tk D H Hf a) (ev : kfD Φ tk p p2 ρ a = some a') : wpAny (model B.prog B.w) B.A (emitD kx vx (.ref D) B.env) (fun _ s' => EndC B pins σ D H Hf (AccD B.K tk D) a' s') NF s := by
  unfold kfD at ev
  obtain ⟨x, e1, ev⟩ := Option.bind_eq_some_iff.mp ev
  obtain ⟨y, e2, ev⟩ := Option.bind_eq_some_iff.mp ev
  split at ev
  case isFalse => cases ev
  rename_i hz
  cases ev
  unfold emitD
  have r1 := run1 (Q := fun kv s1 => wpAny (model B.prog B.w) B.A (do
      let vv ← holding [kv] (eval vx B.env)
      standAt { kx.pos with endLine := vx.pos.endLine, endCol := vx.pos.endCol }
      holding [kv, vv] (dictSet D kv vv)) (fun _ s' => EndC B pins σ D H Hf (AccD B.K tk D) (putKD a x y) s') NF s1) pk I S e1 fun u v s1 H1 Hf1 I1 ru x1 rr => ?_
  · rw [hx] at r1
    exact wpAny_bind r1
  · have r2 := run1 (Q := fun vv s2 => wpAny (model B.prog B.w) B.A (do
      standAt { kx.pos with endLine := vx.pos.endLine, endCol := vx.pos.endCol }
      holding [u, vv] (dictSet D u vv)) (fun _ s' => EndC B pins σ D H Hf (AccD B.K tk D) (putKD a x y) s') NF s2) pv I1 (S.mono x1) e2 fun u2 v2 s2 H2 Hf2 I2 ru2 x2 rr2 => ?_
    · rw [hx] at r2
      exact wpAny_bind (wpAny_holding r2)
    · obtain ⟨Hf3, x3, _, r3⟩ := RR.freeze hk x2 rr2
      obtain ⟨es, ep, h1, h2, h3⟩ := accD_mono D _ _ _ _ _ ha (x1.trans x3)
      refine wpAny_bind (wpAny_standAt (wpAny_holding (dd_dset (by omega) I2 x3.sub h1 h3 (key_of (rr.rv.mono x3.s x3.f) hz.1) ru ru2 r3 hz.2 fun es' ep' s3 R3 I3 => ?_)))
      exact ⟨_, Hf3, I3, (ExtD.of (x1.trans x3)).at h2, es', ep', upd_same, h2, R3⟩
end
section
variable {X : Cx} {Φ : Fn0} {st stE : List Stat} {elt kx vx tg iter : Expr} {ifs : List Expr} {gs : List Comprehension} {scope : Scope} {own : List (Str × Nat)} {t : Tg} {w : Wk} {q p p2 : Ep} {r : Cl} {b : Bool} {κ κ2 : Kd} {pos pos' : Pos} {is : List Nat}
/-- what is seen of a comprehension's clauses -/
structure CompOk (X : Cx) (Φ : Fn0) (st stE : List Stat) (tg iter : Expr) (ifs : List Expr) (gs : List Comprehension) (scope : Scope) (own : List (Str × Nat)) (t : Tg) (w : Wk) (q : Ep) (r : Cl) (b : Bool) : Prop where
  hp : isPlain iter = true
  hi : PI X tg iter (tW X.K Φ st b w)
  ok : BlkOk X.N X.env.scope scope own
  htg : isTupW w = true → ∃ is, t = .tup is
  hd : (t.slots ++ slotsC r).Nodup
  ho : ∀ i ∈ t.slots ++ slotsC r, i ∈ own.map (·.2)
  hg : ∀ s H C cl fp, PG (BX X scope s H C cl fp) tg (gTg X.K t)
  ht : ∀ s H C cl fp, PTs (BX X scope s H C cl fp) ifs (tT X.K Φ (setSs t.slots (stB (own.map (·.2)) st)) q)
  hr : ∀ s H C cl fp, ClP (BX X scope s H C cl fp) Φ (setSs t.slots (stB (own.map (·.2)) st)) r gs stE
theorem list_core {pins : List (Addr × Obj)} {s : Shared} {σ : L2.St} {H Hf Lk : Hp} {ρ : Rho} {d : Orp.D} {use : Option (Value → Sem Unit)} {Qf : Value → Shared → Prop} (hc : X.calm = true) (hN : X.N.Nodup) (C : CompOk X Φ st stE tg iter ifs gs scope own t w q r b) (hk : κ = .sh ∨ κ = .fr)
    (pe : ∀ s H C cl fp, PE (BX X scope s H C cl fp) elt (tP X.K Φ stE κ p)) (I : Inv X pins σ H s) (S : SOk X.K σ H Hf Lk st ρ) (ev : evX Φ (.comp is p (.cons t w q r)) ρ = some d)
    (hRR : ∀ D C s' m H' Hf', Inv X pins σ H' s' → Ext H Hf H' Hf' → RR X.K H H' Hf' .fr (.ref D) d → s'.heap.Ns C m → FpOk X pins H' C → compPost (model X.prog X.w) X.A X.xe use Qf (.ref D) C (.ok .next) s') :
    wpAny (model X.prog X.w) X.A (comprehension (.ListComp elt (⟨tg, iter, ifs, 0⟩ :: gs) scope pos) scope X.env pos' (newList []) false (eval iter X.env) use) Qf X.xe s := by
  rw [evX] at ev
  obtain ⟨out, e1, e2⟩ := Option.bind_eq_some_iff.mp ev
  split at e2
  case isFalse => cases e2
  rename_i hz
  cases e2
  have e3 := evC_evG Φ (.cons t w q r) ρ [] out e1 (by simpa [okL] using hz)
  rw [List.nil_append, evG] at e3
  obtain ⟨ds, e4, e5⟩ := Option.bind_eq_some_iff.mp e3
  refine comp_core (Acc := AccL X.K) (o0 := fun _ => { cls := .type "list", data := .seq ([] : List Value).toArray }) (u0 := fun _ => .lst []) compX_list hc hN I S C.hp C.hi C.ok C.htg C.hd C.ho C.hg C.ht C.hr accL_mono accL_D
    (fun D Lk s0 H0 C cl fp pins s σ H Hf ρ a a' I' S' ha hk' => emitL_ok (B := BX X scope s0 H0 C cl fp) rfl hk (pe _ _ _ _ _) I' S' ha hk')
    (fun s Q E h => wpAny_newObj_type h (by show 0 ≤ sizeLine; decide)) (fun pins σ H s I' => ?_) (fun D H Hf h1 h2 => ⟨[], h1, h2, .nil⟩) e4 e5 fun D C' s' m H' Hf' I' x' ha hn hm hfp => ?_
  · exact I'.laid (t' := s.toks) (fun b o e => Heap.get?_push_of_some _ e) (Nat.le_refl _) ⟨Nat.zero_le _, [], 0, .nil, Heap.get?_push_size _ rfl⟩
  · obtain ⟨acc, h1, h2, h3⟩ := ha
    exact hRR D C' s' m H' Hf' I' x' ⟨D, acc, out, rfl, rfl, hn, h1, h2, h3⟩ hm hfp
theorem pe_lcomp (hc : X.calm = true) (hN : X.N.Nodup) (C : CompOk X Φ st stE tg iter ifs gs scope own t w q r b) (hk : κ = .sh ∨ κ = .fr) (pe : ∀ s H C cl fp, PE (BX X scope s H C cl fp) elt (tP X.K Φ stE κ p)) :
    PE X (.ListComp elt (⟨tg, iter, ifs, 0⟩ :: gs) scope pos) (tP X.K Φ st .fr (.comp is p (.cons t w q r))) := by
  refine ⟨fun pins s σ H Q I ⟨Hf, Lk, ρ, d, S, ev, k⟩ => ?_⟩
  rw [eval_ListComp]
  refine list_core hc hN C hk pe I S ev fun D C' s' m H' Hf' I' x' rr hn f => ⟨m, hn, fun h'' sb => ?_⟩
  obtain ⟨f0, f1, f2, f3, f4, f5⟩ := f
  exact ⟨.ref D, H', I'.turned (t' := s'.toks) (fun b o hb e => (sb.2 b hb).trans e) f0 f1 f3 f4 f5, rfl, k _ H' Hf' x' rr⟩
theorem pe_dcomp {tk : Bool} (hu : X.A.units + 200 < cLine) (hc : X.calm = true) (hN : X.N.Nodup) (C : CompOk X Φ st stE tg iter ifs gs scope own t w q r b) (hk : κ2 = .sh ∨ κ2 = .fr) (pk : ∀ s H C cl fp, PE (BX X scope s H C cl fp) kx (tP X.K Φ stE κ p))
    (pv : ∀ s H C cl fp, PE (BX X scope s H C cl fp) vx (tP X.K Φ stE κ2 p2)) : PE X (.DictComp kx vx (⟨tg, iter, ifs, 0⟩ :: gs) scope pos) (tP X.K Φ st (dkd tk) (.dcomp is tk p p2 (.cons t w q r))) := by
  refine ⟨fun pins s σ H Q I ⟨Hf, Lk, ρ, d, S, ev, k⟩ => ?_⟩
  rw [evX] at ev
  obtain ⟨kvs, e1, rfl⟩ := Option.map_eq_some_iff.mp ev
  rw [evD_eq, evG] at e1
  obtain ⟨ds, e4, e5⟩ := Option.bind_eq_some_iff.mp e1
  rw [arm_eval_DictComp]
  refine comp_core (Acc := AccD X.K tk) (kf := kfD Φ tk p p2) (o0 := fun _ => { cls := .type "dict", data := .dict #[] }) (u0 := fun D => DO D #[] 0) (use := none) compX_dict hc hN I S C.hp C.hi C.ok C.htg C.hd C.ho C.hg C.ht C.hr accD_mono accD_D
    (fun D Lk s0 H0 C cl fp pins s σ H Hf ρ a a' I' S' ha hk' => emitD_ok (B := BX X scope s0 H0 C cl fp) hu rfl hk (pk _ _ _ _ _) (pv _ _ _ _ _) I' S' ha hk')
    (fun s Q E h => wpAny_newObj_type h) (fun pins σ H s I' => new_dict I') (fun D H Hf h1 h2 => ⟨#[], 0, h1, h2, dc_empty⟩) e4 e5 fun D C' s' m H' Hf' I' x' ha hn hm hfp => ?_
  obtain ⟨es, ep, h1, h2, h3⟩ := ha
  refine ⟨m, hm, fun h'' sb => ?_⟩
  obtain ⟨f0, f1, f2, f3, f4, f5⟩ := hfp
  exact ⟨.ref D, H', I'.turned (t' := s'.toks) (fun b o hb e => (sb.2 b hb).trans e) f0 f1 f3 f4 f5, rfl, k _ H' Hf' x' (rr_d hn h1 h2 h3)⟩
end
end Orp

/-! Orp, part 21: statements. -/
namespace Orp
open PySem PySem.Spec PyProof.Rows L2
/-- what the def changes is new since its entry -/
def New (H0 : Hp) (σ : L2.St) (st : List Stat) : Prop := ∀ (i : Nat) (s : Stat) (a : Addr), st[i]? = some s → s.mut = true → σ[i]? = some (some (.ref a)) → H0 a = none
/-- how the slots may be others behind a statement: W those that it may set; a slot whose thing the caller gets back stays -/
def Fr (κr : Kd) (W : List Nat) (σ σ' : L2.St) : Prop := (∀ j, j ∉ W → σ'[j]? = σ[j]?) ∧ ∀ i s, κr = .mu i s → σ'[i]? = σ[i]?
def TieW (κr : Kd) (W : List Nat) : Prop := ∀ i s, κr = .mu i s → i ∉ W
theorem Fr.same {κr : Kd} {W : List Nat} {σ : L2.St} : Fr κr W σ σ := ⟨fun _ _ => rfl, fun _ _ _ => rfl⟩
theorem Fr.of {κr : Kd} {W : List Nat} {σ σ' : L2.St} (h : ∀ j, j ∉ W → σ'[j]? = σ[j]?) (t : TieW κr W) : Fr κr W σ σ' := ⟨h, fun i s e => h i (t i s e)⟩
def noLk : Hp := fun _ => none
/-- what a def returns that changes a thing of its caller's -/
def MuE (K : Fg) (H0 Hf0 : Hp) (κr : Kd) (σ : L2.St) (D : Ends) (d : Orp.D) : Prop := ∀ (i : Nat) (s : Stat) (r x : Orp.D) (a : Addr) (v : V) (H' Hf' : Hp), κr = .mu i s → d = .tuple [r, x] → σ[i]? = some (some (.ref a)) → Ext H0 Hf0 H' Hf' → Rep K Hf' v r → SlotOk K H' Hf' noLk s (some (.ref a)) x → D.rt v H'
def EndR (X : Cx) (H0 Hf0 : Hp) (κr : Kd) (σ : L2.St) (D : Ends) (d : Orp.D) : Prop := (∀ v H' Hf', Ext H0 Hf0 H' Hf' → RR X.K H0 H' Hf' κr v d → D.rt v H') ∧ MuE X.K H0 Hf0 κr σ D d
theorem EndR.mv {X : Cx} {H0 Hf0 : Hp} {κr : Kd} {W : List Nat} {σ σ' : L2.St} {D D' : Ends} {d : Orp.D} (E : EndR X H0 Hf0 κr σ D d) (f : Fr κr W σ σ') (hD : D'.rt = D.rt) : EndR X H0 Hf0 κr σ' D' d :=
  ⟨fun v H' Hf' x r => by rw [hD]; exact E.1 v H' Hf' x r, fun i s r x a v H' Hf' e1 e2 e3 x' h1 h2 => by rw [hD]; exact E.2 i s r x a v H' Hf' e1 e2 (by rw [← f.2 i s e1]; exact e3) x' h1 h2⟩
/-- how a statement ends -/
def EndS (X : Cx) (H0 Hf0 Hf Lk : Hp) (κr : Kd) (st' : Option (List Stat)) (W : List Nat) (σ : L2.St) (D : Ends) : Res → Prop
  | .next ρ => ∃ s1, st' = some s1 ∧ ∀ σ' H' Hf', Ext H0 Hf0 H' Hf' → Same Hf Hf' → New H0 σ' s1 → SOk X.K σ' H' Hf' Lk s1 ρ → Fr κr W σ σ' → D.nx σ' H'
  | .ret d => EndR X H0 Hf0 κr σ D d
/-- a statement, a block, by the evaluator: W the slots that it may set -/
def tS (X : Cx) (ex : Rho → Option Res) (κr : Kd) (st : List Stat) (st' : Option (List Stat)) (W : List Nat) : TS := fun D σ H => ∃ H0 Hf0 Hf Lk ρ r, Ext H0 Hf0 H Hf ∧ New H0 σ st ∧ SOk X.K σ H Hf Lk st ρ ∧ ex ρ = some r ∧ EndS X H0 Hf0 Hf Lk κr st' W σ D r
theorem _root_.L2.PS.imp {X : Cx} {e : Stmt} {t t' : TS} (h : PS X e t) (i : ∀ D σ H, t' D σ H → t D σ H) : PS X e t' := ⟨fun pins s σ H D I q => h.run pins s σ H D I (i _ _ _ q)⟩
theorem _root_.L2.PSs.imp {X : Cx} {e : List Stmt} {t t' : TS} (h : PSs X e t) (i : ∀ D σ H, t' D σ H → t D σ H) : PSs X e t' := ⟨fun pins s σ H D I q => h.run pins s σ H D I (i _ _ _ q)⟩
/-! ### slots that are the def's own -/
def stOf : Kd → Option Stat
  | .sh => some .sh
  | .fr => some .own
  | .dI => some .dI
  | .dT => some .dT
  | _ => none
theorem new_mono {H0 : Hp} {σ σ' : L2.St} {st st' : List Stat} (h : New H0 σ st) (w : ∀ (i : Nat) (s : Stat) (a : Addr), st'[i]? = some s → s.mut = true → σ'[i]? = some (some (.ref a)) → st[i]? = some s ∧ σ[i]? = some (some (.ref a))) : New H0 σ' st' := fun i s a h1 h2 h3 => by
  obtain ⟨h4, h5⟩ := w i s a h1 h2 h3
  exact h i s a h4 h2 h5
theorem get_set_eq {α : Type} {l : List α} {i : Nat} {x y : α} (h : (l.set i x)[i]? = some y) : x = y := by
  have hl : i < l.length := by have := (List.getElem?_eq_some_iff.mp h).1; rwa [List.length_set] at this
  rw [List.getElem?_set_self hl] at h
  exact Option.some.inj h
/-- a slot gets a value that was made -/
theorem SOk.put {K : Fg} {σ : L2.St} {H Hf H' Hf' Lk : Hp} {st : List Stat} {ρ : Rho} {κ : Kd} {s : Stat} {v : V} {d : D} (S : SOk K σ H Hf Lk st ρ) (x : Ext H Hf H' Hf') (r : RR K H H' Hf' κ v d) (hs : stOf κ = some s) (i : Nat) :
    SOk K (σ.set i (some v)) H' Hf' Lk (st.set i s) (ρ.set i d) := by
  have S' := S.mono x
  have fresh : ∀ a, H a = none → ∀ (j : Nat) (t : Stat), i ≠ j → st[j]? = some t → t.mut = true → σ[j]? = some (some (.ref a)) → False := fun a ha j t _ h1 h2 h3 => by
    have hj : j < ρ.length := by rw [S.lr]; exact (List.getElem?_eq_some_iff.mp h3).1
    have q := S.slot j t _ ρ[j] h1 h3 (List.getElem?_eq_getElem hj)
    cases t with
    | own => obtain ⟨b, xs, ds, e1, e2, e3, _⟩ := q; cases e1; rw [ha] at e3; cases e3
    | dI => obtain ⟨b, es, ep, ks, e1, e2, e3, _⟩ := q; cases e1; rw [ha] at e3; cases e3
    | dT => obtain ⟨b, es, ep, ks, e1, e2, e3, _⟩ := q; cases e1; rw [ha] at e3; cases e3
    | _ => cases h2
  have lkn : ∀ a, H a = none → Lk a = none := fun a ha => by
    cases q : Lk a with
    | none => rfl
    | some u => have := S.lk _ _ q; rw [ha] at this; cases this
  refine ⟨by rw [List.length_set, List.length_set]; exact S'.ls, by rw [List.length_set, List.length_set]; exact S'.lr, S'.sub, S'.lk, S'.dj, fun j t o d' h1 h2 h3 => ?_, fun j k a t u hjk h1 h2 m1 m2 e1 e2 => ?_⟩
  · by_cases e : i = j
    · subst e
      have e1 := get_set_eq h1
      have e2 := get_set_eq h2
      have e3 := get_set_eq h3
      subst e1 e2 e3
      cases κ <;> simp only [stOf, reduceCtorEq, Option.some.injEq] at hs <;> subst hs
      · exact ⟨v, rfl, r⟩
      · obtain ⟨a, xs, ds, rfl, rfl, q1, q2, q3, q4⟩ := r
        exact ⟨a, xs, ds, rfl, rfl, q2, q3, lkn a q1, q4⟩
      · obtain ⟨a, es, ep, ks, rfl, rfl, q1, q2, q3, q4⟩ := r
        exact ⟨a, es, ep, ks, rfl, rfl, q2, q3, lkn a q1, q4⟩
      · obtain ⟨a, es, ep, ks, rfl, rfl, q1, q2, q3, q4⟩ := r
        exact ⟨a, es, ep, ks, rfl, rfl, q2, q3, lkn a q1, q4⟩
    · rw [List.getElem?_set_ne e] at h1 h2 h3
      exact S'.slot j t o d' h1 h2 h3
  · have made : ∀ b t, s = t → t.mut = true → v = .ref b → H b = none := fun b t e m ev => by
      subst e
      cases κ <;> simp only [stOf, reduceCtorEq, Option.some.injEq] at hs <;> subst hs
      · cases m
      · obtain ⟨a, xs, ds, rfl, rfl, q1, q2, q3, q4⟩ := r; cases ev; exact q1
      · obtain ⟨a, es, ep, ks, rfl, rfl, q1, q2, q3, q4⟩ := r; cases ev; exact q1
      · obtain ⟨a, es, ep, ks, rfl, rfl, q1, q2, q3, q4⟩ := r; cases ev; exact q1
    by_cases n1 : i = j
    · subst n1
      rw [List.getElem?_set_ne hjk] at h2 e2
      exact fresh a (made a t (get_set_eq h1) m1 (Option.some.inj (get_set_eq e1))) k u hjk h2 m2 e2
    · by_cases n2 : i = k
      · subst n2
        rw [List.getElem?_set_ne n1] at h1 e1
        exact fresh a (made a u (get_set_eq h2) m2 (Option.some.inj (get_set_eq e2))) j t n1 h1 m1 e1
      · rw [List.getElem?_set_ne n1] at h1 e1
        rw [List.getElem?_set_ne n2] at h2 e2
        exact S'.ne j k a t u hjk h1 h2 m1 m2 e1 e2
theorem New.put {K : Fg} {H0 Hf0 : Hp} {σ : L2.St} {H Hf H' Hf' : Hp} {st : List Stat} {κ : Kd} {s : Stat} {v : V} {d : D} (N : New H0 σ st) (x0 : Ext H0 Hf0 H Hf) (r : RR K H H' Hf' κ v d) (hs : stOf κ = some s) (i : Nat) : New H0 (σ.set i (some v)) (st.set i s) := fun j t a h1 h2 h3 => by
  by_cases e : i = j
  · subst e
    have e1 := get_set_eq h1
    have e3 := Option.some.inj (get_set_eq h3)
    subst e1 e3
    refine x0.s.free ?_
    cases κ <;> simp only [stOf, reduceCtorEq, Option.some.injEq] at hs <;> subst hs
    · cases h2
    · obtain ⟨a, xs, ds, e, rfl, q1, q2, q3, q4⟩ := r; cases e; exact q1
    · obtain ⟨a, es, ep, ks, e, rfl, q1, q2, q3, q4⟩ := r; cases e; exact q1
    · obtain ⟨a, es, ep, ks, e, rfl, q1, q2, q3, q4⟩ := r; cases e; exact q1
  · rw [List.getElem?_set_ne e] at h1 h3
    exact N j t a h1 h2 h3
theorem New.sets {H0 : Hp} : ∀ {is : List Nat} {vs : List V} {σ : L2.St} {st : List Stat}, vs.length = is.length → New H0 σ st → New H0 (setVs is vs σ) (setSs is st)
  | [], [], _, _, _, h => h
  | [], _ :: _, _, _, e, _ => by cases e
  | _ :: _, [], _, _, e, _ => by cases e
  | i :: is, v :: vs, σ, st, e, h => New.sets (is := is) (vs := vs) (by simpa using e) fun j t a h1 h2 h3 => by
    by_cases z : i = j
    · subst z
      have e1 := get_set_eq h1
      subst e1
      cases h2
    · rw [List.getElem?_set_ne z] at h1 h3
      exact h j t a h1 h2 h3
end Orp

/-! Orp, part 22: small statements. -/
namespace Orp
open PySem PySem.Spec PyProof.Rows L2
section
variable {X : Cx} {Φ : Fn0} {st : List Stat} {e a b c tg : Expr} {p q r : Ep} {κ κa κb κc κr : Kd} {pos pos' : Pos} {i j l : Nat} {x y z : Str} {s s2 s3 : Stat}
theorem ex_asg1 {ρ : Rho} {r : Res} (h : exS Φ (.asg (.one i) p) ρ = some r) : ∃ d, evX Φ p ρ = some d ∧ r = .next (ρ.set i d) := by
  rw [exS] at h
  obtain ⟨d, h1, h2⟩ := Option.bind_eq_some_iff.mp h
  obtain ⟨ρ', h3, rfl⟩ := Option.map_eq_some_iff.mp h2
  cases h3
  exact ⟨d, h1, rfl⟩
/-- behind a store of one value -/
theorem put_end (hT : TieW κr [i]) {H0 Hf0 H Hf Lk H' Hf' : Hp} {σ : L2.St} {ρ : Rho} {v : V} {d : D} {D : Ends} (x0 : Ext H0 Hf0 H Hf) (N : New H0 σ st) (S : SOk X.K σ H Hf Lk st ρ) (hs : stOf κ = some s)
    (E : EndS X H0 Hf0 Hf Lk κr (some (st.set i s)) [i] σ D (.next (ρ.set i d))) (x1 : Ext H Hf H' Hf') (r1 : RR X.K H H' Hf' κ v d) : D.nx (σ.set i (some v)) H' := by
  obtain ⟨s1, e, k⟩ := E
  cases e
  exact k _ _ _ (x0.trans x1) x1.f (N.put x0 r1 hs i) (S.put x1 r1 hs i) (Fr.of (fun j hj => List.getElem?_set_ne fun z => hj (by rw [z]; exact List.mem_cons_self)) hT)
theorem ss_asg (hT : TieW κr [i]) (hN : X.N.Nodup) (hi : X.N[i]? = some x) (hx : Loc X.env.scope x) (hf : X.fn x = true ∨ X.env.scope.names.lookup x = some .local) (hsw : swapsWith e (some (.Name x pos')) pos.line X.env = pure false) (he : PE X e (tP X.K Φ st κ p)) (hs : stOf κ = some s) :
    PS X (.Assign [.Name x pos'] e pos) (tS X (exS Φ (.asg (.one i) p)) κr st (some (st.set i s)) [i]) :=
  (ps_set hN hi hx he hsw hf).imp fun D σ H ⟨H0, Hf0, Hf, Lk, ρ, r, x0, N, S, ev, E⟩ => by
    obtain ⟨d, e1, rfl⟩ := ex_asg1 ev
    exact use1 S e1 fun v H1 Hf1 x1 r1 => put_end hT x0 N S hs E x1 r1
/-- y = [..], the list's name stored in the block -/
theorem ss_asgL (hT : TieW κr [i]) {stE : List Stat} {elt iter : Expr} {ifs : List Expr} {gs : List Comprehension} {scope : Scope} {own : List (Str × Nat)} {t : Tg} {w : Wk} {q : Ep} {r : Cl} {bb : Bool} {is : List Nat} (hN : X.N.Nodup) (hi : X.N[i]? = some x) (hx : X.env.scope.names.lookup x = some .local) (hc : X.calm = true)
    (hsw : swapsWith (.ListComp elt (⟨tg, iter, ifs, 0⟩ :: gs) scope pos) (some (.Name x pos')) l X.env = pure true) (C : CompOk X Φ st stE tg iter ifs gs scope own t w q r bb) (hk : κ = .sh ∨ κ = .fr) (pe : ∀ s H C cl fp, PE (BX X scope s H C cl fp) elt (tP X.K Φ stE κ p)) {spos : Pos} (hl : spos.line = l) :
    PS X (.Assign [.Name x pos'] (.ListComp elt (⟨tg, iter, ifs, 0⟩ :: gs) scope pos) spos) (tS X (exS Φ (.asg (.one i) (.comp is p (.cons t w q r)))) κr st (some (st.set i .own)) [i]) := by
  refine ⟨fun pins s σ H D I ⟨H0, Hf0, Hf, Lk, ρ, r, x0, N, S, ev, E⟩ => ?_⟩
  obtain ⟨d, e1, rfl⟩ := ex_asg1 ev
  subst hl
  rw [exec_Assign_Name_used _ _ _ _ hsw]
  refine wpAny_bind (wpAny_standAt (wpAny_bind ?_))
  refine wpAny_bind (thn (list_core (use := some (assign (.Name x pos') X.env)) (pos' := firstIterPos (⟨tg, iter, ifs, 0⟩ :: gs) pos) (Qf := fun _ s' => SP X pins D .next s') hc hN C hk pe I S e1 fun L C' s' m H' Hf' I' x' rr hn f => ?_) fun _ s' hq => wpAny_pure (wpAny_pure hq))
  show wpAny _ _ (assign (.Name x pos') X.env (.ref L)) _ _ _
  obtain ⟨f0, f1, f2, f3, f4, f5⟩ := f
  refine wpAny_assign_Name (store_ok2 (v := V.ref L) I' hN hi (.inl hx) rfl (fun s2 I2 ⟨a, sb, ha⟩ => ?_) (.inr hx))
  have haC : C' ≠ a := by
    rcases ha with z | z
    · rw [z]; exact f1
    · exact fun e => f4 x a z e.symm
  refine ⟨m, hn.sameBut sb haC, fun h3 sb3 => ?_⟩
  exact ⟨_, H', I2.turned (t' := s2.toks) (fun b o hb e => (sb3.2 b hb).trans e) f0 f1 f3 f4 f5, put_end (κ := .fr) hT x0 N S rfl E x' rr⟩
theorem ex_asgT {ρ : Rho} {r : Res} {t : Tg} (h : exS Φ (.asg t p) ρ = some r) : ∃ d ρ', evX Φ p ρ = some d ∧ bindT t d ρ = some ρ' ∧ r = .next ρ' := by
  rw [exS] at h
  obtain ⟨d, h1, h2⟩ := Option.bind_eq_some_iff.mp h
  obtain ⟨ρ', h3, rfl⟩ := Option.map_eq_some_iff.mp h2
  exact ⟨d, ρ', h1, h3, rfl⟩
/-- a, b = e -/
theorem ss_asgT {is : List Nat} (hT : TieW κr is) (pg : PG X tg (gTg X.K (.tup is))) (he : PE X e (tP X.K Φ st .sh p)) (hsw : swapsWithSole [tg] e pos.line X.env = pure false) (hw : swappedStores [tg] e X.env = pure none) (h1 : (assignEach [tg] X.env).map (·.2) = [assign tg X.env]) :
    PS X (.Assign [tg] e pos) (tS X (exS Φ (.asg (.tup is) p)) κr st (some (setSs is st)) is) :=
  (ps_asg he pg hsw hw h1).imp fun D σ H ⟨H0, Hf0, Hf, Lk, ρ, r, x0, N, S, ev, E⟩ => by
    obtain ⟨d, ρ', e1, e2, rfl⟩ := ex_asgT ev
    refine use1 S e1 fun v H1 Hf1 x1 r1 => ?_
    obtain ⟨s1, e, k⟩ := E
    cases e
    cases d <;> simp only [bindT, reduceCtorEq] at e2
    rename_i ds
    cases (show Rep X.K Hf1 v (.tuple ds) from r1) with
    | @tup a xs _ h1 h2 =>
      obtain ⟨h3, h4⟩ := SOk.sets (S.mono x1) h2 e2
      exact ⟨a, xs, rfl, (h1.mono x1.sub).sqt, h3, h3, k _ _ _ (x0.trans x1) x1.f (N.sets h3) h4 (Fr.of (fun j hj => setVs_ne hj) hT)⟩
theorem ex_par {is : List Nat} {ps : Eps} {ρ : Rho} {r : Res} (h : exS Φ (.par is ps) ρ = some r) : ∃ ds ρ', evXs Φ ps ρ = some ds ∧ setAll is ds ρ = some ρ' ∧ r = .next ρ' := by
  rw [exS] at h
  obtain ⟨d, h1, h2⟩ := Option.bind_eq_some_iff.mp h
  obtain ⟨ρ', h3, rfl⟩ := Option.map_eq_some_iff.mp h2
  exact ⟨d, ρ', h1, h3, rfl⟩
theorem evXs2 {ps qs : Ep} {ρ : Rho} {ds : List D} (h : evXs Φ (.cons ps (.cons qs .nil)) ρ = some ds) : ∃ d d', ds = [d, d'] ∧ evX Φ ps ρ = some d ∧ evX Φ qs ρ = some d' := by
  simp only [evXs] at h
  obtain ⟨d, h1, h⟩ := Option.bind_eq_some_iff.mp h
  obtain ⟨r, h2, rfl⟩ := Option.map_eq_some_iff.mp h
  obtain ⟨d', h3, h⟩ := Option.bind_eq_some_iff.mp h2
  obtain ⟨r', h4, rfl⟩ := Option.map_eq_some_iff.mp h
  cases h4
  exact ⟨d, d', rfl, h1, h3⟩
/-- two values, each kept as it was made -/
theorem put2 {K : Fg} {H0 Hf0 H Hf Lk H1 Hf1 H2 Hf2 : Hp} {σ : L2.St} {ρ : Rho} {v u : V} {d d' : D} (x0 : Ext H0 Hf0 H Hf) (N : New H0 σ st) (S : SOk K σ H Hf Lk st ρ) (hs : stOf κa = some s) (hs2 : stOf κb = some s2) (hij : i ≠ j)
    (x1 : Ext H Hf H1 Hf1) (r1 : RR K H H1 Hf1 κa v d) (x2 : Ext H1 Hf1 H2 Hf2) (r2 : RR K H1 H2 Hf2 κb u d') :
    New H0 ((σ.set i (some v)).set j (some u)) ((st.set i s).set j s2) ∧ SOk K ((σ.set i (some v)).set j (some u)) H2 Hf2 Lk ((st.set i s).set j s2) ((ρ.set i d).set j d') :=
  ⟨(N.put x0 r1 hs i).put (x0.trans x1) r2 hs2 j, (S.put x1 r1 hs i).put x2 r2 hs2 j⟩
theorem ss_par2 (hT : TieW κr [i, j]) {px py pt : Pos} {kt k2 : Nat} {pt2 : Pos} (hc : X.calm = true) (hN : X.N.Nodup) (hi : X.N[i]? = some x) (hj : X.N[j]? = some y) (hij : i ≠ j) (hx : X.env.scope.names.lookup x = some .local) (hy : X.env.scope.names.lookup y = some .local) (hp : isPlain a = true) (hp2 : isPlain b = true)
    (ha : PE X a (tP X.K Φ st κa p)) (hb : PE X b (tP X.K Φ st κb q)) (hs : stOf κa = some s) (hs2 : stOf κb = some s2) (hw : swappedStores [.Tuple [.Name x px, .Name y py] kt pt] (.Tuple [a, b] k2 pt2) X.env = pure (some [x, y])) :
    PS X (.Assign [.Tuple [.Name x px, .Name y py] kt pt] (.Tuple [a, b] k2 pt2) pos) (tS X (exS Φ (.par [i, j] (.cons p (.cons q .nil)))) κr st (some ((st.set i s).set j s2)) [i, j]) :=
  (ps_par hc hN hi hj hij hx hy (pa_cons ha (pa_cons hb pa_nil (star_plain hp2)) (star_plain hp)) hw rfl).imp fun D σ H ⟨H0, Hf0, Hf, Lk, ρ, r, x0, N, S, ev, E⟩ => by
    obtain ⟨ds, ρ', e1, e2, rfl⟩ := ex_par ev
    obtain ⟨d, d', rfl, e3, e4⟩ := evXs2 e1
    cases e2
    obtain ⟨s1, e, k⟩ := E
    cases e
    refine use1 S e3 fun v H1 Hf1 x1 r1 => use1 (S.mono x1) e4 fun u H2 Hf2 x2 r2 => ⟨v, u, rfl, ?_⟩
    obtain ⟨h1, h2⟩ := put2 x0 N S hs hs2 hij x1 r1 x2 r2
    refine k _ _ _ ((x0.trans x1).trans x2) (x1.f.trans x2.f) h1 h2 (Fr.of (fun m hm => ?_) hT)
    rw [List.getElem?_set_ne (fun z => hm (by simp [z])), List.getElem?_set_ne (fun z => hm (by simp [z]))]
theorem evXs3 {p q r : Ep} {ρ : Rho} {ds : List D} (h : evXs Φ (.cons p (.cons q (.cons r .nil))) ρ = some ds) : ∃ d d' d'', ds = [d, d', d''] ∧ evX Φ p ρ = some d ∧ evX Φ q ρ = some d' ∧ evX Φ r ρ = some d'' := by
  rw [evXs] at h
  obtain ⟨d, h1, h⟩ := Option.bind_eq_some_iff.mp h
  obtain ⟨r, h2, rfl⟩ := Option.map_eq_some_iff.mp h
  obtain ⟨d', d'', rfl, h3, h4⟩ := evXs2 h2
  exact ⟨d, d', d'', rfl, h1, h3, h4⟩
theorem ss_par3 (hT : TieW κr [i, j, l]) {px py pz pt : Pos} {kt k2 : Nat} {pt2 : Pos} (hc : X.calm = true) (hN : X.N.Nodup) (hi : X.N[i]? = some x) (hj : X.N[j]? = some y) (hl : X.N[l]? = some z) (hij : i ≠ j) (hil : i ≠ l) (hjl : j ≠ l) (hx : X.env.scope.names.lookup x = some .local) (hy : X.env.scope.names.lookup y = some .local) (hz : X.env.scope.names.lookup z = some .local)
    (hp : isPlain a = true) (hp2 : isPlain b = true) (hp3 : isPlain c = true) (ha : PE X a (tP X.K Φ st κa p)) (hb : PE X b (tP X.K Φ st κb q)) (hcc : PE X c (tP X.K Φ st κc r)) (hs : stOf κa = some s) (hs2 : stOf κb = some s2) (hs3 : stOf κc = some s3)
    (hw : swappedStores [.Tuple [.Name x px, .Name y py, .Name z pz] kt pt] (.Tuple [a, b, c] k2 pt2) X.env = pure (some [x, y, z])) :
    PS X (.Assign [.Tuple [.Name x px, .Name y py, .Name z pz] kt pt] (.Tuple [a, b, c] k2 pt2) pos) (tS X (exS Φ (.par [i, j, l] (.cons p (.cons q (.cons r .nil))))) κr st (some (((st.set i s).set j s2).set l s3)) [i, j, l]) :=
  (ps_par3 hc hN hi hj hl hij hil hjl hx hy hz (pa_cons ha (pa_cons hb (pa_cons hcc pa_nil (star_plain hp3)) (star_plain hp2)) (star_plain hp)) hw rfl).imp fun D σ H ⟨H0, Hf0, Hf, Lk, ρ, r, x0, N, S, ev, E⟩ => by
    obtain ⟨ds, ρ', e1, e2, rfl⟩ := ex_par ev
    obtain ⟨d, d', d'', rfl, e3, e4, e5⟩ := evXs3 e1
    cases e2
    obtain ⟨s1, e, k⟩ := E
    cases e
    refine use1 S e3 fun v H1 Hf1 x1 r1 => use1 (S.mono x1) e4 fun u H2 Hf2 x2 r2 => use1 ((S.mono x1).mono x2) e5 fun t H3 Hf3 x3 r3 => ⟨v, u, t, rfl, ?_⟩
    obtain ⟨h1, h2⟩ := put2 x0 N S hs hs2 hij x1 r1 x2 r2
    refine k _ _ _ (((x0.trans x1).trans x2).trans x3) ((x1.f.trans x2.f).trans x3.f) (h1.put ((x0.trans x1).trans x2) r3 hs3 l) (h2.put x3 r3 hs3 l) (Fr.of (fun m hm => ?_) hT)
    rw [List.getElem?_set_ne (fun z => hm (by simp [z])), List.getElem?_set_ne (fun z => hm (by simp [z])), List.getElem?_set_ne (fun z => hm (by simp [z]))]
/-! ### return, pass, expression -/
theorem ex_ret {ρ : Rho} {r : Res} (h : exS Φ (.ret p) ρ = some r) : ∃ d, evX Φ p ρ = some d ∧ r = .ret d := by
  rw [exS] at h
  obtain ⟨d, h1, rfl⟩ := Option.map_eq_some_iff.mp h
  exact ⟨d, h1, rfl⟩
/-- what is returned -/
def retK (κr κ : Kd) : Bool := match κr, κ with
  | .sh, .sh => true
  | .sh, .fr => true
  | .dI, .dI => true
  | .dT, .dT => true
  | _, _ => false
theorem ret_rr {K : Fg} {H Hf H' Hf' : Hp} {v : V} {d : D} (h : retK κr κ = true) (x : Ext H Hf H' Hf') (r : RR K H H' Hf' κ v d) : ∃ Hf2, Ext H Hf H' Hf2 ∧ RR K H H' Hf2 κr v d := by
  cases κr <;> cases κ <;> simp only [retK, Bool.false_eq_true] at h
  · exact ⟨Hf', x, r⟩
  · obtain ⟨Hf2, x2, _, r2⟩ := RR.freeze (.inr rfl) x r
    exact ⟨Hf2, x2, r2⟩
  · exact ⟨Hf', x, r⟩
  · exact ⟨Hf', x, r⟩
theorem ss_ret {st' : Option (List Stat)} {W : List Nat} (hk : retK κr κ = true) (he : PE X e (tP X.K Φ st κ p)) : PS X (.Return (some e) pos) (tS X (exS Φ (.ret p)) κr st st' W) :=
  (ps_ret he).imp fun D σ H ⟨H0, Hf0, Hf, Lk, ρ, r, x0, N, S, ev, E⟩ => by
    obtain ⟨d, e1, rfl⟩ := ex_ret ev
    refine use1 S e1 fun v H1 Hf1 x1 r1 => ?_
    obtain ⟨Hf2, x2, r2⟩ := ret_rr hk x1 r1
    exact E.1 v H1 Hf2 (x0.trans x2) (r2.back x0.s)
/-- return d, d a dict of the def's own -/
theorem ss_retD {st' : Option (List Stat)} {W : List Nat} {tk : Bool} (hi : X.N[i]? = some x) (hv : Vis X.env.scope x) (hd : (x == ("__debug__" : Str)) = false) (hcd : (x == ("__classdict__" : Str)) = false) (hs : st[i]? = some (if tk = true then Stat.dT else Stat.dI)) :
    PS X (.Return (some (.Name x pos')) pos) (tS X (exS Φ (.ret (.var i))) (dkd tk) st st' W) :=
  (ps_ret (pe_var hi hv hd hcd)).imp fun D σ H ⟨H0, Hf0, Hf, Lk, ρ, r, x0, N, S, ev, E⟩ => by
    obtain ⟨d, e1, rfl⟩ := ex_ret ev
    rw [evX] at e1
    have hl : i < σ.length := by rw [← S.ls]; exact (List.getElem?_eq_some_iff.mp hs).1
    have q := S.slot i _ σ[i] d hs (List.getElem?_eq_getElem hl) e1
    have nn := fun a => N i _ a hs
    cases tk with
    | false =>
      obtain ⟨a, es, ep, ks, h1, h2, h3, h4, h5, h6⟩ := q
      subst h2
      exact ⟨.ref a, by rw [List.getElem?_eq_getElem hl, h1], E.1 _ H Hf x0 ⟨a, es, ep, ks, rfl, rfl, nn a rfl (by rw [List.getElem?_eq_getElem hl, h1]), h3, h4, h6⟩⟩
    | true =>
      obtain ⟨a, es, ep, ks, h1, h2, h3, h4, h5, h6⟩ := q
      subst h2
      exact ⟨.ref a, by rw [List.getElem?_eq_getElem hl, h1], E.1 _ H Hf x0 ⟨a, es, ep, ks, rfl, rfl, nn a rfl (by rw [List.getElem?_eq_getElem hl, h1]), h3, h4, h6⟩⟩
theorem ss_pass {W : List Nat} : PS X (.Pass pos) (tS X (exS Φ .pass) κr st (some st) W) :=
  ps_pass.imp fun D σ H ⟨H0, Hf0, Hf, Lk, ρ, r, x0, N, S, ev, E⟩ => by
    rw [exS] at ev
    cases ev
    obtain ⟨s1, e, k⟩ := E
    cases e
    exact k σ H Hf x0 (Same.refl _) N S Fr.same
end
end Orp

/-! Orp, part 23: stores into lists and dicts. -/
namespace Orp
open PySem PySem.Spec PyProof.Rows L2
/-! ### an own object changes -/
theorem SOk.chg {K : Fg} {σ : L2.St} {H Hf Lk : Hp} {st : List Stat} {ρ : Rho} {i : Nat} {s : Stat} {a : Addr} {o : HO} {d : D} (S : SOk K σ H Hf Lk st ρ) (hs : st[i]? = some s) (hm : s.mut = true) (hv : σ[i]? = some (some (.ref a))) (hf : Hf a = none) (hl : Lk a = none)
    (new : SlotOk K (upd H a o) Hf Lk s (some (.ref a)) d) : SOk K σ (upd H a o) Hf Lk st (ρ.set i d) where
  ls := S.ls
  lr := by rw [List.length_set]; exact S.lr
  sub := fun b u q => by rw [upd_ne (ne_of_none q hf)]; exact S.sub b u q
  lk := fun b u q => by rw [upd_ne (ne_of_none q hl)]; exact S.lk b u q
  dj := S.dj
  slot := fun j t o' d' h1 h2 h3 => by
    by_cases e : i = j
    · subst e
      rw [hs] at h1
      rw [hv] at h2
      cases h1
      cases h2
      rw [← get_set_eq h3]
      exact new
    · rw [List.getElem?_set_ne e] at h3
      have q := S.slot j t o' d' h1 h2 h3
      have ne : ∀ b, t.mut = true → o' = some (.ref b) → b ≠ a := fun b hb e' z => by
        subst z e'
        exact S.ne i j b s t e hs h1 hm hb hv h2
      cases t with
      | dead => trivial
      | sh => exact q
      | lck => exact q
      | dIl => exact q
      | dTl => exact q
      | own => obtain ⟨b, xs, ds, h1, h2, h3, h4⟩ := q; exact ⟨b, xs, ds, h1, h2, by rw [upd_ne (ne b rfl h1)]; exact h3, h4⟩
      | dI => obtain ⟨b, es, ep, ds, h1, h2, h3, h4⟩ := q; exact ⟨b, es, ep, ds, h1, h2, by rw [upd_ne (ne b rfl h1)]; exact h3, h4⟩
      | dT => obtain ⟨b, es, ep, ds, h1, h2, h3, h4⟩ := q; exact ⟨b, es, ep, ds, h1, h2, by rw [upd_ne (ne b rfl h1)]; exact h3, h4⟩
  ne := S.ne
section
variable {X : Cx} {Φ : Fn0} {st : List Stat} {e a b c tg : Expr} {p q r : Ep} {κ κa κb κc κr : Kd} {pos pos' apos cpos : Pos} {i j l : Nat} {x y z : Str} {s s2 s3 : Stat}
/-- an own list's slot -/
theorem own_at {K : Fg} {σ : L2.St} {H Hf Lk : Hp} {ρ : Rho} {d : D} (S : SOk K σ H Hf Lk st ρ) (hs : st[i]? = some .own) (hd : ρ[i]? = some d) : ∃ a xs ds, σ[i]? = some (some (.ref a)) ∧ d = .list ds ∧ H a = some (.lst xs) ∧ Hf a = none ∧ Lk a = none ∧ RepAll K Hf xs ds := by
  have hi : i < σ.length := by rw [← S.ls]; exact (List.getElem?_eq_some_iff.mp hs).1
  obtain ⟨a, xs, ds, h1, h2, h3, h4, h5, h6⟩ := S.slot i _ σ[i] d hs (List.getElem?_eq_getElem hi) hd
  exact ⟨a, xs, ds, by rw [List.getElem?_eq_getElem hi, h1], h2, h3, h4, h5, h6⟩
def dSt (tk : Bool) : Stat := if tk = true then .dT else .dI
theorem dict_at {K : Fg} {σ : L2.St} {H Hf Lk : Hp} {ρ : Rho} {d : D} {tk : Bool} (S : SOk K σ H Hf Lk st ρ) (hs : st[i]? = some (dSt tk)) (hd : ρ[i]? = some d) : ∃ a es ep kvs, σ[i]? = some (some (.ref a)) ∧ d = mkD tk kvs ∧ H a = some (DO a es ep) ∧ Hf a = none ∧ Lk a = none ∧ DcR K Hf tk es kvs := by
  have hi : i < σ.length := by rw [← S.ls]; exact (List.getElem?_eq_some_iff.mp hs).1
  have q := S.slot i _ σ[i] d hs (List.getElem?_eq_getElem hi) hd
  cases tk with
  | false => obtain ⟨a, es, ep, ks, h1, h2, h3, h4, h5, h6⟩ := q; exact ⟨a, es, ep, ks, by rw [List.getElem?_eq_getElem hi, h1], h2, h3, h4, h5, h6⟩
  | true => obtain ⟨a, es, ep, ks, h1, h2, h3, h4, h5, h6⟩ := q; exact ⟨a, es, ep, ks, by rw [List.getElem?_eq_getElem hi, h1], h2, h3, h4, h5, h6⟩
theorem nnone {α : Type} {o : Option α} {u : α} (h : o = some u) : o ≠ none := by rw [h]; exact fun z => nomatch z
/-- x.append(e) -/
theorem ex_app {ρ : Rho} {r : Res} (h : exS Φ (.app i p) ρ = some r) : ∃ d y d', ρ[i]? = some d ∧ evX Φ p ρ = some y ∧ appF d y = some d' ∧ r = .next (ρ.set i d') := by
  rw [exS] at h
  obtain ⟨d, h1, h⟩ := Option.bind_eq_some_iff.mp h
  obtain ⟨y, h2, h⟩ := Option.bind_eq_some_iff.mp h
  obtain ⟨d', h3, rfl⟩ := Option.map_eq_some_iff.mp h
  exact ⟨d, y, d', h1, h2, h3, rfl⟩
theorem ss_app (hi : X.N[i]? = some x) (hv : Vis X.env.scope x) (hd : (x == ("__debug__" : Str)) = false) (hcd : (x == ("__classdict__" : Str)) = false) (hl : (apos.endLine == cpos.line) = true) (hp : isPlain e = true) (hs : st[i]? = some .own) (hk : κ = .sh ∨ κ = .fr) (he : PE X e (tP X.K Φ st κ p)) :
    PS X (.Expr (.Call (.Attribute (.Name x pos') "append" apos) [e] [] cpos) pos) (tS X (exS Φ (.app i p)) κr st (some st) [i]) := by
  refine ⟨fun pins s σ H D I ⟨H0, Hf0, Hf, Lk, ρ, r, x0, N, S, ev, E⟩ => ?_⟩
  obtain ⟨d, y, d', e1, e2, e3, rfl⟩ := ex_app ev
  obtain ⟨a, xs, ds, h1, rfl, h3, h4, h5, h6⟩ := own_at S hs e1
  simp only [appF] at e3
  split at e3
  case isFalse => cases e3
  rename_i hz
  cases e3
  refine wpAny_Expr_any ?_ I.quiet rfl
  refine wpAny_Call_method_late rfl (star_few (by simp [hp]) (by simp)) hl rfl (thn ((pe_var hi hv hd hcd).run pins s σ H (fun v H1 => v = .ref a ∧ H1 = H) I ⟨_, h1, rfl, rfl⟩) fun u s1 ⟨v, H1, I1, ru, e4, e5⟩ => ?_)
  subst e4 e5
  cases ru
  obtain ⟨o, n, g1, g2, g3, g4⟩ : ∃ o n, s1.heap.get? a = some o ∧ o.cls = .type "list" ∧ o.dict = none ∧ True := by
    obtain ⟨z, its, n, r, e⟩ := I1.hok a _ h3
    exact ⟨_, n, e, rfl, rfl, trivial⟩
  refine ⟨"list", "list.append", PySem.F.plainAttrs_list, PySem.F.slot_list_append, PySem.F.type_list_append, ⟨o, g1, g2⟩, (fun b q => by cases q; exact ⟨o, g1, g3⟩), ?_⟩
  have hA := (pa_cons he pa_nil (star_plain hp)).run cpos pins s1 σ H1 (fun vs H2 => ∃ v Hf2, vs = [v] ∧ Ext H1 Hf H2 Hf2 ∧ Rep X.K Hf2 v y) I1 ⟨Hf, Lk, ρ, y, S, e2, fun v H' Hf' x2 r2 => by
    obtain ⟨Hf2, x3, _, r3⟩ := RR.freeze hk x2 r2
    exact ⟨v, Hf2, rfl, x3, r3⟩⟩
  rw [star_plain hp] at hA ⊢
  refine Calls.callWith_builtin (by rfl) (Calls.evalArgs_plain (thn hA fun us s2 ⟨vs, H2, I2, r2, w, Hf2, ew, x2, rw⟩ => ?_))
  subst ew
  obtain ⟨u2, rfl, ru2⟩ := vals1 r2
  have hz' : xs.length < sizeLine := by rw [dpa_len h6, ← big_line]; exact hz
  refine thn (mt_append pins s2 σ H2 (.ref a) [w] (.ref a) [u2] (fun v H3 => H3 = upd H2 a (.lst (xs ++ [w]))) I2 rfl r2 ⟨a, xs, w, rfl, rfl, x2.s _ _ h3, hz', rfl⟩) fun u3 s3 ⟨v3, H3, I3, ru3, e6⟩ => ?_
  subst e6
  obtain ⟨s1', e, k⟩ := E
  cases e
  have nf : Hf2 a = none := x2.n a (nnone h3) h4
  have n0 : H0 a = none := N i _ a hs rfl h1
  exact ⟨σ, _, I3, k σ _ Hf2 ((x0.trans x2).wr n0 nf) x2.f N ((S.mono x2).chg hs rfl h1 nf h5 ⟨a, xs ++ [w], ds ++ [y], rfl, rfl, upd_same, nf, h5, dpa_app (RepAll.mono x2.f _ h6) (.cons rw .nil)⟩) Fr.same⟩
/-- x.extend(e), e a list just made -/
theorem ex_ext {ρ : Rho} {r : Res} (h : exS Φ (.ext i p) ρ = some r) : ∃ d y d', ρ[i]? = some d ∧ evX Φ p ρ = some y ∧ extF d y = some d' ∧ r = .next (ρ.set i d') := by
  rw [exS] at h
  obtain ⟨d, h1, h⟩ := Option.bind_eq_some_iff.mp h
  obtain ⟨y, h2, h⟩ := Option.bind_eq_some_iff.mp h
  obtain ⟨d', h3, rfl⟩ := Option.map_eq_some_iff.mp h
  exact ⟨d, y, d', h1, h2, h3, rfl⟩
theorem ss_ext (hi : X.N[i]? = some x) (hv : Vis X.env.scope x) (hd : (x == ("__debug__" : Str)) = false) (hcd : (x == ("__classdict__" : Str)) = false) (hl : (apos.endLine == cpos.line) = true) (hp : isPlain e = true) (hs : st[i]? = some .own) (he : PE X e (tP X.K Φ st .fr p)) :
    PS X (.Expr (.Call (.Attribute (.Name x pos') "extend" apos) [e] [] cpos) pos) (tS X (exS Φ (.ext i p)) κr st (some st) [i]) := by
  refine ⟨fun pins s σ H D I ⟨H0, Hf0, Hf, Lk, ρ, r, x0, N, S, ev, E⟩ => ?_⟩
  obtain ⟨d, y, d', e1, e2, e3, rfl⟩ := ex_ext ev
  obtain ⟨a, xs, ds, h1, rfl, h3, h4, h5, h6⟩ := own_at S hs e1
  refine wpAny_Expr_any ?_ I.quiet rfl
  refine wpAny_Call_method_late rfl (star_few (by simp [hp]) (by simp)) hl rfl (thn ((pe_var hi hv hd hcd).run pins s σ H (fun v H1 => v = .ref a ∧ H1 = H) I ⟨_, h1, rfl, rfl⟩) fun u s1 ⟨v, H1, I1, ru, e4, e5⟩ => ?_)
  subst e4 e5
  cases ru
  obtain ⟨o, n, g1, g2, g3, g4⟩ : ∃ o n, s1.heap.get? a = some o ∧ o.cls = .type "list" ∧ o.dict = none ∧ True := by
    obtain ⟨z, its, n, r, e⟩ := I1.hok a _ h3
    exact ⟨_, n, e, rfl, rfl, trivial⟩
  refine ⟨"list", "list.extend", PySem.F.plainAttrs_list, PySem.F.slot_list_extend, PySem.F.type_list_extend, ⟨o, g1, g2⟩, (fun b q => by cases q; exact ⟨o, g1, g3⟩), ?_⟩
  have hA := (pa_cons he pa_nil (star_plain hp)).run cpos pins s1 σ H1 (fun vs H2 => ∃ v Hf2, vs = [v] ∧ Ext H1 Hf H2 Hf2 ∧ RR X.K H1 H2 Hf2 .fr v y) I1 ⟨Hf, Lk, ρ, y, S, e2, fun v H' Hf' x2 r2 => ⟨v, Hf', rfl, x2, r2⟩⟩
  rw [star_plain hp] at hA ⊢
  refine Calls.callWith_builtin (by rfl) (Calls.evalArgs_plain (thn hA fun us s2 ⟨vs, H2, I2, r2, w, Hf2, ew, x2, b, zs, es, ew2, ey, g5, g6, g7, g8⟩ => ?_))
  subst ew ew2 ey
  simp only [extF] at e3
  split at e3
  case isFalse => cases e3
  rename_i hz
  cases e3
  obtain ⟨u2, rfl, ru2⟩ := vals1 r2
  have hz' : xs.length + zs.length ≤ sizeLine := by rw [dpa_len h6, dpa_len g8, ← big_line]; exact hz
  refine thn (mt_extend pins s2 σ H2 (.ref a) [.ref b] (.ref a) [u2] (fun v H3 => H3 = upd H2 a (.lst (xs ++ zs))) I2 rfl r2 ⟨a, b, xs, zs, rfl, rfl, x2.s _ _ h3, g6, hz', rfl⟩) fun u3 s3 ⟨v3, H3, I3, ru3, e6⟩ => ?_
  subst e6
  obtain ⟨s1', e, k⟩ := E
  cases e
  have nf : Hf2 a = none := x2.n a (nnone h3) h4
  have n0 : H0 a = none := N i _ a hs rfl h1
  exact ⟨σ, _, I3, k σ _ Hf2 ((x0.trans x2).wr n0 nf) x2.f N ((S.mono x2).chg hs rfl h1 nf h5 ⟨a, xs ++ zs, ds ++ es, rfl, rfl, upd_same, nf, h5, dpa_app (RepAll.mono x2.f _ h6) g8⟩) Fr.same⟩
/-! ### x[k] = e -/
theorem ex_set {ρ : Rho} {r : Res} (h : exS Φ (.set i p q) ρ = some r) : ∃ y d z d', evX Φ q ρ = some y ∧ ρ[i]? = some d ∧ evX Φ p ρ = some z ∧ setF d z y = some d' ∧ r = .next (ρ.set i d') := by
  rw [exS] at h
  obtain ⟨y, h1, h⟩ := Option.bind_eq_some_iff.mp h
  obtain ⟨d, h2, h⟩ := Option.bind_eq_some_iff.mp h
  obtain ⟨z, h3, h⟩ := Option.bind_eq_some_iff.mp h
  obtain ⟨d', h4, rfl⟩ := Option.map_eq_some_iff.mp h
  exact ⟨y, d, z, d', h1, h2, h3, h4, rfl⟩
theorem sub_sw {o k v : Expr} {ps : Pos} {l : Nat} {env : Env} : swapsWithSole [.Subscript o k ps] v l env = pure false := by cases v <;> rfl
theorem sub_ws {o k v : Expr} {ps : Pos} {env : Env} : swappedStores [.Subscript o k ps] v env = pure none := by cases v <;> rfl
/-- no slice -/
def noSlice : Expr → Bool
  | .Slice _ _ _ _ => false
  | _ => true
theorem sub_assign {o k : Expr} {ps : Pos} {env : Env} (h : noSlice k = true) (v : Value) : assign (.Subscript o k ps) env v = (do
      let ov ← holding [v] (eval o env)
      let iv ← holding [v, ov] (eval k env)
      standAt ps
      holding [v, ov, iv] (setItem ov iv v)
      release [v, ov, iv] []) := by
  cases k <;> first | rfl | exact absurd h (by simp [noSlice])
theorem ixD_eq (n : Nat) (i : Int) : ixD n i = ixN n i := rfl
theorem ss_setL {ps : Pos} {k : Expr} (hi : X.N[i]? = some x) (hv : Vis X.env.scope x) (hd : (x == ("__debug__" : Str)) = false) (hcd : (x == ("__classdict__" : Str)) = false) (hn : noSlice k = true) (hs : st[i]? = some .own) (hk : κb = .sh ∨ κb = .fr) (he : PE X e (tP X.K Φ st κb q)) (hi2 : PE X k (tP X.K Φ st κa p)) :
    PS X (.Assign [.Subscript (.Name x pos') k ps] e pos) (tS X (exS Φ (.set i p q)) κr st (some st) [i]) :=
  (ps_asg he (pg_sub (pe_var hi hv hd hcd) hi2 set_list (sub_assign hn)) sub_sw sub_ws rfl).imp fun D σ H ⟨H0, Hf0, Hf, Lk, ρ, r, x0, N, S, ev, E⟩ => by
    obtain ⟨y, d, z, d', e1, e2, e3, e4, rfl⟩ := ex_set ev
    obtain ⟨a, xs, ds, h1, rfl, h3, h4, h5, h6⟩ := own_at S hs e2
    cases z <;> simp only [setF, reduceCtorEq] at e4
    rename_i m
    obtain ⟨j, e5, rfl⟩ := Option.map_eq_some_iff.mp e4
    refine use1 S e1 fun v H1 Hf1 x1 r1 => ⟨_, h1, ?_⟩
    obtain ⟨Hf2, x2, _, r2⟩ := RR.freeze hk x1 r1
    refine use1 (S.mono x2) e3 fun u H3 Hf3 x3 r3 => ?_
    cases r3.rv.int
    have xx := x2.trans x3
    obtain ⟨s1', e, k⟩ := E
    cases e
    have nf : Hf3 a = none := xx.n a (nnone h3) h4
    have n0 : H0 a = none := N i _ a hs rfl h1
    refine ⟨a, xs, m, j, rfl, rfl, xx.s _ _ h3, by rw [dpa_len h6, ← ixD_eq]; exact e5, k σ _ Hf3 ((x0.trans xx).wr n0 nf) xx.f N ((S.mono xx).chg hs rfl h1 nf h5 ⟨a, _, _, rfl, rfl, upd_same, nf, h5, dpa_set j (Rep.mono x3.f _ r2) (RepAll.mono xx.f _ h6)⟩) Fr.same⟩
/-! ### x[k], x[l] = e -/
theorem ex_set2 {p2 : Ep} {ρ : Rho} {r : Res} (h : exS Φ (.set2 i p p2 q) ρ = some r) : ∃ y y2 d z d' z2 d2, evX Φ q ρ = some (.tuple [y, y2]) ∧ ρ[i]? = some d ∧ evX Φ p ρ = some z ∧ setF d z y = some d' ∧ evX Φ p2 (ρ.set i d') = some z2 ∧ setF d' z2 y2 = some d2 ∧ r = .next ((ρ.set i d').set i d2) := by
  rw [exS] at h
  obtain ⟨y, h1, h⟩ := Option.bind_eq_some_iff.mp h
  obtain ⟨⟨y1, y2⟩, h0, h⟩ := Option.bind_eq_some_iff.mp h
  obtain ⟨d, h2, h⟩ := Option.bind_eq_some_iff.mp h
  obtain ⟨z, h3, h⟩ := Option.bind_eq_some_iff.mp h
  obtain ⟨d', h4, h⟩ := Option.bind_eq_some_iff.mp h
  obtain ⟨z2, h5, h⟩ := Option.bind_eq_some_iff.mp h
  obtain ⟨d2, h6, rfl⟩ := Option.map_eq_some_iff.mp h
  unfold pairOf at h0
  split at h0
  · cases h0
    exact ⟨_, _, d, z, d', z2, d2, h1, h2, h3, h4, h5, h6, rfl⟩
  · cases h0
theorem ss_set2 {ps ps2 pt : Pos} {kt : Nat} {k k2 : Expr} {p2 : Ep} {κa2 : Kd} {pos2 : Pos} (hc : X.calm = true) (hi : X.N[i]? = some x) (hv : Vis X.env.scope x) (hd : (x == ("__debug__" : Str)) = false) (hcd : (x == ("__classdict__" : Str)) = false) (hn : noSlice k = true) (hn2 : noSlice k2 = true) (hs : st[i]? = some .own)
    (hsw : swapsWithSole [.Tuple [.Subscript (.Name x pos') k ps, .Subscript (.Name x pos2) k2 ps2] kt pt] e pos.line X.env = pure false) (hw : swappedStores [.Tuple [.Subscript (.Name x pos') k ps, .Subscript (.Name x pos2) k2 ps2] kt pt] e X.env = pure none)
    (he : PE X e (tP X.K Φ st .sh q)) (hi2 : PE X k (tP X.K Φ st κa p)) (hi3 : PE X k2 (tP X.K Φ st κa2 p2)) :
    PS X (.Assign [.Tuple [.Subscript (.Name x pos') k ps, .Subscript (.Name x pos2) k2 ps2] kt pt] e pos) (tS X (exS Φ (.set2 i p p2 q)) κr st (some st) [i]) :=
  (ps_asg he (pg_tup hc (pgs_cons (pg_sub (pe_var hi hv hd hcd) hi2 set_list (sub_assign hn)) (pgs_cons (pg_sub (pe_var hi hv hd hcd) hi3 set_list (sub_assign hn2)) pgs_nil rfl) rfl) rfl rfl) hsw hw rfl).imp fun D σ H ⟨H0, Hf0, Hf, Lk, ρ, r, x0, N, S, ev, E⟩ => by
    obtain ⟨y, y2, d, z, d', z2, d2, e1, e2, e3, e4, e5, e6, rfl⟩ := ex_set2 ev
    obtain ⟨a, xs, ds, h1, rfl, h3, h4, h5, h6⟩ := own_at S hs e2
    cases z <;> simp only [setF, reduceCtorEq] at e4
    rename_i m
    obtain ⟨j, e7, rfl⟩ := Option.map_eq_some_iff.mp e4
    refine use1 S e1 fun v H1 Hf1 x1 r1 => ?_
    cases (show Rep X.K Hf1 v (.tuple [y, y2]) from r1) with
    | @tup b vs _ g1 g2 =>
      cases g2 with
      | cons gv g2 =>
        cases g2 with
        | cons gw g2 =>
          cases g2
          rename_i v1 v2
          refine ⟨b, _, rfl, (g1.mono x1.sub).sqt, rfl, _, _, rfl, ⟨_, h1, ?_⟩⟩
          refine use1 (S.mono x1) e3 fun u H3 Hf3 x3 r3 => ?_
          cases r3.rv.int
          have xx := x1.trans x3
          obtain ⟨s1', e, kk⟩ := E
          cases e
          have nf : Hf3 a = none := xx.n a (nnone h3) h4
          have n0 : H0 a = none := N i _ a hs rfl h1
          have S2 := (S.mono xx).chg hs rfl h1 nf h5 (o := .lst (xs.set j v1)) (d := .list (ds.set j y)) ⟨a, _, _, rfl, rfl, upd_same, nf, h5, dpa_set j (Rep.mono x3.f _ gv) (RepAll.mono xx.f _ h6)⟩
          refine ⟨a, xs, m, j, rfl, rfl, xx.s _ _ h3, by rw [dpa_len h6, ← ixD_eq]; exact e7, ?_⟩
          refine ⟨_, _, rfl, ⟨_, h1, ?_⟩⟩
          have hil : i < ρ.length := (List.getElem?_eq_some_iff.mp e2).1
          obtain ⟨a', xs2, ds2, k1, k0, k3, k4, k5, k6⟩ := own_at S2 hs (List.getElem?_set_self hil)
          rw [h1] at k1
          cases k1
          cases k0
          cases z2 <;> simp only [setF, reduceCtorEq] at e6
          rename_i m2
          obtain ⟨j2, e8, rfl⟩ := Option.map_eq_some_iff.mp e6
          refine use1 S2 e5 fun u2 H4 Hf4 x4 r4 => ?_
          cases r4.rv.int
          have y0 : Ext H0 Hf0 (upd H3 a (.lst (xs.set j v1))) Hf3 := (x0.trans xx).wr n0 nf
          have nf4 : Hf4 a = none := x4.n a (by rw [upd_same]; exact fun z => nomatch z) nf
          refine ⟨a, xs2, m2, j2, rfl, rfl, x4.s _ _ k3, by rw [dpa_len k6, ← ixD_eq]; exact e8, rfl, ?_⟩
          refine kk σ _ Hf4 ((y0.trans x4).wr n0 nf4) (xx.f.trans x4.f) N ((S2.mono x4).chg hs rfl h1 nf4 k5 ⟨a, _, _, rfl, rfl, upd_same, nf4, k5, dpa_set j2 (Rep.mono (x3.f.trans x4.f) _ gw) (RepAll.mono x4.f _ k6)⟩) Fr.same
/-- d[k] = v, by values -/
def rSetDD (K : Fg) : TSet := fun o i v H Q => ∃ Hf tk a es ep kvs k d, o = .ref a ∧ Same Hf H ∧ H a = some (DO a es ep) ∧ DcR K Hf tk es kvs ∧ KeyV K Hf tk i k ∧ Rep K Hf v d ∧ kvs.length < BIG ∧ ∀ es' ep', DcR K Hf tk es' (putKD kvs k d) → Q (upd H a (DO a es' ep'))
theorem set_dd (hu : X.A.units + 200 < cLine) : PSet X (rSetDD X.K) := by
  intro pins s σ H o i v ov iv u Q I ro ri rv ⟨Hf, tk, a, es, ep, kvs, k, d, eo, sm, ha, R, kv, rd, hz, q⟩
  subst eo
  cases ro
  exact dd_set (by omega) I sm ha R kv ri rv rd hz fun es' ep' s' R' I' => ⟨_, I', q es' ep' R'⟩
theorem ss_setD {tk : Bool} {ps : Pos} {k : Expr} (hu : X.A.units + 200 < cLine) (hi : X.N[i]? = some x) (hv : Vis X.env.scope x) (hd : (x == ("__debug__" : Str)) = false) (hcd : (x == ("__classdict__" : Str)) = false) (hn : noSlice k = true) (hs : st[i]? = some (dSt tk)) (hk : κb = .sh ∨ κb = .fr) (he : PE X e (tP X.K Φ st κb q)) (hi2 : PE X k (tP X.K Φ st κa p)) :
    PS X (.Assign [.Subscript (.Name x pos') k ps] e pos) (tS X (exS Φ (.set i p q)) κr st (some st) [i]) :=
  (ps_asg he (pg_sub (pe_var hi hv hd hcd) hi2 (set_dd hu) (sub_assign hn)) sub_sw sub_ws rfl).imp fun D σ H ⟨H0, Hf0, Hf, Lk, ρ, r, x0, N, S, ev, E⟩ => by
    obtain ⟨y, d, z, d', e1, e2, e3, e4, rfl⟩ := ex_set ev
    obtain ⟨a, es, ep, ks, h1, rfl, h3, h4, h5, h6⟩ := dict_at S hs e2
    simp only [setF] at e4
    split at e4
    case isFalse => cases e4
    rename_i ok
    cases e4
    refine use1 S e1 fun v H1 Hf1 x1 r1 => ⟨_, h1, ?_⟩
    obtain ⟨Hf2, x2, _, r2⟩ := RR.freeze hk x1 r1
    refine use1 (S.mono x2) e3 fun u H3 Hf3 x3 r3 => ?_
    have xx := x2.trans x3
    obtain ⟨s1', e, k⟩ := E
    cases e
    have nf : Hf3 a = none := xx.n a (nnone h3) h4
    have hm : (dSt tk).mut = true := by cases tk <;> rfl
    have n0 : H0 a = none := N i _ a hs hm h1
    refine ⟨Hf3, tk, a, es, ep, ks, z, y, rfl, xx.sub, xx.s _ _ h3, h6.mono xx.f, key_of r3.rv ok.1, Rep.mono x3.f _ r2, ok.2, fun es' ep' R' => k σ _ Hf3 ((x0.trans xx).wr n0 nf) xx.f N ((S.mono xx).chg hs hm h1 nf h5 ?_) Fr.same⟩
    cases tk with
    | false => exact ⟨a, es', ep', _, rfl, rfl, upd_same, nf, h5, R'⟩
    | true => exact ⟨a, es', ep', _, rfl, rfl, upd_same, nf, h5, R'⟩
/-! ### x op= e -/
theorem ex_aug {o : O2} {ρ : Rho} {r : Res} (h : exS Φ (.aug i o p) ρ = some r) : ∃ d y d', ρ[i]? = some d ∧ evX Φ p ρ = some y ∧ augF o d y = some d' ∧ r = .next (ρ.set i d') := by
  rw [exS] at h
  obtain ⟨d, h1, h⟩ := Option.bind_eq_some_iff.mp h
  obtain ⟨y, h2, h⟩ := Option.bind_eq_some_iff.mp h
  obtain ⟨d', h3, rfl⟩ := Option.map_eq_some_iff.mp h
  exact ⟨d, y, d', h1, h2, h3, rfl⟩
def augOp : O2 → Option Operator
  | .add => some .Add
  | .sub => some .Sub
  | .mul => some .Mult
  | _ => none
theorem aug_ip {o : O2} {op : Operator} (h : augOp o = some op) : PIp X op (fun x y H Q => ∃ i j d, x = .int i ∧ y = .int j ∧ augF o (.int i) (.int j) = some (.int d) ∧ Q (.int d) H) := by
  intro pins s σ H x y v u Q I rx ry ⟨i, j, d, e1, e2, e3, q⟩
  subst e1 e2
  cases o <;> simp only [augOp, reduceCtorEq, Option.some.injEq] at h <;> subst h
  · simp only [augF, Option.some.injEq, PyData.int.injEq] at e3
    subst e3
    exact iop_add pins s σ H _ _ v u Q I rx ry ⟨i, j, rfl, rfl, q⟩
  · simp only [augF, Option.some.injEq, PyData.int.injEq] at e3
    subst e3
    exact iop_sub pins s σ H _ _ v u Q I rx ry ⟨i, j, rfl, rfl, q⟩
  · simp only [augF] at e3
    split at e3
    · rename_i hz
      cases e3
      rw [Bool.or_eq_true] at hz
      exact iop_mul pins s σ H _ _ v u Q I rx ry ⟨i, j, rfl, rfl, hz.elim (fun h => .inl (sm64_iff.mp h)) fun h => .inr (sm64_iff.mp h), q⟩
    · cases e3
theorem aug_int {o : O2} {d y d' : D} (h : augF o d y = some d') : ∃ i j k, d = .int i ∧ y = .int j ∧ d' = .int k := by
  cases o <;> cases d <;> cases y <;> simp only [augF, reduceCtorEq, Option.some.injEq] at h
  · exact ⟨_, _, _, rfl, rfl, h.symm⟩
  · exact ⟨_, _, _, rfl, rfl, h.symm⟩
  · split at h
    · exact ⟨_, _, _, rfl, rfl, (Option.some.inj h).symm⟩
    · cases h
theorem ss_aug (hT : TieW κr [i]) {o : O2} {op : Operator} (hN : X.N.Nodup) (hi : X.N[i]? = some x) (hx : Loc X.env.scope x) (hf : X.fn x = true ∨ X.env.scope.names.lookup x = some .local) (ho : augOp o = some op) (hs : st[i]? = some .sh) (he : PE X e (tP X.K Φ st κ p)) :
    PS X (.AugAssign (.Name x pos') op e pos) (tS X (exS Φ (.aug i o p)) κr st (some (st.set i .sh)) [i]) :=
  (ps_aug hN hi hx he (aug_ip ho) hf).imp fun D σ H ⟨H0, Hf0, Hf, Lk, ρ, r, x0, N, S, ev, E⟩ => by
    obtain ⟨d, y, d', e1, e2, e3, rfl⟩ := ex_aug ev
    obtain ⟨m, n, k, rfl, rfl, rfl⟩ := aug_int e3
    obtain ⟨v, h1, h2⟩ := S.read hs rfl e1
    cases (show Rep X.K Hf v (.int m) from h2)
    refine ⟨_, h1, use1 S e2 fun u H1 Hf1 x1 r1 => ?_⟩
    cases r1.rv.int
    exact ⟨m, n, k, rfl, rfl, e3, put_end hT x0 N S (κ := .sh) rfl E x1 (show Rep X.K Hf1 (.int k) (.int k) from .int k)⟩
/-! ### x = y, a dict moves -/
theorem ss_mov (hT : TieW κr [i]) {y : Str} {py : Pos} {tk : Bool} (hN : X.N.Nodup) (hi : X.N[i]? = some x) (hx : Loc X.env.scope x) (hf : X.fn x = true ∨ X.env.scope.names.lookup x = some .local) (hj : X.N[j]? = some y) (hv : Vis X.env.scope y) (hd : (y == ("__debug__" : Str)) = false) (hcd : (y == ("__classdict__" : Str)) = false) (hij : i ≠ j) (hs : st[j]? = some (dSt tk)) :
    PS X (.Assign [.Name x pos'] (.Name y py) pos) (tS X (exS Φ (.mov i j)) κr st (some ((st.set i (dSt tk)).set j .dead)) [i]) :=
  (ps_set hN hi hx (pe_var hj hv hd hcd) rfl hf).imp fun D σ H ⟨H0, Hf0, Hf, Lk, ρ, r, x0, N, S, ev, E⟩ => by
    rw [exS] at ev
    obtain ⟨d, e1, rfl⟩ := Option.map_eq_some_iff.mp ev
    obtain ⟨a, es, ep, ks, h1, rfl, h3, h4, h5, h6⟩ := dict_at S hs e1
    obtain ⟨s1', e, k⟩ := E
    cases e
    have hm : (dSt tk).mut = true := by cases tk <;> rfl
    have n0 : H0 a = none := N j _ a hs hm h1
    refine ⟨_, h1, k _ H Hf x0 (Same.refl _) ?_ ?_ (Fr.of (fun m hm => List.getElem?_set_ne fun z => hm (by rw [z]; exact List.mem_cons_self)) hT)⟩
    · intro m t b g1 g2 g3
      by_cases e1 : j = m
      · subst e1
        have := get_set_eq g1
        subst this
        cases g2
      · rw [List.getElem?_set_ne e1] at g1
        by_cases e2 : i = m
        · subst e2
          have := get_set_eq g3
          cases this
          exact n0
        · rw [List.getElem?_set_ne e2] at g1 g3
          exact N m t b g1 g2 g3
    · refine ⟨by rw [List.length_set, List.length_set, List.length_set]; exact S.ls, by rw [List.length_set, List.length_set]; exact S.lr, S.sub, S.lk, S.dj, fun m t o d' g1 g2 g3 => ?_, fun m n b t u hmn g1 g2 m1 m2 c1 c2 => ?_⟩
      · by_cases e1 : j = m
        · subst e1
          have := get_set_eq g1
          subst this
          trivial
        · rw [List.getElem?_set_ne e1] at g1
          by_cases e2 : i = m
          · subst e2
            have q1 := get_set_eq g1
            have q2 := get_set_eq g2
            have q3 := get_set_eq g3
            subst q1 q2 q3
            cases tk with
            | false => exact ⟨a, es, ep, ks, rfl, rfl, h3, h4, h5, h6⟩
            | true => exact ⟨a, es, ep, ks, rfl, rfl, h3, h4, h5, h6⟩
          · rw [List.getElem?_set_ne e2] at g1 g2 g3
            exact S.slot m t o d' g1 g2 g3
      · have nj : ∀ m t b, ((st.set i (dSt tk)).set j .dead)[m]? = some t → t.mut = true → (σ.set i (some (.ref a)))[m]? = some (some (.ref b)) → m ≠ j ∧ ((m = i ∧ b = a) ∨ (m ≠ i ∧ st[m]? = some t ∧ σ[m]? = some (some (.ref b)))) := fun m t b g1 g2 g3 => by
          have n1 : m ≠ j := fun z => by
            subst z
            have := get_set_eq g1
            subst this
            cases g2
          refine ⟨n1, ?_⟩
          rw [List.getElem?_set_ne (Ne.symm n1)] at g1
          by_cases e2 : i = m
          · subst e2
            have := get_set_eq g3
            cases this
            exact .inl ⟨rfl, rfl⟩
          · rw [List.getElem?_set_ne e2] at g1 g3
            exact .inr ⟨Ne.symm e2, g1, g3⟩
        obtain ⟨n1, q1⟩ := nj m t b g1 m1 c1
        obtain ⟨n2, q2⟩ := nj n u b g2 m2 c2
        rcases q1 with ⟨rfl, rfl⟩ | ⟨z1, w1, w2⟩
        · rcases q2 with ⟨rfl, _⟩ | ⟨z2, w3, w4⟩
          · exact hmn rfl
          · exact S.ne n j _ u _ n2 w3 hs m2 hm w4 h1
        · rcases q2 with ⟨rfl, rfl⟩ | ⟨z2, w3, w4⟩
          · exact S.ne m j _ t _ n1 w1 hs m1 hm w2 h1
          · exact S.ne m n b t u hmn w1 w3 m1 m2 w2 w4
end
end Orp

/-! Orp, part 24: blocks, if, for, while. -/
namespace Orp
open PySem PySem.Spec PyProof.Rows L2
/-! ### statuses are forgotten -/
def weakS (s s' : List Stat) : Bool := decide (s.length = s'.length) && (s.zip s').all fun p => decide (p.1 = p.2) || decide (p.2 = .dead)
theorem zip_at : ∀ {s s' : List Stat}, s.length = s'.length → ((s.zip s').all fun p => decide (p.1 = p.2) || decide (p.2 = .dead)) = true → ∀ (i : Nat) (t : Stat), s'[i]? = some t → t ≠ .dead → s[i]? = some t
  | [], [], _, _, _, _, h, _ => by simp at h
  | [], _ :: _, e, _, _, _, _, _ => by cases e
  | _ :: _, [], e, _, _, _, _, _ => by cases e
  | a :: s, b :: s', e, h, 0, t, h1, h2 => by
    simp only [List.zip_cons_cons, List.all_cons, Bool.and_eq_true, Bool.or_eq_true, decide_eq_true_eq] at h
    have : b = t := by simpa using h1
    subst this
    rcases h.1 with z | z
    · simp [z]
    · exact absurd z h2
  | a :: s, b :: s', e, h, i + 1, t, h1, h2 => by
    simp only [List.zip_cons_cons, List.all_cons, Bool.and_eq_true] at h
    have := zip_at (s := s) (s' := s') (by simpa using e) h.2 i t (by simpa using h1) h2
    simpa using this
theorem weak_at {s s' : List Stat} (h : weakS s s' = true) : s.length = s'.length ∧ ∀ (i : Nat) (t : Stat), s'[i]? = some t → t ≠ .dead → s[i]? = some t := by
  unfold weakS at h
  rw [Bool.and_eq_true, decide_eq_true_eq] at h
  exact ⟨h.1, zip_at h.1 h.2⟩
theorem weak_refl (s : List Stat) : weakS s s = true := by
  unfold weakS
  rw [Bool.and_eq_true, decide_eq_true_eq]
  refine ⟨rfl, List.all_eq_true.mpr fun p hp => ?_⟩
  have : ∀ (l : List Stat) (p : Stat × Stat), p ∈ l.zip l → p.1 = p.2 := by
    intro l
    induction l with
    | nil => intro p h; simp at h
    | cons a l ih =>
      intro p h
      rcases List.mem_cons.mp h with z | z
      · rw [z]
      · exact ih p z
  rw [this s p hp]
  simp
theorem mut_dead {t : Stat} (h : t.mut = true) : t ≠ .dead := fun e => by rw [e] at h; cases h
theorem New.weak {H0 : Hp} {σ : L2.St} {s s' : List Stat} (h : New H0 σ s) (w : weakS s s' = true) : New H0 σ s' := fun i t a h1 h2 h3 => h i t a ((weak_at w).2 i t h1 (mut_dead h2)) h2 h3
theorem SOk.weak {K : Fg} {σ : L2.St} {H Hf Lk : Hp} {s s' : List Stat} {ρ : Rho} (S : SOk K σ H Hf Lk s ρ) (w : weakS s s' = true) : SOk K σ H Hf Lk s' ρ where
  ls := by rw [← (weak_at w).1]; exact S.ls
  lr := S.lr
  sub := S.sub
  lk := S.lk
  dj := S.dj
  slot := fun i t o d h1 h2 h3 => by
    by_cases e : t = .dead
    · subst e; trivial
    · exact S.slot i t o d ((weak_at w).2 i t h1 e) h2 h3
  ne := fun i j a t u hij h1 h2 m1 m2 e1 e2 => S.ne i j a t u hij ((weak_at w).2 i t h1 (mut_dead m1)) ((weak_at w).2 j u h2 (mut_dead m2)) m1 m2 e1 e2
theorem EndS.weak {X : Cx} {H0 Hf0 Hf Lk : Hp} {κr : Kd} {s1 s2 : List Stat} {W W' : List Nat} {σ : L2.St} {D : Ends} {r : Res} (E : EndS X H0 Hf0 Hf Lk κr (some s2) W' σ D r) (w : weakS s1 s2 = true) (hW : ∀ j, j ∈ W → j ∈ W') : EndS X H0 Hf0 Hf Lk κr (some s1) W σ D r := by
  cases r with
  | ret d => exact E
  | next ρ =>
    obtain ⟨s, e, k⟩ := E
    cases e
    exact ⟨s1, rfl, fun σ' H' Hf' x sm N S f => k σ' H' Hf' x sm (N.weak w) (S.weak w) ⟨fun j hj => f.1 j fun z => hj (hW j z), f.2⟩⟩
theorem tS_weak {X : Cx} {ex : Rho → Option Res} {κr : Kd} {st s1 s2 : List Stat} {W W' : List Nat} (w : weakS s1 s2 = true) (hW : ∀ j, j ∈ W → j ∈ W') : ∀ D σ H, tS X ex κr st (some s2) W' D σ H → tS X ex κr st (some s1) W D σ H :=
  fun D σ H ⟨H0, Hf0, Hf, Lk, ρ, r, x0, N, S, ev, E⟩ => ⟨H0, Hf0, Hf, Lk, ρ, r, x0, N, S, ev, E.weak w hW⟩
/-! ### blocks -/
section
variable {X : Cx} {Φ : Fn0} {st s1 st' : List Stat} {κr : Kd} {W W1 W2 : List Nat} {a : Sm} {b : Bk} {s : Stmt} {ss : List Stmt} {i : Nat}
theorem bs_nil : PSs X [] (tS X (exB Φ .nil) κr st (some st) W) :=
  pss_nil.imp fun D σ H ⟨H0, Hf0, Hf, Lk, ρ, r, x0, N, S, ev, E⟩ => by
    rw [exB] at ev
    cases ev
    obtain ⟨s, e, k⟩ := E
    cases e
    exact k σ H Hf x0 (Same.refl _) N S Fr.same
theorem bs_cons (h1 : PS X s (tS X (exS Φ a) κr st (some s1) W1)) (h2 : PSs X ss (tS X (exB Φ b) κr s1 (some st') W2)) : PSs X (s :: ss) (tS X (exB Φ (.cons a b)) κr st (some st') (W1 ++ W2)) :=
  (pss_cons h1 h2).imp fun D σ H ⟨H0, Hf0, Hf, Lk, ρ, r, x0, N, S, ev, E⟩ => by
    rw [exB] at ev
    obtain ⟨q, e1, e2⟩ := Option.bind_eq_some_iff.mp ev
    refine ⟨H0, Hf0, Hf, Lk, ρ, q, x0, N, S, e1, ?_⟩
    cases q with
    | ret d => cases e2; exact E
    | next ρ2 =>
      refine ⟨s1, rfl, fun σ' H' Hf' x' sm N' S' f => ⟨H0, Hf0, Hf', Lk, ρ2, r, x', N', S', e2, ?_⟩⟩
      cases r with
      | ret d => exact EndR.mv E f rfl
      | next ρ3 =>
        obtain ⟨s, e, k⟩ := E
        cases e
        refine ⟨st', rfl, fun σ2 H2 Hf2 x2 sm2 N2 S2 f2 => k σ2 H2 Hf2 x2 (sm.trans sm2) N2 S2 ⟨fun j hj => ?_, fun i s e => (f2.2 i s e).trans (f.2 i s e)⟩⟩
        rw [List.mem_append, not_or] at hj
        rw [f2.1 j hj.2, f.1 j hj.1]
/-- an own list is frozen -/
theorem bs_frz (hs : st[i]? = some .own) (h : PSs X ss (tS X (exB Φ b) κr (st.set i .sh) (some st') W)) : PSs X ss (tS X (exB Φ (.cons (.frz i) b)) κr st (some st') W) :=
  h.imp fun D σ H ⟨H0, Hf0, Hf, Lk, ρ, r, x0, N, S, ev, E⟩ => by
    rw [exB] at ev
    obtain ⟨q, e1, e2⟩ := Option.bind_eq_some_iff.mp ev
    rw [exS] at e1
    cases e1
    have hi : i < ρ.length := by rw [S.lr, ← S.ls]; exact (List.getElem?_eq_some_iff.mp hs).1
    obtain ⟨p, xs, ds, h1, h2, h3, h4, h5, h6⟩ := own_at S hs (List.getElem?_eq_getElem hi)
    have n0 : H0 p = none := N i _ p hs rfl h1
    have up : Same Hf (upd Hf p (.lst xs)) := same_updf h4
    have x1 : Ext H0 Hf0 H (upd Hf p (.lst xs)) := x0.add h3 h4 fun z => absurd n0 z
    refine ⟨H0, Hf0, upd Hf p (.lst xs), Lk, ρ, r, x1, fun j t c g1 g2 g3 => ?_, ?_, e2, ?_⟩
    · by_cases e : i = j
      · subst e
        have := get_set_eq g1
        subst this
        cases g2
      · rw [List.getElem?_set_ne e] at g1
        exact N j t c g1 g2 g3
    · refine ⟨by rw [List.length_set]; exact S.ls, S.lr, x1.sub, S.lk, fun c hc => ?_, fun j t o d g1 g2 g3 => ?_, fun j k c t u hjk g1 g2 m1 m2 c1 c2 => ?_⟩
      · have : c ≠ p := fun z => by subst z; exact hc h5
        rw [upd_ne this]
        exact S.dj c hc
      · by_cases e : i = j
        · subst e
          have := get_set_eq g1
          subst this
          rw [h1] at g2
          rw [List.getElem?_eq_getElem hi, h2] at g3
          cases g2
          cases g3
          exact ⟨.ref p, rfl, .lst (.inl (.inl upd_same)) (RepAll.mono up _ h6)⟩
        · rw [List.getElem?_set_ne e] at g1
          have q := S.slot j t o d g1 g2 g3
          have ne : ∀ c, t.mut = true → o = some (.ref c) → c ≠ p := fun c m e' z => by
            subst z e'
            exact S.ne i j c .own t e hs g1 rfl m h1 g2
          cases t with
          | dead => trivial
          | sh => obtain ⟨v, c1, c2⟩ := q; exact ⟨v, c1, Rep.mono up _ c2⟩
          | own => obtain ⟨c, ys, es, c1, c2, c3, c4, c5, c6⟩ := q; exact ⟨c, ys, es, c1, c2, c3, by rw [upd_ne (ne c rfl c1)]; exact c4, c5, RepAll.mono up _ c6⟩
          | lck => obtain ⟨c, ys, es, c1, c2, c3, c6⟩ := q; exact ⟨c, ys, es, c1, c2, c3, RepAll.mono up _ c6⟩
          | dI => obtain ⟨c, ys, ep, es, c1, c2, c3, c4, c5, c6⟩ := q; exact ⟨c, ys, ep, es, c1, c2, c3, by rw [upd_ne (ne c rfl c1)]; exact c4, c5, c6.mono up⟩
          | dT => obtain ⟨c, ys, ep, es, c1, c2, c3, c4, c5, c6⟩ := q; exact ⟨c, ys, ep, es, c1, c2, c3, by rw [upd_ne (ne c rfl c1)]; exact c4, c5, c6.mono up⟩
          | dIl => obtain ⟨c, ys, ep, es, c1, c2, c3, c6⟩ := q; exact ⟨c, ys, ep, es, c1, c2, c3, c6.mono up⟩
          | dTl => obtain ⟨c, ys, ep, es, c1, c2, c3, c6⟩ := q; exact ⟨c, ys, ep, es, c1, c2, c3, c6.mono up⟩
      · have n1 : i ≠ j := fun e => by
          subst e
          have := get_set_eq g1
          subst this
          cases m1
        have n2 : i ≠ k := fun e => by
          subst e
          have := get_set_eq g2
          subst this
          cases m2
        rw [List.getElem?_set_ne n1] at g1
        rw [List.getElem?_set_ne n2] at g2
        exact S.ne j k c t u hjk g1 g2 m1 m2 c1 c2
    · cases r with
      | ret d => exact E
      | next ρ3 =>
        obtain ⟨s, e, k⟩ := E
        exact ⟨s, e, fun σ2 H2 Hf2 x2 sm2 N2 S2 f2 => k σ2 H2 Hf2 x2 (up.trans sm2) N2 S2 f2⟩
/-! ### if -/
theorem ss_if {c : Expr} {pc : Ep} {sa sb : List Stmt} {ba bb : Bk} {pos : Pos} {Wa Wb : List Nat} (hc : PT X c (tT X.K Φ st pc)) (ha : PSs X sa (tS X (exB Φ ba) κr st (some st') Wa)) (hb : PSs X sb (tS X (exB Φ bb) κr st (some st') Wb)) :
    PS X (.If c sa sb pos) (tS X (exS Φ (.ite pc ba bb)) κr st (some st') (Wa ++ Wb)) :=
  (ps_if hc ha hb).imp fun D σ H ⟨H0, Hf0, Hf, Lk, ρ, r, x0, N, S, ev, E⟩ => by
    rw [exS] at ev
    obtain ⟨t, e1, e2⟩ := Option.bind_eq_some_iff.mp ev
    refine ⟨Hf, Lk, ρ, t, S, e1, fun H1 Hf1 x1 => ?_⟩
    have key : ∀ W : List Nat, (∀ j, j ∈ W → j ∈ Wa ++ Wb) → EndS X H0 Hf0 Hf1 Lk κr (some st') W σ D r := fun W hW => by
      cases r with
      | ret d => exact E
      | next ρ3 =>
        obtain ⟨s, e, k⟩ := E
        exact ⟨s, e, fun σ2 H2 Hf2 x2 sm2 N2 S2 f2 => k σ2 H2 Hf2 x2 (x1.f.trans sm2) N2 S2 ⟨fun j hj => f2.1 j fun z => hj (hW j z), f2.2⟩⟩
    cases t with
    | true => exact ⟨H0, Hf0, Hf1, Lk, ρ, r, x0.trans x1, N, S.mono x1, e2, key Wa fun j h => List.mem_append_left _ h⟩
    | false => exact ⟨H0, Hf0, Hf1, Lk, ρ, r, x0.trans x1, N, S.mono x1, e2, key Wb fun j h => List.mem_append_right _ h⟩
/-! ### while -/
theorem ss_while {c : Expr} {pc : Ep} {sb : List Stmt} {bb : Bk} {pos : Pos} {st0 : List Stat} (hp : PassesOwn (model X.prog X.w) X.A X.env X.xe) (hc : PT X c (tT X.K Φ st0 pc)) (hb : PSs X sb (tS X (exB Φ bb) κr st0 (some st0) W)) (hw : weakS st st0 = true) :
    PS X (.While c sb [] pos) (tS X (exS Φ (.while_ pc bb st0)) κr st (some st0) W) :=
  (ps_while hp hc hb).imp fun D σ H ⟨H0, Hf0, Hf, Lk, ρ, r, x0, N, S, ev, E⟩ => by
    rw [exS] at ev
    refine ⟨fun m σ' H' => ∃ Hf' ρ', Ext H0 Hf0 H' Hf' ∧ Same Hf Hf' ∧ New H0 σ' st0 ∧ SOk X.K σ' H' Hf' Lk st0 ρ' ∧ Fr κr W σ σ' ∧ whileF (evT Φ pc) (exB Φ bb) m ρ' = some r, ⟨TURNS, Hf, ρ, x0, Same.refl _, N.weak hw, S.weak hw, Fr.same, ev⟩, ?_⟩
    rintro m σ' H' ⟨Hf', ρ', x', sm, N', S', f, ev'⟩
    cases m with
    | zero => rw [whileF] at ev'; cases ev'
    | succ m =>
      rw [whileF] at ev'
      obtain ⟨t, e1, e2⟩ := Option.bind_eq_some_iff.mp ev'
      refine ⟨Hf', Lk, ρ', t, S', e1, fun H1 Hf1 x1 => ?_⟩
      cases t with
      | false =>
        simp only [Bool.false_eq_true, if_false] at e2 ⊢
        cases e2
        obtain ⟨s, e, k⟩ := E
        cases e
        exact k σ' H1 Hf1 (x'.trans x1) (sm.trans x1.f) N' (S'.mono x1) f
      | true =>
        simp only [if_true] at e2 ⊢
        obtain ⟨q, e3, e4⟩ := Option.bind_eq_some_iff.mp e2
        refine ⟨fun σ2 H2 => ∃ Hf2 ρ2, Ext H0 Hf0 H2 Hf2 ∧ Same Hf Hf2 ∧ New H0 σ2 st0 ∧ SOk X.K σ2 H2 Hf2 Lk st0 ρ2 ∧ Fr κr W σ σ2 ∧ whileF (evT Φ pc) (exB Φ bb) m ρ2 = some r, fun σ2 H2 h => ⟨m, Nat.lt_succ_self m, h⟩, ?_⟩
        refine ⟨H0, Hf0, Hf1, Lk, ρ', q, x'.trans x1, N', S'.mono x1, e3, ?_⟩
        cases q with
        | ret d => cases e4; exact EndR.mv E f rfl
        | next ρ2 => exact ⟨st0, rfl, fun σ2 H2 Hf2 x2 sm2 N2 S2 f2 => ⟨Hf2, ρ2, x2, (sm.trans x1.f).trans sm2, N2, S2, ⟨fun j hj => (f2.1 j hj).trans (f.1 j hj), fun i s e => (f2.2 i s e).trans (f.2 i s e)⟩, e4⟩⟩
end
end Orp

/-! Orp, part 25: for. -/
namespace Orp
open PySem PySem.Spec PyProof.Rows L2
theorem setSs_in : ∀ {is : List Nat} {st : List Stat} {j : Nat} {t : Stat}, j ∈ is → (setSs is st)[j]? = some t → t = .sh
  | [], _, _, _, h, _ => nomatch h
  | i :: is, st, j, t, h, e => by
    by_cases z : j ∈ is
    · exact setSs_in (st := st.set i .sh) z e
    · rcases List.mem_cons.mp h with q | q
      · subst q
        have ne : ∀ {is : List Nat} {st : List Stat}, j ∉ is → (setSs is st)[j]? = st[j]? := by
          intro is
          induction is with
          | nil => intro st _; rfl
          | cons k is ih =>
            intro st hk
            show (setSs is (st.set k .sh))[j]? = _
            rw [ih fun z => hk (List.mem_cons_of_mem _ z), List.getElem?_set_ne fun z => hk (by rw [z]; exact List.mem_cons_self)]
        have e' : (setSs is (st.set j .sh))[j]? = some t := e
        rw [ne z] at e'
        exact (get_set_eq e').symm
      · exact absurd q z
theorem setSs_out : ∀ {is : List Nat} {st : List Stat} {j : Nat}, j ∉ is → (setSs is st)[j]? = st[j]?
  | [], _, _, _ => rfl
  | i :: is, st, j, h => by
    show (setSs is (st.set i .sh))[j]? = _
    rw [setSs_out fun z => h (List.mem_cons_of_mem _ z), List.getElem?_set_ne fun z => h (by rw [z]; exact List.mem_cons_self)]
theorem gTg_mono {K : Fg} {t : Tg} {x : V} {σ : L2.St} {H : Hp} {Q Q' : L2.St → Hp → Prop} (h : gTg K t x σ H Q) (m : ∀ σ' H', Q σ' H' → Q' σ' H') : gTg K t x σ H Q' := by
  cases t with
  | one i => exact m _ _ h
  | tup is =>
    obtain ⟨a, xs, h1, h2, h3, h4, h5⟩ := h
    exact ⟨a, xs, h1, h2, h3, h4, m _ _ h5⟩
section
variable {X : Cx} {Φ : Fn0} {st st' : List Stat} {κr : Kd} {W : List Nat}
theorem ss_for {tg iter : Expr} {body : List Stmt} {t : Tg} (hT : TieW κr t.slots) {w : Wk} {bb : Bk} {st0 : List Stat} {pos : Pos} (hp : PassesOwn (model X.prog X.w) X.A X.env X.xe) (hc : X.calm = true) (hpl : isPlain iter = true) (pi : PI X tg iter (tW X.K Φ st true w)) (pg : PG X tg (gTg X.K t)) (htg : isTupW w = true → ∃ is, t = .tup is)
    (hb : PSs X body (tS X (exB Φ bb) κr (setSs t.slots st0) (some st0) W)) (hw : weakS st st0 = true) :
    PS X (.For tg iter body [] pos) (tS X (exS Φ (.for_ t w bb st0)) κr st (some st0) (t.slots ++ W)) :=
  (ps_for hp hc pi pg hb (folded_plain hpl)).imp fun D σ H ⟨H0, Hf0, Hf, Lk, ρ, r, x0, N, S, ev, E⟩ => by
    rw [exS] at ev
    obtain ⟨ds, e1, e2⟩ := Option.bind_eq_some_iff.mp ev
    refine ⟨Hf, Lk, ρ, ds, S, e1, fun J H1 Hf1 Hb x1 sb hsub go => ?_⟩
    have hsub := hsub rfl
    refine ⟨fun i m σ' H' => ∃ Hf' ρ', m = ds.length - i ∧ i ≤ ds.length ∧ Ext H0 Hf0 H' Hf' ∧ Same Hf Hf' ∧ Same Hf1 Hf' ∧ New H0 σ' st0 ∧ SOk X.K σ' H' Hf' Lk st0 ρ' ∧ Fr κr (t.slots ++ W) σ σ' ∧ loopF (exB Φ bb) t (ds.drop i) ρ' = some r,
      ⟨ds.length, Hf1, ρ, rfl, Nat.zero_le _, x0.trans x1, x1.f, Same.refl _, N.weak hw, (S.mono x1).weak hw, Fr.same, by rw [List.drop_zero]; exact e2⟩, ?_⟩
    rintro i m σ' H' ⟨Hf', ρ', rfl, hi, x', sm, sm1, N', S', f, ev'⟩
    have sbH : Same Hb H' := fun b u q => by
      rcases hsub b u q with z | z
      · exact S'.sub _ _ (sm1 _ _ z)
      · exact S'.lk _ _ z
    obtain ⟨gs, gi⟩ := go H' Hf' sbH sm1 S'.sub i hi
    by_cases hlt : i < ds.length
    · right
      obtain ⟨gg, gy⟩ := gi ds[i] (List.getElem?_eq_getElem hlt)
      rw [List.drop_eq_getElem_cons hlt, loopF] at ev'
      obtain ⟨ρ1, e3, ev2⟩ := Option.bind_eq_some_iff.mp ev'
      obtain ⟨q, e4, e5⟩ := Option.bind_eq_some_iff.mp ev2
      refine ⟨gg, fun σ2 H2 => ∃ Hf2 ρ2, ds.length - (i + 1) = ds.length - (i + 1) ∧ i + 1 ≤ ds.length ∧ Ext H0 Hf0 H2 Hf2 ∧ Same Hf Hf2 ∧ Same Hf1 Hf2 ∧ New H0 σ2 st0 ∧ SOk X.K σ2 H2 Hf2 Lk st0 ρ2 ∧ Fr κr (t.slots ++ W) σ σ2 ∧ loopF (exB Φ bb) t (ds.drop (i + 1)) ρ2 = some r,
        fun σ2 H2 h => ⟨ds.length - (i + 1), by omega, h⟩, fun x H2 y => ?_⟩
      obtain ⟨Hf2, x2, bv⟩ := gy x H2 y
      refine gTg_mono (gTg_bind (S'.mono x2) bv htg e3) fun σ3 H3 ⟨eh, S3, l3, k3⟩ => ?_
      subst eh
      refine ⟨H0, Hf0, Hf2, Lk, ρ1, q, x'.trans x2, fun j s a g1 g2 g3 => ?_, S3, e4, ?_⟩
      · by_cases z : j ∈ t.slots
        · have := setSs_in z g1
          subst this
          cases g2
        · rw [setSs_out z] at g1
          rw [k3 j z] at g3
          exact N' j s a g1 g2 g3
      · cases q with
        | ret d => cases e5; exact EndR.mv (W := t.slots ++ W) E ⟨fun j hj => (by rw [List.mem_append, not_or] at hj; rw [k3 j hj.1, f.1 j (by rw [List.mem_append, not_or]; exact hj)]), fun i s e => (k3 i (hT i s e)).trans (f.2 i s e)⟩ rfl
        | next ρ2 =>
          refine ⟨st0, rfl, fun σ4 H4 Hf4 x4 sm4 N4 S4 f4 => ⟨Hf4, ρ2, rfl, hlt, x4, (sm.trans x2.f).trans sm4, (sm1.trans x2.f).trans sm4, N4, S4, ⟨fun j hj => ?_, fun i s e => (f4.2 i s e).trans ((k3 i (hT i s e)).trans (f.2 i s e))⟩, e5⟩⟩
          rw [List.mem_append, not_or] at hj
          rw [f4.1 j hj.2, k3 j hj.1, f.1 j (by rw [List.mem_append, not_or]; exact hj)]
    · left
      have e : i = ds.length := by omega
      subst e
      rw [List.drop_length, loopF] at ev'
      cases ev'
      obtain ⟨s, e, k⟩ := E
      cases e
      exact ⟨gs rfl, k σ' H' Hf' x' sm N' S' f⟩
/-! ### an own thing is locked for a statement -/
def Stat.lkd : Stat → Bool
  | .lck => true
  | .dIl => true
  | .dTl => true
  | _ => false
theorem mut_at {K : Fg} {σ : L2.St} {H Hf Lk : Hp} {ρ : Rho} {v : Nat} {s : Stat} (S : SOk K σ H Hf Lk st ρ) (hs : st[v]? = some s) (hm : s.mut = true) : ∃ a o, σ[v]? = some (some (.ref a)) ∧ H a = some o ∧ Hf a = none ∧ Lk a = none ∧
    (∀ (Hf2 Lk2 H2 : Hp) d, ρ[v]? = some d → Same Hf Hf2 → Lk2 a = some o → SlotOk K H2 Hf2 Lk2 (lockS s) (some (.ref a)) d) ∧
    (∀ (Hf2 Lk2 Lk3 H2 : Hp) d, Lk2 a = some o → SlotOk K H2 Hf2 Lk2 (lockS s) (some (.ref a)) d → H2 a = some o → Hf2 a = none → Lk3 a = none → SlotOk K H2 Hf2 Lk3 s (some (.ref a)) d) := by
  have hv : v < σ.length := by rw [← S.ls]; exact (List.getElem?_eq_some_iff.mp hs).1
  have hr : v < ρ.length := by rw [S.lr]; exact hv
  have q := S.slot v s σ[v] ρ[v] hs (List.getElem?_eq_getElem hv) (List.getElem?_eq_getElem hr)
  have rd : ∀ d, ρ[v]? = some d → d = ρ[v] := fun d h => by rw [List.getElem?_eq_getElem hr] at h; exact (Option.some.inj h).symm
  have val : ∀ {A : Type} {P : A → Prop}, (∃ a, P a) → True := fun _ => trivial
  cases s with
  | own =>
    obtain ⟨a, xs, ds, h1, h2, h3, h4, h5, h6⟩ := q
    refine ⟨a, _, by rw [List.getElem?_eq_getElem hv, h1], h3, h4, h5, fun Hf2 Lk2 H2 d hd sm hl => ?_, fun Hf2 Lk2 Lk3 H2 d hl hq g1 g2 g3 => ?_⟩
    · rw [rd d hd]
      exact ⟨a, xs, ds, rfl, h2, hl, RepAll.mono sm _ h6⟩
    · obtain ⟨b, ys, es, c1, c2, c3, c4⟩ := hq
      cases c1
      rw [hl] at c3
      cases c3
      exact ⟨a, xs, es, rfl, c2, g1, g2, g3, c4⟩
  | dI =>
    obtain ⟨a, es, ep, ks, h1, h2, h3, h4, h5, h6⟩ := q
    refine ⟨a, _, by rw [List.getElem?_eq_getElem hv, h1], h3, h4, h5, fun Hf2 Lk2 H2 d hd sm hl => ?_, fun Hf2 Lk2 Lk3 H2 d hl hq g1 g2 g3 => ?_⟩
    · rw [rd d hd]
      exact ⟨a, es, ep, ks, rfl, h2, hl, h6.mono sm⟩
    · obtain ⟨b, es', ep', ks', c1, c2, c3, c4⟩ := hq
      cases c1
      rw [hl] at c3
      have g1' : H2 a = some (DO a es' ep') := by rw [g1]; exact c3
      exact ⟨a, es', ep', ks', rfl, c2, g1', g2, g3, c4⟩
  | dT =>
    obtain ⟨a, es, ep, ks, h1, h2, h3, h4, h5, h6⟩ := q
    refine ⟨a, _, by rw [List.getElem?_eq_getElem hv, h1], h3, h4, h5, fun Hf2 Lk2 H2 d hd sm hl => ?_, fun Hf2 Lk2 Lk3 H2 d hl hq g1 g2 g3 => ?_⟩
    · rw [rd d hd]
      exact ⟨a, es, ep, ks, rfl, h2, hl, h6.mono sm⟩
    · obtain ⟨b, es', ep', ks', c1, c2, c3, c4⟩ := hq
      cases c1
      rw [hl] at c3
      have g1' : H2 a = some (DO a es' ep') := by rw [g1]; exact c3
      exact ⟨a, es', ep', ks', rfl, c2, g1', g2, g3, c4⟩
  | _ => cases hm
theorem lock_mut (s : Stat) : (lockS s).mut = false := by cases s <;> rfl
/-- a statement that walks an own list (or dict) by its name -/
theorem ss_lock {s : Stmt} {ex : Rho → Option Res} {v : Nat} {m : Stat} {s0 : List Stat} (hs : st[v]? = some m) (hm : m.mut = true) (h0 : s0[v]? = some (lockS m)) (hv : v ∉ W) (hW : ∀ (j : Nat) (t : Stat), s0[j]? = some t → t.lkd = true → j ∉ W ∧ (j = v ∨ st[j]? = some t))
    (h : PS X s (tS X ex κr (st.set v (lockS m)) (some s0) W)) : PS X s (tS X ex κr st (some (s0.set v m)) W) :=
  h.imp fun D σ H ⟨H0, Hf0, Hf, Lk, ρ, r, x0, N, S, ev, E⟩ => by
    obtain ⟨a, o, h1, h2, h3, h4, lockIt, unlockIt⟩ := mut_at S hs hm
    have hvl : v < st.length := (List.getElem?_eq_some_iff.mp hs).1
    have n0 : H0 a = none := N v m a hs hm h1
    have ne : ∀ (j : Nat) (t : Stat) (b : Addr), v ≠ j → st[j]? = some t → t.mut = true → σ[j]? = some (some (.ref b)) → b ≠ a := fun j t b hj g1 g2 g3 z => by
      subst z
      exact S.ne v j b m t hj hs g1 hm g2 h1 g3
    refine ⟨H0, Hf0, Hf, upd Lk a o, ρ, r, x0, fun j t b g1 g2 g3 => ?_, ?_, ev, ?_⟩
    · by_cases e : v = j
      · subst e
        have := get_set_eq g1
        subst this
        rw [lock_mut] at g2
        cases g2
      · rw [List.getElem?_set_ne e] at g1
        exact N j t b g1 g2 g3
    · refine ⟨by rw [List.length_set]; exact S.ls, S.lr, S.sub, fun b u q => ?_, fun b q => ?_, fun j t o' d g1 g2 g3 => ?_, fun j k b t u hjk g1 g2 m1 m2 c1 c2 => ?_⟩
      · by_cases z : b = a
        · subst z; rw [upd_same] at q; cases q; exact h2
        · rw [upd_ne z] at q; exact S.lk _ _ q
      · by_cases z : b = a
        · subst z; exact h3
        · rw [upd_ne z] at q; exact S.dj b q
      · by_cases e : v = j
        · subst e
          have := get_set_eq g1
          subst this
          rw [h1] at g2
          cases g2
          exact lockIt Hf _ H d g3 (Same.refl _) upd_same
        · rw [List.getElem?_set_ne e] at g1
          have q := S.slot j t o' d g1 g2 g3
          have up : ∀ {b : Addr} {u : HO}, Lk b = some u → upd Lk a o b = some u := fun {b u} e => by
            rw [upd_ne (ne_of_none e h4)]; exact e
          cases t with
          | dead => trivial
          | sh => exact q
          | own => obtain ⟨b, ys, es, c1, c2, c3, c4, c5, c6⟩ := q; exact ⟨b, ys, es, c1, c2, c3, c4, by rw [upd_ne (ne j _ b e g1 rfl (by rw [g2, c1]))]; exact c5, c6⟩
          | lck => obtain ⟨b, ys, es, c1, c2, c3, c6⟩ := q; exact ⟨b, ys, es, c1, c2, up c3, c6⟩
          | dI => obtain ⟨b, ys, ep, es, c1, c2, c3, c4, c5, c6⟩ := q; exact ⟨b, ys, ep, es, c1, c2, c3, c4, by rw [upd_ne (ne j _ b e g1 rfl (by rw [g2, c1]))]; exact c5, c6⟩
          | dT => obtain ⟨b, ys, ep, es, c1, c2, c3, c4, c5, c6⟩ := q; exact ⟨b, ys, ep, es, c1, c2, c3, c4, by rw [upd_ne (ne j _ b e g1 rfl (by rw [g2, c1]))]; exact c5, c6⟩
          | dIl => obtain ⟨b, ys, ep, es, c1, c2, c3, c6⟩ := q; exact ⟨b, ys, ep, es, c1, c2, up c3, c6⟩
          | dTl => obtain ⟨b, ys, ep, es, c1, c2, c3, c6⟩ := q; exact ⟨b, ys, ep, es, c1, c2, up c3, c6⟩
      · have n1 : v ≠ j := fun e => by
          subst e
          have := get_set_eq g1
          subst this
          rw [lock_mut] at m1
          cases m1
        have n2 : v ≠ k := fun e => by
          subst e
          have := get_set_eq g2
          subst this
          rw [lock_mut] at m2
          cases m2
        rw [List.getElem?_set_ne n1] at g1
        rw [List.getElem?_set_ne n2] at g2
        exact S.ne j k b t u hjk g1 g2 m1 m2 c1 c2
    · cases r with
      | ret d => exact E
      | next ρ2 =>
        obtain ⟨s, e, k⟩ := E
        cases e
        refine ⟨s0, rfl, fun σ' H' Hf' x' sm N' S' f => k σ' H' Hf' x' sm ?_ ?_ f⟩
        · intro j t b g1 g2 g3
          by_cases e : v = j
          · subst e
            rw [f.1 v hv, h1] at g3
            cases g3
            exact n0
          · rw [List.getElem?_set_ne e] at g1
            exact N' j t b g1 g2 g3
        · have ha : H' a = some o := S'.lk _ _ upd_same
          have hfa : Hf' a = none := S'.dj a (by rw [upd_same]; exact fun z => nomatch z)
          have hv' : σ'[v]? = some (some (.ref a)) := by rw [f.1 v hv]; exact h1
          have muts : ∀ (j : Nat) (t : Stat) (b : Addr), v ≠ j → s0[j]? = some t → t.mut = true → σ'[j]? = some (some (.ref b)) → b ≠ a ∧ Lk b = none := fun j t b hj g1 g2 g3 => by
            have hjr : j < ρ2.length := by rw [S'.lr]; exact (List.getElem?_eq_some_iff.mp g3).1
            have q := S'.slot j t _ ρ2[j] g1 g3 (List.getElem?_eq_getElem hjr)
            have key : ∀ c, upd Lk a o c = none → c ≠ a ∧ Lk c = none := fun c hc => by
              have z : c ≠ a := fun z => by subst z; rw [upd_same] at hc; cases hc
              rw [upd_ne z] at hc
              exact ⟨z, hc⟩
            cases t with
            | own => obtain ⟨c, ys, es, c1, c2, c3, c4, c5, c6⟩ := q; cases c1; exact key _ c5
            | dI => obtain ⟨c, ys, ep, es, c1, c2, c3, c4, c5, c6⟩ := q; cases c1; exact key _ c5
            | dT => obtain ⟨c, ys, ep, es, c1, c2, c3, c4, c5, c6⟩ := q; cases c1; exact key _ c5
            | _ => cases g2
          refine ⟨by rw [List.length_set]; exact S'.ls, S'.lr, S'.sub, fun b u q => ?_, fun b q => ?_, fun j t o' d g1 g2 g3 => ?_, fun j k b t u hjk g1 g2 m1 m2 c1 c2 => ?_⟩
          · exact S'.lk b u (by rw [upd_ne (ne_of_none q h4)]; exact q)
          · exact S'.dj b (by by_cases z : b = a; · subst z; rw [upd_same]; exact fun z => nomatch z
                              · rw [upd_ne z]; exact q)
          · by_cases e : v = j
            · subst e
              have := get_set_eq g1
              subst this
              rw [hv'] at g2
              cases g2
              exact unlockIt Hf' _ Lk H' d upd_same (S'.slot v _ _ d h0 hv' g3) ha hfa h4
            · rw [List.getElem?_set_ne e] at g1
              have q := S'.slot j t o' d g1 g2 g3
              cases ht : t.lkd with
              | true =>
                obtain ⟨w1, w2⟩ := hW j t g1 ht
                have w3 : st[j]? = some t := w2.elim (fun z => absurd z.symm e) id
                rw [f.1 j w1] at g2
                have hjr : j < ρ.length := by rw [S.lr]; exact (List.getElem?_eq_some_iff.mp g2).1
                have q0 := S.slot j t o' ρ[j] w3 g2 (List.getElem?_eq_getElem hjr)
                cases t with
                | lck =>
                  obtain ⟨b, ys, es, c1, c2, c3, c6⟩ := q0
                  obtain ⟨b', ys', es', c1', c2', c3', c6'⟩ := q
                  rw [c1] at c1'
                  cases c1'
                  exact ⟨b, ys', es', c1, c2', by rw [upd_ne (ne_of_none c3 h4)] at c3'; exact c3', c6'⟩
                | dIl =>
                  obtain ⟨b, ys, ep, es, c1, c2, c3, c6⟩ := q0
                  obtain ⟨b', ys', ep', es', c1', c2', c3', c6'⟩ := q
                  rw [c1] at c1'
                  cases c1'
                  exact ⟨b, ys', ep', es', c1, c2', by rw [upd_ne (ne_of_none c3 h4)] at c3'; exact c3', c6'⟩
                | dTl =>
                  obtain ⟨b, ys, ep, es, c1, c2, c3, c6⟩ := q0
                  obtain ⟨b', ys', ep', es', c1', c2', c3', c6'⟩ := q
                  rw [c1] at c1'
                  cases c1'
                  exact ⟨b, ys', ep', es', c1, c2', by rw [upd_ne (ne_of_none c3 h4)] at c3'; exact c3', c6'⟩
                | _ => cases ht
              | false =>
                cases t with
                | dead => trivial
                | sh => exact q
                | own => obtain ⟨b, ys, es, c1, c2, c3, c4, c5, c6⟩ := q; exact ⟨b, ys, es, c1, c2, c3, c4, (muts j _ b e g1 rfl (by rw [g2, c1])).2, c6⟩
                | dI => obtain ⟨b, ys, ep, es, c1, c2, c3, c4, c5, c6⟩ := q; exact ⟨b, ys, ep, es, c1, c2, c3, c4, (muts j _ b e g1 rfl (by rw [g2, c1])).2, c6⟩
                | dT => obtain ⟨b, ys, ep, es, c1, c2, c3, c4, c5, c6⟩ := q; exact ⟨b, ys, ep, es, c1, c2, c3, c4, (muts j _ b e g1 rfl (by rw [g2, c1])).2, c6⟩
                | _ => cases ht
          · by_cases e1 : v = j
            · subst e1
              rw [hv'] at c1
              cases c1
              rw [List.getElem?_set_ne hjk] at g2
              exact (muts k u a hjk g2 m2 c2).1 rfl
            · by_cases e2 : v = k
              · subst e2
                rw [hv'] at c2
                cases c2
                rw [List.getElem?_set_ne e1] at g1
                exact (muts j t a e1 g1 m1 c1).1 rfl
              · rw [List.getElem?_set_ne e1] at g1
                rw [List.getElem?_set_ne e2] at g2
                exact S'.ne j k b t u hjk g1 g2 m1 m2 c1 c2
end
end Orp

/-! Orp, part 25b: y = {.. for ..}, the stores exchanged. -/
namespace Orp
open PySem PySem.Spec PyProof.Rows L2
section
variable {X : Cx} {Φ : Fn0} {st stE : List Stat} {kx vx tg iter : Expr} {ifs : List Expr} {gs : List Comprehension} {scope : Scope} {own : List (Str × Nat)} {t : Tg} {w : Wk} {q p p2 : Ep} {r : Cl} {b : Bool} {κ κ2 κr : Kd} {pos pos' : Pos} {is : List Nat} {i l : Nat} {x : Str}
theorem dict_core {tk : Bool} {pins : List (Addr × Obj)} {s : Shared} {σ : L2.St} {H Hf Lk : Hp} {ρ : Rho} {d : Orp.D} {use : Option (Value → Sem Unit)} {Qf : Value → Shared → Prop} (hu : X.A.units + 200 < cLine) (hc : X.calm = true) (hN : X.N.Nodup) (C : CompOk X Φ st stE tg iter ifs gs scope own t w q r b) (hk : κ2 = .sh ∨ κ2 = .fr)
    (pk : ∀ s H C cl fp, PE (BX X scope s H C cl fp) kx (tP X.K Φ stE κ p)) (pv : ∀ s H C cl fp, PE (BX X scope s H C cl fp) vx (tP X.K Φ stE κ2 p2)) (I : Inv X pins σ H s) (S : SOk X.K σ H Hf Lk st ρ) (ev : evX Φ (.dcomp is tk p p2 (.cons t w q r)) ρ = some d)
    (hRR : ∀ D C s' m H' Hf', Inv X pins σ H' s' → Ext H Hf H' Hf' → RR X.K H H' Hf' (dkd tk) (.ref D) d → s'.heap.Ns C m → FpOk X pins H' C → compPost (model X.prog X.w) X.A X.xe use Qf (.ref D) C (.ok .next) s') :
    wpAny (model X.prog X.w) X.A (comprehension (.DictComp kx vx (⟨tg, iter, ifs, 0⟩ :: gs) scope pos) scope X.env pos' (newObj (.type "dict") (.dict #[])) false (eval iter X.env) use) Qf X.xe s := by
  rw [evX] at ev
  obtain ⟨kvs, e1, rfl⟩ := Option.map_eq_some_iff.mp ev
  rw [evD_eq, evG] at e1
  obtain ⟨ds, e4, e5⟩ := Option.bind_eq_some_iff.mp e1
  refine comp_core (Acc := AccD X.K tk) (kf := kfD Φ tk p p2) (o0 := fun _ => { cls := .type "dict", data := .dict #[] }) (u0 := fun D => DO D #[] 0) compX_dict hc hN I S C.hp C.hi C.ok C.htg C.hd C.ho C.hg C.ht C.hr accD_mono accD_D
    (fun D Lk s0 H0 C cl fp pins s σ H Hf ρ a a' I' S' ha hk' => emitD_ok (B := BX X scope s0 H0 C cl fp) hu rfl hk (pk _ _ _ _ _) (pv _ _ _ _ _) I' S' ha hk')
    (fun s Q E h => wpAny_newObj_type h) (fun pins σ H s I' => new_dict I') (fun D H Hf h1 h2 => ⟨#[], 0, h1, h2, dc_empty⟩) e4 e5 fun D C' s' m H' Hf' I' x' ha hn hm hfp => ?_
  obtain ⟨es, ep, h1, h2, h3⟩ := ha
  exact hRR D C' s' m H' Hf' I' x' (rr_d hn h1 h2 h3) hm hfp
theorem stOf_dkd (tk : Bool) : stOf (dkd tk) = some (dSt tk) := by
  cases tk <;> rfl
theorem ss_asgD (hT : TieW κr [i]) {tk : Bool} (hu : X.A.units + 200 < cLine) (hN : X.N.Nodup) (hi : X.N[i]? = some x) (hx : X.env.scope.names.lookup x = some .local) (hc : X.calm = true)
    (hsw : swapsWith (.DictComp kx vx (⟨tg, iter, ifs, 0⟩ :: gs) scope pos) (some (.Name x pos')) l X.env = pure true) (C : CompOk X Φ st stE tg iter ifs gs scope own t w q r b) (hk : κ2 = .sh ∨ κ2 = .fr) (pk : ∀ s H C cl fp, PE (BX X scope s H C cl fp) kx (tP X.K Φ stE κ p))
    (pv : ∀ s H C cl fp, PE (BX X scope s H C cl fp) vx (tP X.K Φ stE κ2 p2)) {spos : Pos} (hl : spos.line = l) :
    PS X (.Assign [.Name x pos'] (.DictComp kx vx (⟨tg, iter, ifs, 0⟩ :: gs) scope pos) spos) (tS X (exS Φ (.asg (.one i) (.dcomp is tk p p2 (.cons t w q r)))) κr st (some (st.set i (dSt tk))) [i]) := by
  refine ⟨fun pins s σ H D I ⟨H0, Hf0, Hf, Lk, ρ, r, x0, N, S, ev, E⟩ => ?_⟩
  obtain ⟨d, e1, rfl⟩ := ex_asg1 ev
  subst hl
  rw [exec_Assign_Name_used _ _ _ _ hsw]
  refine wpAny_bind (wpAny_standAt (wpAny_bind ?_))
  refine wpAny_bind (thn (dict_core (use := some (assign (.Name x pos') X.env)) (pos' := firstIterPos (⟨tg, iter, ifs, 0⟩ :: gs) pos) (Qf := fun _ s' => SP X pins D .next s') hu hc hN C hk pk pv I S e1 fun L C' s' m H' Hf' I' x' rr hn f => ?_) fun _ s' hq => wpAny_pure (wpAny_pure hq))
  show wpAny _ _ (assign (.Name x pos') X.env (.ref L)) _ _ _
  obtain ⟨f0, f1, f2, f3, f4, f5⟩ := f
  refine wpAny_assign_Name (store_ok2 (v := V.ref L) I' hN hi (.inl hx) rfl (fun s2 I2 ⟨a, sb, ha⟩ => ?_) (.inr hx))
  have haC : C' ≠ a := by
    rcases ha with z | z
    · rw [z]; exact f1
    · exact fun e => f4 x a z e.symm
  refine ⟨m, hn.sameBut sb haC, fun h3 sb3 => ?_⟩
  exact ⟨_, H', I2.turned (t' := s2.toks) (fun b o hb e => (sb3.2 b hb).trans e) f0 f1 f3 f4 f5, put_end hT x0 N S (stOf_dkd tk) E x' rr⟩
end
end Orp

/-! Orp, part 26: a def that changes a thing of its caller's, its last argument. -/
namespace Orp
open PySem PySem.Spec PyProof.Rows L2
/-- without one object -/
def rmH (H : Hp) (a : Addr) : Hp := fun b => if b = a then none else H b
theorem rmH_ne {H : Hp} {a b : Addr} (h : b ≠ a) : rmH H a b = H b := if_neg h
theorem rmH_at {H : Hp} {a : Addr} : rmH H a a = none := if_pos rfl
def Kd.isMu : Kd → Bool
  | .mu _ _ => true
  | _ => false
/-- what a def promises that changes its last argument -/
def spM (K : Fg) (s : Stat) (F : List D → Option D) : Sp := fun vs H Q _ => ∃ Hf us ds a x r x', vs = us ++ [.ref a] ∧ Same Hf H ∧ RepAll K Hf us ds ∧ s.mut = true ∧ SlotOk K H Hf noLk s (some (.ref a)) x ∧ F (ds ++ [x]) = some (.tuple [r, x']) ∧
  ∀ v H' Hf', Ext (rmH H a) Hf H' Hf' → Rep K Hf' v r → SlotOk K H' Hf' noLk s (some (.ref a)) x' → Q v H'
def spK (K : Fg) (κ : Kd) (F : List D → Option D) : Sp := match κ with
  | .mu _ s => spM K s F
  | κ => spP K κ F
theorem spK_p {K : Fg} {κ : Kd} {F : List D → Option D} (h : κ.isMu = false) : spK K κ F = spP K κ F := by
  cases κ <;> first | rfl | cases h
theorem slot_lk {K : Fg} {H Hf Lk Lk' : Hp} {s : Stat} {a : Addr} {x : D} (hm : s.mut = true) (hl : Lk' a = none) (h : SlotOk K H Hf Lk s (some (.ref a)) x) : SlotOk K H Hf Lk' s (some (.ref a)) x := by
  cases s with
  | own => obtain ⟨b, xs, ds, e, h2, h3, h4, _, h6⟩ := h; cases e; exact ⟨a, xs, ds, rfl, h2, h3, h4, hl, h6⟩
  | dI => obtain ⟨b, xs, ep, ds, e, h2, h3, h4, _, h6⟩ := h; cases e; exact ⟨a, xs, ep, ds, rfl, h2, h3, h4, hl, h6⟩
  | dT => obtain ⟨b, xs, ep, ds, e, h2, h3, h4, _, h6⟩ := h; cases e; exact ⟨a, xs, ep, ds, rfl, h2, h3, h4, hl, h6⟩
  | _ => cases hm
/-- what is known of the object of a slot that may change -/
theorem slot_obj {K : Fg} {H Hf Lk : Hp} {s : Stat} {a : Addr} {x : D} (hm : s.mut = true) (h : SlotOk K H Hf Lk s (some (.ref a)) x) : ∃ o, H a = some o ∧ Hf a = none ∧ Lk a = none ∧ ∀ (H' : Hp), H' a = some o → SlotOk K H' Hf Lk s (some (.ref a)) x := by
  cases s with
  | own => obtain ⟨b, xs, ds, e, h2, h3, h4, h5, h6⟩ := h; cases e; exact ⟨_, h3, h4, h5, fun H' e => ⟨a, xs, ds, rfl, h2, e, h4, h5, h6⟩⟩
  | dI => obtain ⟨b, xs, ep, ds, e, h2, h3, h4, h5, h6⟩ := h; cases e; exact ⟨_, h3, h4, h5, fun H' e => ⟨a, xs, ep, ds, rfl, h2, e, h4, h5, h6⟩⟩
  | dT => obtain ⟨b, xs, ep, ds, e, h2, h3, h4, h5, h6⟩ := h; cases e; exact ⟨_, h3, h4, h5, fun H' e => ⟨a, xs, ep, ds, rfl, h2, e, h4, h5, h6⟩⟩
  | _ => cases hm
section
variable {X : Cx} {Φ : Fn0} {st : List Stat} {e a b c : Expr} {p q r : Ep} {κ κa κb κr : Kd} {pos pos' : Pos} {i j t : Nat} {x y : Str} {s : Stat}
/-- the slot's address -/
theorem mut_ref {K : Fg} {σ : L2.St} {H Hf Lk : Hp} {ρ : Rho} {d : D} (S : SOk K σ H Hf Lk st ρ) (hs : st[i]? = some s) (hm : s.mut = true) (hd : ρ[i]? = some d) : ∃ a, σ[i]? = some (some (.ref a)) ∧ SlotOk K H Hf Lk s (some (.ref a)) d := by
  have hi : i < σ.length := by rw [← S.ls]; exact (List.getElem?_eq_some_iff.mp hs).1
  have q := S.slot i _ σ[i] d hs (List.getElem?_eq_getElem hi) hd
  rw [List.getElem?_eq_getElem hi]
  generalize σ[i] = o at q
  cases s with
  | own => obtain ⟨a, xs, ds, e, h⟩ := q; subst e; exact ⟨a, rfl, a, xs, ds, rfl, h⟩
  | dI => obtain ⟨a, xs, ep, ds, e, h⟩ := q; subst e; exact ⟨a, rfl, a, xs, ep, ds, rfl, h⟩
  | dT => obtain ⟨a, xs, ep, ds, e, h⟩ := q; subst e; exact ⟨a, rfl, a, xs, ep, ds, rfl, h⟩
  | _ => cases hm
/-- behind a call that changed the thing of slot i -/
theorem SOk.mu {K : Fg} {σ : L2.St} {H Hf Lk H' Hf' : Hp} {ρ : Rho} {ad : Addr} {x : D} (S : SOk K σ H Hf Lk st ρ) (hs : st[i]? = some s) (hm : s.mut = true) (hv : σ[i]? = some (some (.ref ad))) (x1 : Ext (rmH H ad) Hf H' Hf') (hl : Lk ad = none) (new : SlotOk K H' Hf' noLk s (some (.ref ad)) x) (hH : ∃ o, H ad = some o) :
    SOk K σ H' Hf' Lk st (ρ.set i x) := by
  obtain ⟨o, ho⟩ := hH
  obtain ⟨o', ho', hf', _, _⟩ := slot_obj hm new
  have xm : Ext H Hf (upd H' ad o) Hf' := ⟨fun b u e => by
      by_cases z : b = ad
      · subst z; rw [upd_same]; rw [ho] at e; exact e
      · rw [upd_ne z]; exact x1.s b u (by rw [rmH_ne z]; exact e), x1.f, fun b u e => by
      by_cases z : b = ad
      · subst z; rw [hf'] at e; cases e
      · rw [upd_ne z]; exact x1.sub b u e, fun b h1 h2 => by
      by_cases z : b = ad
      · subst z; exact hf'
      · exact x1.n b (by rw [rmH_ne z]; exact h1) h2⟩
  have e : upd (upd H' ad o) ad o' = H' := funext fun b => by
    by_cases z : b = ad
    · subst z; rw [upd_same, ho']
    · rw [upd_ne z, upd_ne z]
  have := (S.mono xm).chg (o := o') (d := x) hs hm hv hf' hl (by rw [e]; exact slot_lk hm hl new)
  rwa [e] at this
theorem Ext.mu {H0 Hf0 H Hf H' Hf' : Hp} {ad : Addr} (x0 : Ext H0 Hf0 H Hf) (x1 : Ext (rmH H ad) Hf H' Hf') (h0 : H0 ad = none) : Ext H0 Hf0 H' Hf' where
  s := fun b u e => x1.s b u (by rw [rmH_ne (fun z => by subst z; rw [h0] at e; cases e)]; exact x0.s b u e)
  f := x0.f.trans x1.f
  sub := x1.sub
  n := fun b h1 h2 => x1.n b (by
    have : b ≠ ad := fun z => by subst z; exact h1 h0
    rw [rmH_ne this]
    exact fun z => h1 (x0.s.free z)) (x0.n b h1 h2)
/-! ### x = f(a, d), x = x + f(a, d) -/
theorem ex_mc {f : Nat} {aug : Bool} {ρ : Rho} {r : Res} (h : exS Φ (.mc aug t f (.cons p .nil) i) ρ = some r) : ∃ d1 x rr x' d, evX Φ p ρ = some d1 ∧ ρ[i]? = some x ∧ Φ f [d1, x] = some (.tuple [rr, x']) ∧ (if aug = true then ∃ a0, ρ[t]? = some a0 ∧ augF .add a0 rr = some d else rr = d) ∧ r = .next ((ρ.set t d).set i x') := by
  rw [exS, evXs, evXs] at h
  obtain ⟨ds, h1, h⟩ := Option.bind_eq_some_iff.mp h
  obtain ⟨d1, h2, h1⟩ := Option.bind_eq_some_iff.mp h1
  cases h1
  obtain ⟨x, h3, h⟩ := Option.bind_eq_some_iff.mp h
  obtain ⟨y, h4, h⟩ := Option.bind_eq_some_iff.mp h
  obtain ⟨⟨rr, x'⟩, h5, h⟩ := Option.bind_eq_some_iff.mp h
  obtain ⟨d, h6, rfl⟩ := Option.map_eq_some_iff.mp h
  have : y = .tuple [rr, x'] := by
    unfold pairOf at h5
    split at h5 <;> cases h5
    rfl
  subst this
  refine ⟨d1, x, rr, x', d, h2, h3, h4, ?_, rfl⟩
  cases aug with
  | true =>
    rw [if_pos rfl] at h6 ⊢
    obtain ⟨a0, h7, h8⟩ := Option.bind_eq_some_iff.mp h6
    exact ⟨a0, h7, h8⟩
  | false => cases h6; rfl
/-- the call by its parts -/
theorem pe_mc {f : Nat} {k : Nat} {fa : Addr} {fd : FuncData} {ps : List Str} {fn : Str} {p0 p1 cpos : Pos} (F : FnOk X.prog X.w X.K X.mg X.base CX0 k fa fd ps (spM X.K s (Φ f))) (hr : Room k X.A) (hg : Gl X fn) (hm : X.mg fn = some (.ref fa)) (hkp : PySem.W.keepIn X.K (.ref fa) = true) (hb : Binds X.K fd ps []) (hdb : (fn == ("__debug__" : Str)) = false)
    (hp : isPlain a = true) (ha : PE X a (tP X.K Φ st κa p)) (hi : X.N[i]? = some y) (hv : Vis X.env.scope y) (hd : (y == ("__debug__" : Str)) = false) (hcd : (y == ("__classdict__" : Str)) = false) :
    PE X (.Call (.Name fn p0) [a, .Name y p1] [] cpos) (tCall (spM X.K s (Φ f)) [] E0 (tCons (tP X.K Φ st κa p) (tCons (tVar i) tNil))) :=
  pe_call F hr hg hm hkp hb .nil pass0 (pa_cons ha (pa_cons (pe_var hi hv hd hcd) pa_nil rfl) (star_plain hp)) hdb (star_plain hp) rfl
theorem mc_use {K : Fg} {σ : L2.St} {H Hf Lk : Hp} {ρ : Rho} {f : Nat} {d1 x rr x' : D} {Q : VK} (S : SOk K σ H Hf Lk st ρ) (hs : st[i]? = some s) (hm : s.mut = true) (hk : κa = .sh ∨ κa = .fr) (e1 : evX Φ p ρ = some d1) (e2 : ρ[i]? = some x) (e3 : Φ f [d1, x] = some (.tuple [rr, x']))
    (k : ∀ ad v H1 Hf1 H' Hf', σ[i]? = some (some (.ref ad)) → Ext H Hf H1 Hf1 → Ext (rmH H1 ad) Hf1 H' Hf' → Rep K Hf' v rr → SlotOk K H' Hf' noLk s (some (.ref ad)) x' → SOk K σ H' Hf' Lk st (ρ.set i x') → Q v H') :
    tCall (spM K s (Φ f)) [] E0 (tCons (tP K Φ st κa p) (tCons (tVar i) tNil)) σ H Q := by
  refine use1 S e1 fun v H1 Hf1 x1 r1 => ?_
  obtain ⟨Hf2, x2, _, r2⟩ := RR.freeze hk x1 r1
  have S2 := S.mono x2
  obtain ⟨ad, hσ, hsl⟩ := mut_ref S2 hs hm e2
  obtain ⟨o, ho, _, hl, _⟩ := slot_obj hm hsl
  refine ⟨.ref ad, hσ, ?_⟩
  show spM K s (Φ f) ([v, .ref ad] ++ []) H1 Q E0
  exact ⟨Hf2, [v], [d1], ad, x, rr, x', rfl, x2.sub, .cons r2 .nil, hm, slot_lk hm rfl hsl, e3, fun w H' Hf' x3 r3 s3 => k ad w H1 Hf2 H' Hf' hσ x2 x3 r3 s3 (S2.mu hs hm hσ x3 hl s3 ⟨o, ho⟩)⟩
/-- the end of it -/
theorem mc_end (hT : TieW κr [t]) (hit : t ≠ i) {H0 Hf0 H Hf Lk H1 Hf1 H' Hf' : Hp} {σ : L2.St} {ρ : Rho} {D : Ends} {ad : Addr} {w : V} {d x' : Orp.D} (x0 : Ext H0 Hf0 H Hf) (N : New H0 σ st) (hs : st[i]? = some s) (hm : s.mut = true) (hσ : σ[i]? = some (some (.ref ad)))
    (E : EndS X H0 Hf0 Hf Lk κr (some (st.set t .sh)) [t, i] σ D (.next ((ρ.set t d).set i x'))) (x1 : Ext H Hf H1 Hf1) (x2 : Ext (rmH H1 ad) Hf1 H' Hf') (S' : SOk X.K σ H' Hf' Lk st (ρ.set i x')) (r : Rep X.K Hf' w d) : D.nx (σ.set t (some w)) H' := by
  obtain ⟨s1, e, k⟩ := E
  cases e
  have n0 : H0 ad = none := N i _ ad hs hm hσ
  have xx := (x0.trans x1).mu x2 n0
  have r' : RR X.K H' H' Hf' .sh w d := r
  refine k _ H' Hf' xx (x1.f.trans x2.f) (N.put xx r' rfl t) ?_ ⟨fun j hj => List.getElem?_set_ne fun z => hj (by rw [z]; exact List.mem_cons_self), fun m s' e => List.getElem?_set_ne fun z => hT m s' e (by rw [z]; exact List.mem_cons_self)⟩
  rw [List.set_comm _ _ hit]
  exact S'.put (Ext.refl S'.sub) r' rfl t
theorem ss_mc {f : Nat} {k : Nat} {fa : Addr} {fd : FuncData} {ps : List Str} {fn : Str} {p0 p1 cpos : Pos} (hT : TieW κr [t]) (hit : t ≠ i) (hN : X.N.Nodup) (ht : X.N[t]? = some x) (hx : Loc X.env.scope x) (hf : X.fn x = true ∨ X.env.scope.names.lookup x = some .local)
    (F : FnOk X.prog X.w X.K X.mg X.base CX0 k fa fd ps (spM X.K s (Φ f))) (hr : Room k X.A) (hg : Gl X fn) (hmg : X.mg fn = some (.ref fa)) (hkp : PySem.W.keepIn X.K (.ref fa) = true) (hb : Binds X.K fd ps []) (hdb : (fn == ("__debug__" : Str)) = false)
    (hp : isPlain a = true) (hk : κa = .sh ∨ κa = .fr) (ha : PE X a (tP X.K Φ st κa p)) (hi : X.N[i]? = some y) (hv : Vis X.env.scope y) (hd : (y == ("__debug__" : Str)) = false) (hcd : (y == ("__classdict__" : Str)) = false) (hs : st[i]? = some s) (hm : s.mut = true) :
    PS X (.Assign [.Name x pos'] (.Call (.Name fn p0) [a, .Name y p1] [] cpos) pos) (tS X (exS Φ (.mc false t f (.cons p .nil) i)) κr st (some (st.set t .sh)) [t, i]) :=
  (ps_set hN ht hx (pe_mc F hr hg hmg hkp hb hdb hp ha hi hv hd hcd) rfl hf).imp fun D σ H ⟨H0, Hf0, Hf, Lk, ρ, r, x0, N, S, ev, E⟩ => by
    obtain ⟨d1, x, rr, x', d, e1, e2, e3, e4, rfl⟩ := ex_mc ev
    have e4 : rr = d := e4
    subst e4
    exact mc_use S hs hm hk e1 e2 e3 fun ad v H1 Hf1 H' Hf' hσ x1 x2 r s3 S' => mc_end hT hit x0 N hs hm hσ E x1 x2 S' r
theorem ss_mcA {f : Nat} {k : Nat} {fa : Addr} {fd : FuncData} {ps : List Str} {fn : Str} {p0 p1 p2 cpos bpos : Pos} (hT : TieW κr [t]) (hit : t ≠ i) (hN : X.N.Nodup) (ht : X.N[t]? = some x) (hx : Loc X.env.scope x) (hf : X.fn x = true ∨ X.env.scope.names.lookup x = some .local) (hvx : Vis X.env.scope x) (hdx : (x == ("__debug__" : Str)) = false) (hcx : (x == ("__classdict__" : Str)) = false) (hst : st[t]? = some .sh)
    (F : FnOk X.prog X.w X.K X.mg X.base CX0 k fa fd ps (spM X.K s (Φ f))) (hr : Room k X.A) (hg : Gl X fn) (hmg : X.mg fn = some (.ref fa)) (hkp : PySem.W.keepIn X.K (.ref fa) = true) (hb : Binds X.K fd ps []) (hdb : (fn == ("__debug__" : Str)) = false)
    (hp : isPlain a = true) (hk : κa = .sh ∨ κa = .fr) (ha : PE X a (tP X.K Φ st κa p)) (hi : X.N[i]? = some y) (hv : Vis X.env.scope y) (hd : (y == ("__debug__" : Str)) = false) (hcd : (y == ("__classdict__" : Str)) = false) (hs : st[i]? = some s) (hm : s.mut = true) :
    PS X (.Assign [.Name x pos'] (.BinOp (.Name x p2) .Add (.Call (.Name fn p0) [a, .Name y p1] [] cpos) bpos) pos) (tS X (exS Φ (.mc true t f (.cons p .nil) i)) κr st (some (st.set t .sh)) [t, i]) :=
  (ps_set hN ht hx (pe_op (OpR.gen pr_add) (pe_var ht hvx hdx hcx) (pe_mc F hr hg hmg hkp hb hdb hp ha hi hv hd hcd)) rfl hf).imp fun D σ H ⟨H0, Hf0, Hf, Lk, ρ, r, x0, N, S, ev, E⟩ => by
    obtain ⟨d1, x, rr, x', d, e1, e2, e3, e4, rfl⟩ := ex_mc ev
    rw [if_pos rfl] at e4
    obtain ⟨a0, e5, e6⟩ := e4
    obtain ⟨i1, i2, i3, rfl, rfl, rfl⟩ := aug_int e6
    obtain ⟨v0, h1, h2⟩ := S.read hst rfl e5
    have hv0 : v0 = .int i1 := by cases (show Rep X.K Hf v0 (.int i1) from h2) with | int => rfl
    subst hv0
    refine ⟨_, h1, mc_use S hs hm hk e1 e2 e3 fun ad v H1 Hf1 H' Hf' hσ x1 x2 r s3 S' => ?_⟩
    refine ⟨Hf', .int i1, .int i2, .int i3, S'.sub, .sh (.int i1), .sh r, e6, fun w H2 Hf2 x3 r3 => ?_⟩
    have S2 := S'.mono x3
    have x4 : Ext (rmH H1 ad) Hf1 H2 Hf2 := x2.trans x3
    exact mc_end hT hit x0 N hs hm hσ E x1 x4 S2 r3
/-- return e, from a def that changes its last argument -/
theorem ex_retm {ρ : Rho} {r : Res} (h : exS Φ (.retm p i) ρ = some r) : ∃ d x, evX Φ p ρ = some d ∧ ρ[i]? = some x ∧ r = .ret (.tuple [d, x]) := by
  rw [exS] at h
  obtain ⟨d, h1, h⟩ := Option.bind_eq_some_iff.mp h
  obtain ⟨x, h2, rfl⟩ := Option.map_eq_some_iff.mp h
  exact ⟨d, x, h1, h2, rfl⟩
theorem ss_retm {st' : Option (List Stat)} {W : List Nat} (hs : st[i]? = some s) (hm : s.mut = true) (hk : κ = .sh ∨ κ = .fr) (he : PE X e (tP X.K Φ st κ p)) : PS X (.Return (some e) pos) (tS X (exS Φ (.retm p i)) (.mu i s) st st' W) :=
  (ps_ret he).imp fun D σ H ⟨H0, Hf0, Hf, Lk, ρ, r, x0, N, S, ev, E⟩ => by
    obtain ⟨d, x, e1, e2, rfl⟩ := ex_retm ev
    refine use1 S e1 fun v H1 Hf1 x1 r1 => ?_
    obtain ⟨Hf2, x2, _, r2⟩ := RR.freeze hk x1 r1
    obtain ⟨ad, hσ, hsl⟩ := mut_ref (S.mono x2) hs hm e2
    exact E.2 i s d x ad v H1 Hf2 rfl rfl hσ (x0.trans x2) r2 (slot_lk hm rfl hsl)
end
end Orp

/-! Orp, part 26: what a text says, checked against its evaluator form. -/
namespace Orp
open PySem PySem.Spec PyProof.Rows L2
/-! ### kinds -/
def froz : Kd → Bool
  | .sh => true
  | .fr => true
  | _ => false
theorem froz_or {κ : Kd} (h : froz κ = true) : κ = .sh ∨ κ = .fr := by
  cases κ <;> first | exact .inl rfl | exact .inr rfl | exact absurd h Bool.false_ne_true
def o1K : O1 → Kd
  | .sorted => .fr
  | .list => .fr
  | .sset => .fr
  | _ => .sh
mutual
def kdX (R : List Kd) (st : List Stat) : Ep → Option Kd
  | .var i => (st[i]?).bind Stat.kd
  | .cst _ => some .sh
  | .o1 o a => (kdX R st a).map fun _ => o1K o
  | .o2 _ a b => (kdX R st a).bind fun _ => (kdX R st b).map fun _ => .sh
  | .o3 _ a b c => (kdX R st a).bind fun _ => (kdX R st b).bind fun _ => (kdX R st c).bind fun k => if froz k = true then some .sh else none
  | .chain _ _ a b c => (kdX R st a).bind fun _ => (kdX R st b).bind fun _ => (kdX R st c).map fun _ => .sh
  | .and a b => (kdX R st a).bind fun _ => (kdX R st b).bind fun k => if k = .sh then some .sh else none
  | .or a b => (kdX R st a).bind fun _ => (kdX R st b).bind fun k => if k = .sh then some .sh else none
  | .not a => (kdX R st a).map fun _ => .sh
  | .ite c a b => (kdX R st c).bind fun _ => (kdX R st a).bind fun x => (kdX R st b).bind fun y => kjoin x y
  | .tup es => if kdXs R st es = true then some .sh else none
  | .lst es => if kdXs R st es = true then some .fr else none
  | .rgl t a b => (kdX R st a).bind fun _ => (kdX R st b).map fun _ => if t = true then .sh else .fr
  | .call f es => if kdXs R st es = true ∧ (R.getD f .sh).isMu = false then some (R.getD f .sh) else none
  | .skey f e => if R.getD f .sh = .sh then (kdX R st e).map fun _ => .fr else none
  | .dnew tk => some (dkd tk)
  | .done tk k v => (kdX R st k).bind fun _ => (kdX R st v).bind fun x => if froz x = true then some (dkd tk) else none
  | .comp own elt c => (kdC R st own c).bind fun st' => (kdX R st' elt).bind fun x => if froz x = true then some .fr else none
  | .dcomp own tk k v c => (kdC R st own c).bind fun st' => (kdX R st' k).bind fun _ => (kdX R st' v).bind fun x => if froz x = true then some (dkd tk) else none
def kdXs (R : List Kd) (st : List Stat) : Eps → Bool
  | .nil => true
  | .cons e r => (match kdX R st e with | some k => froz k | none => false) && kdXs R st r
def kdW (R : List Kd) (st : List Stat) : Wk → Option Bool
  | .dat e => (kdX R st e).map fun k => k.still || (match e with | .var i => (match st[i]? with | some s => s.lkd | none => false) | _ => false)
  | .rng a => (kdX R st a).map fun _ => true
  | .rng2 a b => (kdX R st a).bind fun _ => (kdX R st b).map fun _ => true
  | .rngD a b => (kdX R st a).bind fun _ => (kdX R st b).map fun _ => true
  | .enu e => (kdX R st e).map Kd.still2
  | .zip a b => (kdX R st a).bind fun x => (kdX R st b).map fun y => x.still2 && y.still2
/-- the first clause -/
def kdC (R : List Kd) (st : List Stat) (own : List Nat) : Cl → Option (List Stat)
  | .nil => none
  | .cons t w q r => (kdW R st w).bind fun _ => (kdX R (setSs t.slots (stB own st)) q).bind fun _ => kdCr R (setSs t.slots (stB own st)) r
/-- the others -/
def kdCr (R : List Kd) (st : List Stat) : Cl → Option (List Stat)
  | .nil => some st
  | .cons t w q r => (kdW R st w).bind fun b => if b = true then (kdX R (setSs t.slots st) q).bind fun _ => kdCr R (setSs t.slots st) r else none
end
/-! ### the text -/
structure Cst where
  N : List Str
  fns : List Str
  R : List Kd
  con : List (Str × D)
mutual
def sameD : D → D → Bool
  | .none, .none => true
  | .bool a, .bool b => a == b
  | .int a, .int b => a == b
  | .str a, .str b => decide (a = b)
  | .tuple xs, .tuple ys => sameDs xs ys
  | _, _ => false
def sameDs : List D → List D → Bool
  | [], [] => true
  | x :: xs, y :: ys => sameD x y && sameDs xs ys
  | _, _ => false
end
mutual
theorem sameD_eq : ∀ (a b : D), sameD a b = true → a = b
  | .none, b, h => by cases b <;> simp_all [sameD]
  | .bool a, b, h => by cases b <;> simp_all [sameD]
  | .int a, b, h => by cases b <;> simp_all [sameD]
  | .str a, b, h => by cases b <;> simp_all [sameD]
  | .tuple xs, b, h => by
    cases b <;> simp only [sameD, Bool.false_eq_true] at h
    rw [sameDs_eq xs _ h]
  | .list _, b, h => by cases b <;> simp_all [sameD]
  | .dict _, b, h => by cases b <;> simp_all [sameD]
theorem sameDs_eq : ∀ (a b : List D), sameDs a b = true → a = b
  | [], b, h => by cases b <;> simp_all [sameDs]
  | x :: xs, b, h => by
    cases b with
    | nil => simp [sameDs] at h
    | cons y ys =>
      simp only [sameDs, Bool.and_eq_true] at h
      rw [sameD_eq x y h.1, sameDs_eq xs ys h.2]
end
def visB (sc : Scope) (x : Str) : Bool := match sc.names.lookup x with
  | some .local => true
  | some .cell => true
  | some .free => true
  | _ => false
def locB (sc : Scope) (x : Str) : Bool := match sc.names.lookup x with
  | some .local => true
  | some .cell => true
  | _ => false
def glB (sc : Scope) (x : Str) : Bool := match sc.names.lookup x with
  | some .globalImplicit => true
  | _ => false
def okNm (x : Str) : Bool := !(x == ("__debug__" : Str)) && !(x == ("__classdict__" : Str))
def varB (C : Cst) (sc : Scope) (x : Str) (i : Nat) : Bool := decide (C.N[i]? = some x) && visB sc x && okNm x
def conB (C : Cst) (x : Str) (d : D) : Bool := C.con.any fun p => decide (p.1 = x) && sameD p.2 d
def cstB : Const → D → Bool
  | .none, .none => true
  | .bool a, .bool b => a == b
  | .int a, .int b => a == b
  | .str a, .str b => decide (a = b)
  | _, _ => false
def unB : O1 → UnaryOp → Bool
  | .neg, .USub => true
  | .inv, .Invert => true
  | _, _ => false
def isB : O1 → CmpOp → Expr → Bool
  | .isN, .Is, .Constant .none _ _ => true
  | .notN, .IsNot, .Constant .none _ _ => true
  | .isT, .Is, .Constant (.bool true) _ _ => true
  | .isF, .Is, .Constant (.bool false) _ _ => true
  | _, _, _ => false
def binB : O2 → Operator → Bool
  | .add, .Add => true
  | .sub, .Sub => true
  | .mul, .Mult => true
  | .fdiv, .FloorDiv => true
  | .mod, .Mod => true
  | .pow, .Pow => true
  | .shl, .LShift => true
  | .shr, .RShift => true
  | .band, .BitAnd => true
  | .bor, .BitOr => true
  | _, _ => false
def cmpB : O2 → CmpOp → Bool
  | .eq, .Eq => true
  | .ne, .NotEq => true
  | .lt, .Lt => true
  | .le, .LtE => true
  | .gt, .Gt => true
  | .ge, .GtE => true
  | .isIn, .In => true
  | .notIn, .NotIn => true
  | _, _ => false
/-- a built-in of one place -/
def b1N : O1 → Option Str
  | .len => some "len"
  | .sum => some "sum"
  | .any => some "any"
  | .all => some "all"
  | .max => some "max"
  | .min => some "min"
  | .sorted => some "sorted"
  | .list => some "list"
  | .tuple => some "tuple"
  | .int => some "int"
  | .str => some "str"
  | _ => none
def setN : O1 → Str → Bool
  | .sset, f => decide (f = "sorted")
  | .lset, f => decide (f = "len")
  | _, _ => false
def b2N : O2 → Option Str
  | .max2 => some "max"
  | .min2 => some "min"
  | _ => none
def bltN : List Str := ["len", "sum", "any", "all", "max", "min", "sorted", "list", "tuple", "int", "str", "bool", "isinstance", "set", "range", "enumerate", "zip"]
def allEs (f : Expr → Ep → Bool) : List Expr → Eps → Bool
  | [], .nil => true
  | e :: es, .cons p ps => f e p && allEs f es ps
  | _, _ => false
def tgsB (C : Cst) (sc : Scope) : List Expr → List Nat → Bool
  | [], [] => true
  | .Name x _ :: es, i :: is => decide (C.N[i]? = some x) && locB sc x && tgsB C sc es is
  | _, _ => false
def tgB (C : Cst) (sc : Scope) : Expr → Tg → Bool
  | .Name x _, .one i => decide (C.N[i]? = some x) && locB sc x
  | .Tuple es _ _, .tup is => tgsB C sc es is
  | _, _ => false
/-- the block's own names with their slots -/
def ownP (C : Cst) (own : List Nat) : List (Str × Nat) := own.map fun i => (C.N.getD i "", i)
def nodupB : List Nat → Bool
  | [] => true
  | x :: xs => !xs.contains x && nodupB xs
mutual
/-- expressions -/
def chkE (C : Cst) : Nat → Scope → Expr → Ep → Bool
  | 0, _, _, _ => false
  | n + 1, sc, e, p => isPlain e && (match p with
    | .var i => (match e with
      | .Name x _ => varB C sc x i
      | _ => false)
    | .cst d => (match e with
      | .Constant c _ _ => cstB c d
      | .Name x _ => glB sc x && okNm x && conB C x d
      | _ => false)
    | .o1 o a => (match e with
      | .UnaryOp op x _ => unB o op && chkE C n sc x a
      | .Compare x [op] [y] _ => isB o op y && chkE C n sc x a
      | .Call (.Name f _) [x] [] _ => (decide (b1N o = some f) && glB sc f && chkE C n sc x a) || (match x with
        | .Call (.Name g _) [y] [] _ => setN o f && decide (g = "set") && glB sc f && glB sc g && chkE C n sc y a
        | _ => false)
      | .Call (.Name f _) [x, .Name T _] [] _ => decide (f = "isinstance") && glB sc f && decide ((tyO o).map Str.ofString = some T) && glB sc T && chkE C n sc x a
      | _ => false)
    | .o2 o a b => (match e with
      | .BinOp x op y _ => binB o op && chkE C n sc x a && chkE C n sc y b
      | .Compare x [op] [y] _ => cmpB o op && chkE C n sc x a && chkE C n sc y b
      | .Subscript x (.Slice (some y) none none _) _ => decide (o = .from_) && chkE C n sc x a && chkE C n sc y b
      | .Subscript x (.Slice none (some y) none _) _ => decide (o = .upto) && chkE C n sc x a && chkE C n sc y b
      | .Subscript x y _ => decide (o = .idx) && noSlice y && chkE C n sc x a && chkE C n sc y b
      | .Call (.Name f _) [x, y] [] _ => decide (b2N o = some f) && glB sc f && chkE C n sc x a && chkE C n sc y b
      | .Call (.Attribute x m ap) [y] [] cp => ((decide (o = .index) && decide (m = "index")) || (decide (o = .join) && decide (m = "join")) || (decide (o = .split) && decide (m = "split"))) && noCall x && (ap.endLine == cp.line) && chkE C n sc x a && chkE C n sc y b
      | _ => false)
    | .o3 o a b c => (match e with
      | .Subscript x (.Slice (some y) (some z) none _) _ => decide (o = .cut) && chkE C n sc x a && chkE C n sc y b && chkE C n sc z c
      | .Call (.Attribute x m ap) [y, z] [] cp => decide (o = .dget) && decide (m = "get") && noCall x && (ap.endLine == cp.line) && chkE C n sc x a && chkE C n sc y b && chkE C n sc z c
      | _ => false)
    | .chain o o' a b c => (match e with
      | .Compare x [op, op'] [y, z] _ => cmpB o op && cmpB o' op' && chkE C n sc x a && chkE C n sc y b && chkE C n sc z c
      | _ => false)
    | .and a b => (match e with
      | .BoolOp .And (x :: y :: r) ps => chkE C n sc x a && chkB C n sc .And (y :: r) ps b
      | _ => false)
    | .or a b => (match e with
      | .BoolOp .Or (x :: y :: r) ps => chkE C n sc x a && chkB C n sc .Or (y :: r) ps b
      | _ => false)
    | .not a => (match e with
      | .UnaryOp .Not x _ => chkE C n sc x a
      | _ => false)
    | .ite c a b => (match e with
      | .IfExp z x y _ => chkT C n sc z c && chkE C n sc x a && chkE C n sc y b
      | _ => false)
    | .tup es => (match e with
      | .Tuple xs _ _ => decide (xs.length ≤ 4000) && allEs (chkE C n sc) xs es
      | _ => false)
    | .lst es => (match e with
      | .List xs _ => decide (xs.length ≤ 4000) && allEs (chkE C n sc) xs es
      | _ => false)
    | .rgl t a b => (match e with
      | .Call (.Name f _) [.Call (.Name g _) [y] [] _] [] _ => decide (f = if t = true then "tuple" else "list") && decide (g = "range") && glB sc f && glB sc g && (match a with | .cst d => sameD d (.int 0) | _ => false) && chkE C n sc y b
      | .Call (.Name f _) [.Call (.Name g _) [x, y] [] _] [] _ => decide (f = if t = true then "tuple" else "list") && decide (g = "range") && glB sc f && glB sc g && chkE C n sc x a && chkE C n sc y b
      | _ => false)
    | .call f es => (match e with
      | .Call (.Name x _) xs [] _ => decide (C.fns[f]? = some x) && glB sc x && okNm x && allEs (chkE C n sc) xs es
      | _ => false)
    | .skey f a => (match e with
      | .Call (.Name g _) [x] [⟨some k, .Name y _, _⟩] _ => decide (g = "sorted") && decide (k = "key") && glB sc g && decide (C.fns[f]? = some y) && glB sc y && okNm y && chkE C n sc x a
      | _ => false)
    | .dnew _ => (match e with
      | .Dict [] [] _ => true
      | _ => false)
    | .done _ k v => (match e with
      | .Dict [some x] [y] _ => chkE C n sc x k && chkE C n sc y v
      | _ => false)
    | .comp own elt c => (match e with
      | .ListComp x gens scope _ => chkC C n sc scope gens own c && chkE C n scope x elt
      | _ => false)
    | .dcomp own _ k v c => (match e with
      | .DictComp x y gens scope _ => chkC C n sc scope gens own c && chkE C n scope x k && chkE C n scope y v
      | _ => false))
/-- the rest of and, or, as a value -/
def chkB (C : Cst) : Nat → Scope → BoolOp → List Expr → Pos → Ep → Bool
  | 0, _, _, _, _, _ => false
  | n + 1, sc, op, xs, ps, p => match xs with
    | [x] => chkE C n sc x p
    | x :: y :: r => (match op, p with
      | .And, .and a b => chkE C n sc x a && chkB C n sc .And (y :: r) ps b
      | .Or, .or a b => chkE C n sc x a && chkB C n sc .Or (y :: r) ps b
      | _, _ => false)
    | [] => false
/-- tests -/
def chkT (C : Cst) : Nat → Scope → Expr → Ep → Bool
  | 0, _, _, _ => false
  | n + 1, sc, e, p => match e with
    | .UnaryOp .Not x _ => (match p with
      | .not a => chkT C n sc x a
      | _ => false)
    | .BoolOp op xs ps => chkTB C n sc op xs ps p
    | .IfExp _ _ _ _ => false
    | .Compare x [op] [y] _ => (match p with
      | .o1 o a => isB o op y && chkE C n sc x a
      | .o2 o a b => cmpB o op && chkE C n sc x a && chkE C n sc y b
      | _ => false)
    | .Compare x [op, op'] [y, z] _ => (match p with
      | .chain o o' a b c => cmpB o op && cmpB o' op' && chkE C n sc x a && chkE C n sc y b && chkE C n sc z c
      | _ => false)
    | .Compare _ _ _ _ => false
    | e => chkE C n sc e p
def chkTB (C : Cst) : Nat → Scope → BoolOp → List Expr → Pos → Ep → Bool
  | 0, _, _, _, _, _ => false
  | n + 1, sc, op, xs, ps, p => match xs with
    | [x] => chkT C n sc x p
    | x :: y :: r => (match op, p with
      | .And, .and a b => chkT C n sc x a && chkTB C n sc .And (y :: r) ps b
      | .Or, .or a b => chkT C n sc x a && chkTB C n sc .Or (y :: r) ps b
      | _, _ => false)
    | [] => false
/-- what is walked -/
def chkW (C : Cst) : Nat → Scope → Expr → Expr → Wk → Bool
  | 0, _, _, _, _ => false
  | n + 1, sc, tg, e, w => isPlain e && (match w with
    | .dat p => chkE C n sc e p
    | .rng a => (match e with
      | .Call (.Name f _) [x] [] _ => decide (f = "range") && glB sc f && chkE C n sc x a
      | _ => false)
    | .rng2 a b => (match e with
      | .Call (.Name f _) [x, y] [] _ => decide (f = "range") && glB sc f && chkE C n sc x a && chkE C n sc y b
      | _ => false)
    | .rngD a b => (match e with
      | .Call (.Name f _) [x, y, .UnaryOp .USub (.Constant (.int 1) _ _) _] [] _ => decide (f = "range") && glB sc f && chkE C n sc x a && chkE C n sc y b
      | _ => false)
    | .enu p => (match tg, e with
      | .Tuple _ _ _, .Call (.Name f _) [x] [] _ => decide (f = "enumerate") && glB sc f && chkE C n sc x p
      | _, _ => false)
    | .zip p q => (match tg, e with
      | .Tuple _ _ _, .Call (.Name f _) [x, y] [] _ => decide (f = "zip") && glB sc f && chkE C n sc x p && chkE C n sc y q
      | _, _ => false))
/-- a comprehension's clauses: the first -/
def chkC (C : Cst) : Nat → Scope → Scope → List Comprehension → List Nat → Cl → Bool
  | 0, _, _, _, _, _ => false
  | n + 1, sc, scope, gens, own, c => match gens, c with
    | ⟨tg, iter, ifs, as⟩ :: gs, .cons t w q r => decide (as = 0) && blkC C.N sc scope (ownP C own) && (t.slots ++ slotsC r).all own.contains && nodupB (t.slots ++ slotsC r) &&
        chkW C n sc tg iter w && tgB C scope tg t && chkI C n scope ifs q && chkG C n scope gs r
    | _, _ => false
/-- the others -/
def chkG (C : Cst) : Nat → Scope → List Comprehension → Cl → Bool
  | 0, _, _, _ => false
  | n + 1, scope, gs, c => match gs, c with
    | [], .nil => true
    | ⟨tg, iter, ifs, as⟩ :: gs, .cons t w q r => decide (as = 0) && chkW C n scope tg iter w && tgB C scope tg t && chkI C n scope ifs q && chkG C n scope gs r
    | _, _ => false
def chkI (C : Cst) : Nat → Scope → List Expr → Ep → Bool
  | 0, _, _, _ => false
  | n + 1, scope, ifs, q => match ifs with
    | [] => (match q with | .cst d => sameD d (.bool true) | _ => false)
    | [c] => chkT C n scope c q
    | _ => false
end
end Orp

/-! Orp, part 27: what is checked is so: expressions. -/
namespace Orp
open PySem PySem.Spec PyProof.Rows L2
/-- a def that may be called -/
def CallOk (X : Cx) (Φ : Fn0) (κ : Kd) (f : Nat) (x : Str) : Prop :=
  ∃ k fa fd ps, FnOk X.prog X.w X.K X.mg X.base CX0 k fa fd ps (spK X.K κ (Φ f)) ∧ Room (k + 2) X.A ∧ X.mg x = some (.ref fa) ∧ PySem.W.keepIn X.K (.ref fa) = true ∧ Binds X.K fd ps []
/-- the context has what the check takes for granted -/
structure Good (C : Cst) (Φ : Fn0) (X : Cx) (sc : Scope) : Prop where
  N : X.N = C.N
  nd : C.N.Nodup
  calm : X.calm = true
  un : X.A.units + 200 < cLine
  vis : ∀ x k, sc.names.lookup x = some k → X.env.scope.names.lookup x = some k ∨ (k = .free ∧ X.env.scope.names.lookup x = some .cell)
  fn : ∀ x, sc.names.lookup x = some .cell → X.fn x = true
  blt : ∀ x ∈ bltN, X.mg x = none
  call : ∀ f x, C.fns[f]? = some x → CallOk X Φ (C.R.getD f .sh) f x
  con : ∀ p ∈ C.con, ∃ u v, X.mg p.1 = some u ∧ RelV v u ∧ ∀ Hf, Rep X.K Hf v p.2
section
variable {C : Cst} {Φ : Fn0} {X : Cx} {sc : Scope} {x f : Str} {i : Nat} {pos : Pos}
theorem nd_of (G : Good C Φ X sc) : X.N.Nodup := by rw [G.N]; exact G.nd
theorem vis_of (G : Good C Φ X sc) (h : visB sc x = true) : Vis X.env.scope x := by
  unfold visB at h
  split at h
  · rename_i e; exact (G.vis _ _ e).elim .inl fun z => nomatch z.1
  · rename_i e; exact (G.vis _ _ e).elim (fun z => .inr (.inl z)) fun z => nomatch z.1
  · rename_i e; exact (G.vis _ _ e).elim (fun z => .inr (.inr z)) fun z => .inr (.inl z.2)
  · cases h
theorem loc_of (G : Good C Φ X sc) (h : locB sc x = true) : Loc X.env.scope x ∧ (X.fn x = true ∨ X.env.scope.names.lookup x = some .local) := by
  unfold locB at h
  split at h
  · rename_i e
    rcases G.vis _ _ e with z | z
    · exact ⟨.inl z, .inr z⟩
    · cases z.1
  · rename_i e
    rcases G.vis _ _ e with z | z
    · exact ⟨.inr z, .inl (G.fn _ e)⟩
    · cases z.1
  · cases h
theorem gl_of (G : Good C Φ X sc) (h : glB sc x = true) : Gl X x := by
  unfold glB at h
  split at h
  · rename_i e
    exact (G.vis _ _ e).elim id fun z => nomatch z.1
  · cases h
theorem okNm_of (h : okNm x = true) : (x == ("__debug__" : Str)) = false ∧ (x == ("__classdict__" : Str)) = false := by
  unfold okNm at h
  rw [Bool.and_eq_true, Bool.not_eq_true', Bool.not_eq_true'] at h
  exact h
/-! ### tests of comparisons -/
variable {st : List Stat} {a b c : Expr} {p q r : Ep} {κ κa κb κc : Kd}
theorem cmp_bool {o : O2} {op : CmpOp} (h : cmpB o op = true) : ∀ ρ x, evX Φ (.o2 o p q) ρ = some x → ∃ b, x = .bool b := by
  intro ρ x e
  obtain ⟨y, z, _, _, e3⟩ := ev2 e
  cases o <;> cases op <;> simp only [cmpB, Bool.false_eq_true] at h
  · obtain ⟨t, _, rfl⟩ := Option.map_eq_some_iff.mp e3; exact ⟨_, rfl⟩
  · obtain ⟨t, _, rfl⟩ := Option.map_eq_some_iff.mp e3; exact ⟨_, rfl⟩
  · obtain ⟨t, _, rfl⟩ := Option.map_eq_some_iff.mp e3; exact ⟨_, rfl⟩
  · cases y <;> cases z <;> simp only [o2F, reduceCtorEq, Option.some.injEq] at e3
    exact ⟨_, e3.symm⟩
  · cases y <;> cases z <;> simp only [o2F, reduceCtorEq, Option.some.injEq] at e3
    exact ⟨_, e3.symm⟩
  · cases y <;> cases z <;> simp only [o2F, reduceCtorEq, Option.some.injEq] at e3
    exact ⟨_, e3.symm⟩
  · obtain ⟨t, _, rfl⟩ := Option.map_eq_some_iff.mp e3; exact ⟨_, rfl⟩
  · obtain ⟨t, _, rfl⟩ := Option.map_eq_some_iff.mp e3; exact ⟨_, rfl⟩
theorem cmp_rule {o : O2} {op : CmpOp} (hu : X.A.units + 200 < cLine) (h : cmpB o op = true) : OpR X (compareOp op) (rG2 X.K (o2F o) .sh) := by
  cases o <;> cases op <;> simp only [cmpB, Bool.false_eq_true] at h
  · exact OpR.gen (pr_eq (by omega))
  · exact OpR.gen (pr_ne (by omega))
  · exact op_ltG hu
  · exact OpR.gen pr_le
  · exact OpR.gen pr_gt
  · exact OpR.gen pr_ge
  · exact op_inG hu
  · exact op_notInG hu
theorem bin_rule {o : O2} {op : Operator} (h : binB o op = true) : OpR X (binaryOp op) (rG2 X.K (o2F o) .sh) := by
  cases o <;> cases op <;> simp only [binB, Bool.false_eq_true] at h
  · exact OpR.gen pr_add
  · exact OpR.gen pr_sub
  · exact OpR.gen pr_mul
  · exact OpR.gen pr_fdiv
  · exact OpR.gen pr_mod
  · exact OpR.gen pr_pow
  · exact OpR.gen pr_shl
  · exact OpR.gen pr_shr
  · exact OpR.gen pr_band
  · exact OpR.gen pr_bor
theorem pt_o2c {o : O2} {op : CmpOp} (hu : X.A.units + 200 < cLine) (h : cmpB o op = true) (hm : behindInMarks op b = false) (ha : PE X a (tP X.K Φ st κa p)) (hb : PE X b (tP X.K Φ st κb q)) : PT X (.Compare a [op] [b] pos) (tT X.K Φ st (.o2 o p q)) :=
  (pt_cmpR (cmp_rule hu h) ha hb hm).imp fun _ _ _ w => op_sound (test_of (cmp_bool h) w)
theorem is_bool {o : O1} {op : CmpOp} {y : Expr} (h : isB o op y = true) : ∀ ρ x, evX Φ (.o1 o p) ρ = some x → ∃ b, x = .bool b := by
  intro ρ x e
  obtain ⟨y', _, e2⟩ := ev1 e
  unfold isB at h
  split at h <;> first | (cases y' <;> simp only [o1F, reduceCtorEq, Option.some.injEq] at e2 <;> exact ⟨_, e2.symm⟩) | cases h
theorem is_rule {o : O1} {op : CmpOp} {y : Expr} (h : isB o op y = true) : ∃ v, PE X y (tC v) ∧ OpR X (compareOp op) (fun x y H Q => y = v ∧ rG1 X.K (o1F o) .sh x H Q) ∧ behindInMarks op y = false := by
  unfold isB at h
  split at h
  · exact ⟨_, pe_non, op_isNG, rfl⟩
  · exact ⟨_, pe_non, op_notNG, rfl⟩
  · exact ⟨_, pe_bl, op_isTG, rfl⟩
  · exact ⟨_, pe_bl, op_isFG, rfl⟩
  · cases h
theorem pt_is {o : O1} {op : CmpOp} (h : isB o op b = true) (ha : PE X a (tP X.K Φ st κa p)) : PT X (.Compare a [op] [b] pos) (tT X.K Φ st (.o1 o p)) := by
  obtain ⟨v, hb, ho, hm⟩ := is_rule (X := X) h
  exact (pt_cmpR ho ha hb hm).imp fun _ _ _ w => by
    obtain ⟨Hf, Lk, ρ, d, S, ev, k⟩ := test_of (is_bool h) w
    obtain ⟨x, e1, e2⟩ := ev1 ev
    exact use1 S e1 fun v H1 Hf1 x1 r1 => ⟨rfl, Hf1, x, d, x1.sub, r1.rv, e2, fun w H' Hf' x2 r2 => k w H' Hf' (x1.trans x2) (r2.back x1.s)⟩
theorem chain_sound {o1 o2 : O2} {K : Fg} {σ : L2.St} {H : Hp} {Q : VK} (h : tP K Φ st .sh (.chain o1 o2 p q r) σ H Q) : tChain (rG2 K (o2F o1) .sh) (rG2 K (o2F o2) .sh) (tP K Φ st κa p) (tP K Φ st κb q) (tP K Φ st κc r) σ H Q := by
  obtain ⟨Hf, Lk, ρ, d, S, ev, k⟩ := h
  rw [evX] at ev
  obtain ⟨x, e1, ev⟩ := Option.bind_eq_some_iff.mp ev
  obtain ⟨y, e2, ev⟩ := Option.bind_eq_some_iff.mp ev
  obtain ⟨z, e3, ev⟩ := Option.bind_eq_some_iff.mp ev
  obtain ⟨t, e4, ev⟩ := Option.bind_eq_some_iff.mp ev
  have e9 := boolOf_some e4
  subst e9
  refine use1 S e1 fun v H1 Hf1 x1 r1 => use1 (S.mono x1) e2 fun u H2 Hf2 x2 r2 => ⟨Hf2, x, y, .bool t, x2.sub, r1.rv.mono x2.s x2.f, r2.rv, e3, fun w H3 Hf3 x3 r3 => ⟨t, by cases r3.rv.bool; rfl, ?_⟩⟩
  cases t with
  | true =>
    have ev : ((evX Φ r ρ).bind fun z => o2F o2 y z) = some d := ev
    obtain ⟨z', e5, e6⟩ := Option.bind_eq_some_iff.mp ev
    exact use1 (((S.mono x1).mono x2).mono x3) e5 fun w' H4 Hf4 x4 r4 => ⟨Hf4, y, z', d, x4.sub, (r2.rv.mono x3.s x3.f).mono x4.s x4.f, r4.rv, e6, fun w5 H5 Hf5 x5 r5 => k w5 H5 Hf5 ((((x1.trans x2).trans x3).trans x4).trans x5) (r5.back (((x1.s.trans x2.s).trans x3.s).trans x4.s))⟩
  | false => cases ev; exact k _ H3 Hf3 ((x1.trans x2).trans x3) (show Rep K Hf3 (.bl false) (.bool false) from .bl _)
theorem chain_bool {o o' : O2} {op op' : CmpOp} (h : cmpB o op = true) (h' : cmpB o' op' = true) : ∀ ρ x, evX Φ (.chain o o' p q r) ρ = some x → ∃ b, x = .bool b := by
  intro ρ d ev
  rw [evX] at ev
  obtain ⟨x, e1, ev⟩ := Option.bind_eq_some_iff.mp ev
  obtain ⟨y, e2, ev⟩ := Option.bind_eq_some_iff.mp ev
  obtain ⟨z, e3, ev⟩ := Option.bind_eq_some_iff.mp ev
  obtain ⟨t, e4, ev⟩ := Option.bind_eq_some_iff.mp ev
  cases t with
  | true =>
    have ev : ((evX Φ r ρ).bind fun z => o2F o' y z) = some d := ev
    obtain ⟨z', e5, e6⟩ := Option.bind_eq_some_iff.mp ev
    exact cmp_bool (p := .cst y) (q := .cst z') (Φ := Φ) h' ρ d (by rw [evX, evX, evX]; exact e6)
  | false => cases ev; exact ⟨false, rfl⟩
theorem marks2 {op op' : CmpOp} (hb : isPlain b = true) (hc : isPlain c = true) : lastMarks [op, op'] [b, c] = false := by
  show behindInMarks op' c = false
  exact behind_plain hc
theorem pt_ch {o o' : O2} {op op' : CmpOp} (hu : X.A.units + 200 < cLine) (h : cmpB o op = true) (h' : cmpB o' op' = true) (hm : lastMarks [op, op'] [b, c] = false) (ha : PE X a (tP X.K Φ st κa p)) (hb : PE X b (tP X.K Φ st κb q)) (hc : PE X c (tP X.K Φ st κc r)) : PT X (.Compare a [op, op'] [b, c] pos) (tT X.K Φ st (.chain o o' p q r)) :=
  (pt_chain (cmp_rule hu h) (cmp_rule hu h') ha hb hc hm).imp fun _ _ _ w => chain_sound (test_of (chain_bool h h') w)
end
end Orp

/-! Orp, part 27b: sorted with a key that is a def of the program. -/
namespace Orp
open PySem PySem.Spec PyProof.Rows L2
/-- from s to s2 all that was there is kept; of the frames in fs the slots may be others -/
structure Stp (fs : List Addr) (s s2 : Shared) : Prop where
  os : s2.os = s.os
  bare : AllBare s2.gens
  keep : ∀ b o, s.heap.get? b = some o → b ∉ fs → s2.heap.get? b = some o
  slot : ∀ b o, s.heap.get? b = some o → b ∈ fs → ∃ sl, s2.heap.get? b = some { o with slots := sl }
theorem slots_same : ∀ o : Obj, { o with slots := o.slots } = o
  | ⟨_, _, _, _⟩ => rfl
theorem Stp.any {fs : List Addr} {s s2 : Shared} (x : Stp fs s s2) (b : Addr) (o : Obj) (e : s.heap.get? b = some o) : ∃ sl, s2.heap.get? b = some { o with slots := sl } := by
  by_cases h : b ∈ fs
  · exact x.slot b o e h
  · exact ⟨o.slots, x.keep b o e h⟩
mutual
theorem rd_sl {h h' : Heap} (k : ∀ b o, h.get? b = some o → ∃ sl, h'.get? b = some { o with slots := sl }) : ∀ {v : Value} {d : D} {as : List Addr}, Reads h v d as → Reads h' v d as
  | _, _, _, .none => .none
  | _, _, _, .bool b => .bool b
  | _, _, _, .int i t => .int i t
  | _, _, _, .str x t => .str x t
  | _, _, _, .list h1 h2 h3 h4 => by obtain ⟨sl, e⟩ := k _ _ h1; exact .list e h2 h3 (rds_sl k h4)
  | _, _, _, .tuple h1 h2 h3 h4 => by obtain ⟨sl, e⟩ := k _ _ h1; exact .tuple e h2 h3 (rds_sl k h4)
  | _, _, _, .dict h1 h2 h3 h4 h5 => by obtain ⟨sl, e⟩ := k _ _ h1; exact .dict e h2 h3 (rds_sl k h4) (rds_sl k h5)
theorem rds_sl {h h' : Heap} (k : ∀ b o, h.get? b = some o → ∃ sl, h'.get? b = some { o with slots := sl }) : ∀ {vs : List Value} {ds : List D} {as : List Addr}, ReadsAll h vs ds as → ReadsAll h' vs ds as
  | _, _, _, .nil => .nil
  | _, _, _, .cons h1 h2 => .cons (rd_sl k h1) (rds_sl k h2)
end
theorem Stp.refl {fs : List Addr} {s : Shared} (h : AllBare s.gens) : Stp fs s s := ⟨rfl, h, fun _ _ e _ => e, fun b o e _ => ⟨o.slots, e⟩⟩
theorem Stp.trans {fs : List Addr} {s s2 s3 : Shared} (x : Stp fs s s2) (y : Stp fs s2 s3) : Stp fs s s3 where
  os := y.os.trans x.os
  bare := y.bare
  keep := fun b o e n => y.keep b o (x.keep b o e n) n
  slot := fun b o e n => by
    obtain ⟨sl, e1⟩ := x.slot b o e n
    obtain ⟨sl2, e2⟩ := y.slot b _ e1 n
    exact ⟨sl2, e2⟩
/-- only the heap is another one, and it has all that was there -/
theorem Stp.heap {fs : List Addr} {s s2 : Shared} {h : Heap} {t : Nat} (x : Stp fs s s2) (k : ∀ b o, s.heap.get? b = some o → ∀ u, s2.heap.get? b = some u → h.get? b = some u) : Stp fs s { s2 with heap := h, toks := t } where
  os := x.os
  bare := x.bare
  keep := fun b o e n => k b o e _ (x.keep b o e n)
  slot := fun b o e n => by
    obtain ⟨sl, e1⟩ := x.slot b o e n
    exact ⟨sl, k b o e _ e1⟩
/-- a heap without one object -/
def dropH (h : Heap) (a : Addr) : Heap := h.update a fun _ => ⟨.none, none, .freed, #[]⟩
theorem dropH_ne {h : Heap} {a b : Addr} (hb : b ≠ a) : (dropH h a).get? b = h.get? b := Heap.get?_update_ne _ _ _ _ hb
theorem dropH_at {h : Heap} {a : Addr} : (dropH h a).get? a = none := by
  unfold dropH Heap.update Heap.get?
  cases h with
  | mk objs l =>
    show (match (objs.modify a _)[a]? with | some ⟨_, _, .freed, _⟩ => none | o => o) = none
    rw [Array.getElem?_modify]
    rw [if_pos rfl]
    cases objs[a]? <;> rfl
section
variable {prog : Program} {w : World} {A : Around} {E : Value → Shared → Prop} {s s0 : Shared} {a kS : Addr} {vs : List Value} {e1 : Nat} {P : PySem.Fin → Shared → Prop} {kz : List D} {fs : List Addr} {f : Value}
theorem snocR {α β : Type} {R : α → β → Prop} : ∀ {as : List α} {bs : List β} {x : α} {y : β}, PySem.W.EachIs R as bs → R x y → PySem.W.EachIs R (as ++ [x]) (bs ++ [y])
  | _, _, _, _, .nil, h => .cons h .nil
  | _, _, _, _, .cons r t, h => .cons r (snocR t h)
/-- the keys are made, one after another -/
theorem key_loop (st : Stp fs s0 s) (hk0 : s0.heap.get? kS = none) (ha0 : s0.heap.get? a = none) (kf : kS ∉ fs) (af : a ∉ fs) (nk : s.heap.get? kS = some (seqObj "list" #[] 0)) (na : s.heap.get? a = some (seqObj "list" #[] e1)) (hka : kS ≠ a)
    (hlen : kz.length = vs.length) (hZ : vs.length ≤ sizeLine) (hal : PySem.W.AllAlike kz) (hsk : ∀ d ∈ kz, d ≠ .none) (hu : ∀ d, d ∈ kz → A.units + d.depth < cLine)
    (turn : ∀ (i : Nat) (v : Value) (k : D), vs[i]? = some v → kz[i]? = some k → ∀ s1 : Shared, Stp fs s0 s1 → wpAny (model prog w) A (call f [v]) (fun u s2 => Stp fs s1 s2 ∧ Reads s2.heap u k []) (fun _ _ => False) s1)
    (q : ∀ s1 out c, Stp fs s0 s1 → s1.heap.get? a = some (seqObj "list" (List.toArray out) c) → PySem.W.KeyedOut false kz vs out → P (.done (.ret .none)) s1) :
    wpAny (model prog w) A (ksk_rest a f false vs.toArray e1 (.ref kS)) P E s := by
  unfold ksk_rest; refine wpAny_bind (wpAny_rule ?_)
  rw [← Array.forIn_toList]; simp only [List.toList_toArray]
  refine wpAny_bind (ksk_fold (fun i s1 => ∃ ks c, Stp fs s0 s1 ∧ s1.heap.get? kS = some (seqObj "list" ks c) ∧ s1.heap.get? a = some (seqObj "list" #[] e1) ∧ PySem.W.EachIs (fun v k => Reads s1.heap v k [] ∧ PySem.W.alike k k = true) ks.toList (kz.take i)) vs 0 s ⟨#[], 0, st, nk, na, .nil⟩ (fun j v s1 hv I => ?_) fun s1 I => ?_)
  · obtain ⟨ks, c, st1, nk1, na1, es⟩ := I
    rw [Nat.zero_add] at es; rw [Nat.zero_add]
    have jl : j < kz.length := by have := (List.getElem?_eq_some_iff.mp hv).1; omega
    have hk : kz[j]? = some kz[j] := List.getElem?_eq_getElem jl
    generalize kz[j] = k at hk
    have kk : PySem.W.alike k k = true := hal k (List.mem_of_getElem? hk) k (List.mem_of_getElem? hk)
    have ksl : ks.size ≤ vs.length := by have := es.length; rw [List.length_take, Array.length_toList] at this; omega
    refine wpAny_bind (wpAny_attempt (wpAny_mono (turn j v k hv hk s1 st1) (fun u s2 ⟨st2, rd⟩ => ?_) fun _ _ z => z.elim))
    dsimp only
    have nk2 := st2.keep _ _ nk1 kf
    have na2 := st2.keep _ _ na1 af
    have sb := Heap.SameBut.update s2.heap kS (Obj.mapSeq (·.push u))
    refine wpAny_bind (listUpdate_at nk2 rfl ?_ (by omega) (by rw [Array.size_push]; omega))
    refine wpAny_pure ⟨rfl, ks.push u, ?_⟩
    obtain ⟨c2, e2⟩ : ∃ c2, (s2.heap.update kS (Obj.mapSeq (·.push u))).get? kS = some (seqObj "list" (ks.push u) c2) := ⟨_, get?_update_seq nk2 (·.push u)⟩
    refine ⟨c2, (st1.trans st2).heap fun b o eb v' ev => (sb.2 b (fun z => by rw [z, hk0] at eb; cases eb)).trans ev, e2, (sb.2 a hka.symm).trans na2, ?_⟩
    have up : ∀ (x : Value) (d : D), PySem.W.alike d d = true → Reads s2.heap x d [] → Reads (s2.heap.update kS (Obj.mapSeq (·.push u))) x d [] := fun x d al r =>
      PySem.W.Reads.keepBut (a := kS) (fun b o hb eb => (sb.2 b hb).trans eb) (fun o eo => by rw [nk2] at eo; cases eo; rfl) d x [] al r (by simp)
    rw [Array.toList_push, List.take_add_one, hk]
    exact snocR (es.mono fun x d ⟨r, al⟩ => ⟨up x d al (rd_sl st2.any r), al⟩) ⟨up u k kk rd, kk⟩
  · obtain ⟨ks, c, st1, nk1, na1, es⟩ := I
    rw [Nat.zero_add, List.take_of_length_le (by omega)] at es
    have es2 : PySem.W.EachIs (fun v k => ∃ as, Reads s1.heap v k as) ks.toList kz := es.mono fun v k z => ⟨[], z.1⟩
    have ksl : ks.size = vs.length := by have := es2.length; rw [Array.length_toList] at this; omega
    refine wpAny_bind (listItems_at nk1 rfl ?_)
    refine PySem.W.keyH_end (κ := PySem.W.dataKind s1.heap kz) (h₁ := dropH s1.heap kS) (fun b o hb eb => ?_) dropH_at nk1 na1 hka (sorts_data es2 hal hsk hu) ksl hZ fun h3 t3 c3 k3 n3 => q { s1 with heap := h3, toks := t3 } _ c3 ?_ n3 ⟨s1.heap, ks.toList, hal, rfl, es2⟩
    · by_cases z : b = kS
      · rw [z, dropH_at] at eb; cases eb
      · rw [dropH_ne z] at eb; exact eb
    · refine st1.heap fun b o eb u eu => k3 b u (fun z => by rw [z, ha0] at eb; cases eb) ?_
      rw [dropH_ne (fun z => by rw [z, hk0] at eb; cases eb)]
      exact eu
end
/-! ### data without lists -/
/-- what of the heap nobody can change -/
def frzO (H : Hp) : Hp := fun b => match H b with
  | some (.frz o (.tup xs)) => some (.frz o (.tup xs))
  | _ => none
theorem frzO_some {H : Hp} {b : Addr} {u : HO} (h : frzO H b = some u) : H b = some u ∧ ∃ o xs, u = .frz o (.tup xs) := by
  unfold frzO at h
  split at h
  · rename_i o xs e
    cases h
    exact ⟨e, o, xs, rfl⟩
  · cases h
theorem frzO_of {H : Hp} {b : Addr} {o : Obj} {xs : List V} (h : H b = some (.frz o (.tup xs))) : frzO H b = some (.frz o (.tup xs)) := by
  unfold frzO
  rw [h]
theorem frzO_none {H : Hp} {b : Addr} (h : H b = none) : frzO H b = none := by
  unfold frzO
  rw [h]
theorem frzO_same {Hf H : Hp} (s : Same Hf H) : Same (frzO Hf) (frzO H) := fun b u e => by
  obtain ⟨h, o, xs, rfl⟩ := frzO_some e
  exact frzO_of (s _ _ h)
mutual
theorem rep_frz {K : Fg} {Hf : Hp} : ∀ (d : D) {v : V}, flatD d = true → Rep K Hf v d → Rep K (frzO Hf) v d
  | .none, _, _, h => by cases h; exact .non
  | .bool _, _, _, h => by cases h; exact .bl _
  | .int _, _, _, h => by cases h; exact .int _
  | .str _, _, _, h => by cases h; exact .str _
  | .tuple ds, _, f, h => by
    cases h with
    | tup h1 h2 =>
      refine .tup ?_ (reps_frz ds f h2)
      rcases h1 with ⟨o, h1, z⟩ | h1
      · exact .inl ⟨o, frzO_of h1, z⟩
      · exact .inr h1
  | .list _, _, f, _ => by cases f
  | .dict _, _, f, _ => by cases f
theorem reps_frz {K : Fg} {Hf : Hp} : ∀ (ds : List D) {vs : List V}, flatAll ds = true → RepAll K Hf vs ds → RepAll K (frzO Hf) vs ds
  | [], _, _, h => by cases h; exact .nil
  | d :: ds, _, f, h => by
    rw [flatAll, Bool.and_eq_true] at f
    cases h with
    | cons h1 h2 => exact .cons (rep_frz d f.1 h1) (reps_frz ds f.2 h2)
end
mutual
/-- read off the raw heap -/
theorem rep_reads {P : Program} {w : World} {K : Fg} {H : Hp} {h : Heap} (ok : HOk P w H h) (ki : K.In h) : ∀ (d : D) {v : V} {u : Value}, flatD d = true → Rep K H v d → RelV v u → Reads h u d []
  | .none, _, _, _, r, e => by cases r; cases e; exact .none
  | .bool _, _, _, _, r, e => by cases r; cases e; exact .bool _
  | .int _, _, _, _, r, e => by cases r; obtain ⟨t, rfl⟩ := e; exact .int _ _
  | .str _, _, _, _, r, e => by cases r; obtain ⟨t, rfl⟩ := e; exact .str _ _
  | .tuple ds, _, _, f, r, e => by
    cases r with
    | tup h1 h2 =>
      cases e
      rcases h1 with ⟨o, h1, z⟩ | ⟨o, its, n, h1, hc, _, hs, hz, r⟩
      · obtain ⟨e1, _, its, rv, o2, e2, hc, n, hd⟩ := ok _ _ h1
        exact .tuple e2 hc hd (reps_reads ok ki ds f h2 (by simpa using rv))
      · exact .tuple (ki _ _ h1) hc hs (reps_reads ok ki ds f h2 r)
  | .list _, _, _, f, _, _ => by cases f
  | .dict _, _, _, f, _, _ => by cases f
theorem reps_reads {P : Program} {w : World} {K : Fg} {H : Hp} {h : Heap} (ok : HOk P w H h) (ki : K.In h) : ∀ (ds : List D) {vs : List V} {us : List Value}, flatAll ds = true → RepAll K H vs ds → Vals vs us → ReadsAll h us ds []
  | [], _, _, _, r, e => by cases r; cases e; exact .nil
  | d :: ds, _, _, f, r, e => by
    rw [flatAll, Bool.and_eq_true] at f
    cases r with
    | cons h1 h2 =>
      cases e with
      | cons e1 e2 => exact .cons (as := []) (bs := []) (rep_reads ok ki d f.1 h1 e1) (reps_reads ok ki ds f.2 h2 e2)
end
section
variable {X : Cx} {pins : List (Addr × Obj)} {σ : L2.St} {H Hf : Hp} {s : Shared} {Φ : Fn0}
theorem fs_base (I : Inv X pins σ H s) {b : Addr} {o : Obj} (e : X.base.get? b = some o) : b ∉ frs X.stack := fun hb => by
  rcases List.mem_cons.mp (I.stkSub b hb) with z | z
  · exact absurd (Nat.lt_of_lt_of_le (Heap.lt_size e) (Nat.le_trans I.ok.bsz (z ▸ I.ok.above))) (Nat.lt_irrefl _)
  · exact I.ok.nofr e z
/-- a callee's surroundings, at a state that has kept all -/
theorem env_stp (I : Inv X pins σ H s) {s1 : Shared} (x : Stp (frs X.stack) s s1) : Env0 X.prog X.w X.K X.mg X.base X.A.in1.in1 X.stack s1 (frzO H) := by
  have e0 := I.env0.in1.in1
  refine ⟨e0.frames, e0.mod, fun b o e => ⟨x.keep b o (e0.bs b o e).1 (fs_base I e), frzO_none (e0.bs b o e).2⟩, ?_, e0.funs.of_keeps fun b o e _ => ?_, fun b hb => frzO_none (e0.frf b hb), fun b u e => ?_, x.bare⟩
  · obtain ⟨m, ⟨o, _, _, ho, _⟩, _⟩ := I.loc
    obtain ⟨sl, h⟩ := x.any _ _ ho
    exact Nat.le_trans (Nat.le_trans I.ok.bsz I.ok.above) (Nat.le_of_lt (Heap.lt_size h))
  · obtain ⟨sl, h⟩ := x.any b o e
    exact ⟨_, h, rfl⟩
  · obtain ⟨h, o, xs, rfl⟩ := frzO_some e
    have nf : b ∉ frs X.stack := fun z => by rw [I.stkFree b z] at h; cases h
    obtain ⟨e1, z, its, rv, o2, e2, hc⟩ := I.hok _ _ h
    exact ⟨x.keep b o e1 nf, z, its, rv, o2, x.keep b o2 e2 nf, hc⟩
/-- behind a call from there -/
theorem stp_call {s1 s2 : Shared} {H' : Hp} (ok1 : HOk X.prog X.w (frzO H) s1.heap) (os : s2.os = s1.os) (bare : AllBare s2.gens) (un : Un (frs X.stack) [] (frzO H) H' s1.heap s2.heap) (ok2 : HOk X.prog X.w H' s2.heap) : Stp (frs X.stack) s1 s2 where
  os := os
  bare := bare
  keep := fun b o e nf => by
    cases q : frzO H b with
    | none => exact un.keep b o e q nf (by simp)
    | some u =>
      obtain ⟨_, o', xs, rfl⟩ := frzO_some q
      obtain ⟨e1, _⟩ := ok1 _ _ q
      rw [e] at e1
      cases e1
      exact (ok2 _ _ (un.frzs _ _ _ q)).1
  slot := fun b o e nf => by
    cases q : frzO H b with
    | none => exact un.slot b o e q nf (by simp)
    | some u =>
      obtain ⟨_, o', xs, rfl⟩ := frzO_some q
      obtain ⟨e1, _⟩ := ok1 _ _ q
      rw [e] at e1
      cases e1
      exact ⟨o.slots, (ok2 _ _ (un.frzs _ _ _ q)).1⟩
/-- all that was there is there again, and a new list -/
theorem inv_stp (I : Inv X pins σ H s) {s1 : Shared} (x : Stp (frs X.stack) s s1) {a : Addr} {xs : List V} (ha : s.heap.get? a = none) (hz : xs.length ≤ sizeLine) {its : List Value} {c : Nat} (rv : Vals xs its) (h : s1.heap.get? a = some (seqObj "list" its.toArray c)) :
    Inv X pins σ (upd H a (.lst xs)) s1 := by
  have hn : H a = none := by
    cases q : H a with
    | none => rfl
    | some u => exact absurd (Heap.lt_size h) (fun _ => by
        have := I.hok _ _ q
        have : ∃ o, s.heap.get? a = some o := by
          cases u with
          | lst xs => obtain ⟨_, _, _, _, e⟩ := this; exact ⟨_, e⟩
          | tup xs => obtain ⟨_, _, _, o, e, _⟩ := this; exact ⟨_, e⟩
          | dK kvs => obtain ⟨_, _, _, _, o, _, _, e, _⟩ := this; exact ⟨_, e⟩
          | dT kvs => obtain ⟨_, _, _, _, o, _, _, e, _⟩ := this; exact ⟨_, e⟩
          | set S n => obtain ⟨o, _, _, _, e, _⟩ := this; exact ⟨_, e⟩
          | ins C dx fs => obtain ⟨_, _, _, e, _⟩ := this; exact ⟨_, e⟩
          | own _ => exact this
          | xd fs => obtain ⟨_, ⟨o, _, _, e, _⟩, _⟩ := this; exact ⟨_, e⟩
          | rng lo hi => obtain ⟨_, _, _, e⟩ := this; exact ⟨_, e⟩
          | frz ob u => exact ⟨_, this.1⟩
          | tbl ps => exact ⟨_, (show s.heap.get? a = some _ from this)⟩
          | met f y => exact ⟨_, (show s.heap.get? a = some _ from this)⟩
          | ext φ => exact this.2.1
        obtain ⟨o, e⟩ := this
        rw [ha] at e; cases e)
  have ne : ∀ b u, H b = some u → b ≠ a := fun b u q z => by rw [z, hn] at q; cases q
  refine I.call' (ch := []) x.os ⟨fun b o e _ nf _ => x.keep b o e nf, fun b o e _ nf _ => x.slot b o e nf, fun b o e q _ => ?_, fun b o e _ => ?_, fun b ys q => ?_, fun b o u q => ?_, fun b ps q => ⟨#[], ?_⟩⟩ (fun b u q => ?_) x.bare (fun _ z => nomatch z)
  · rw [upd_ne (fun z => by rw [z, ha] at e; cases e)]; exact q
  · obtain ⟨sl, h⟩ := x.any b o e; exact ⟨_, h⟩
  · rw [upd_ne (ne _ _ q)]; exact q
  · rw [upd_ne (ne _ _ q)]; exact q
  · rw [upd_ne (ne _ _ q), q]; simp
  · by_cases z : b = a
    · subst z
      rw [upd_same] at q
      cases q
      exact ⟨hz, its, c, rv, h⟩
    · rw [upd_ne z] at q
      refine (I.hok _ _ q).stay (fun d v hd e => x.keep d v e fun y => ?_) (fun d e => by rw [upd_ne (ne _ _ e)]; exact e) fun d ys e => by rw [upd_ne (ne _ _ e)]; exact e
      have := I.stkFree d y
      rcases hd with rfl | hd
      · rw [this] at q; cases q
      · rw [this] at hd; cases hd
/-- items with their keys -/
theorem trips {K : Fg} : ∀ {xs : List V} {vs : List Value} {ds ks : List D}, Vals xs vs → RepAll K Hf xs ds → ks.length = ds.length → PySem.W.EachIs (fun v (p : V × D × D) => RelV p.1 v ∧ Rep K Hf p.1 p.2.1) vs (xs.zip (ds.zip ks)) ∧ (xs.zip (ds.zip ks)).map (·.2.2) = ks ∧ (xs.zip (ds.zip ks)).map Prod.snd = ds.zip ks
  | _, _, _, [], .nil, .nil, _ => ⟨.nil, rfl, rfl⟩
  | _, _, _, _ :: _, .nil, .nil, e => by cases e
  | _, _, _, [], .cons _ _, .cons _ _, e => by cases e
  | x :: xs, v :: vs, d :: ds, k :: ks, .cons r t, .cons r2 t2, e => by
    obtain ⟨h1, h2, h3⟩ := trips (ks := ks) t t2 (by simpa using e)
    exact ⟨.cons ⟨r, r2⟩ h1, congrArg (k :: ·) h2, congrArg ((d, k) :: ·) h3⟩
theorem trips_out {K : Fg} : ∀ {bs : List (V × D × D)} {vs : List Value}, PySem.W.EachIs (fun v (p : V × D × D) => RelV p.1 v ∧ Rep K Hf p.1 p.2.1) vs bs → Vals (bs.map Prod.fst) vs ∧ RepAll K Hf (bs.map Prod.fst) (bs.map (·.2.1))
  | _, _, .nil => ⟨.nil, .nil⟩
  | _, _, .cons r t => by
    obtain ⟨h1, h2⟩ := trips_out t
    exact ⟨.cons r.1 h1, .cons r.2 h2⟩
theorem keysOf_at {φ : List D → Option D} : ∀ {ds ks : List D}, keysOf φ ds = some ks → ks.length = ds.length ∧ ∀ (i : Nat) (d k : D), ds[i]? = some d → ks[i]? = some k → φ [d] = some k
  | [], _, e => by cases e; exact ⟨rfl, fun i d k h => by simp at h⟩
  | d :: ds, _, e => by
    rw [keysOf] at e
    obtain ⟨k, e1, e⟩ := Option.bind_eq_some_iff.mp e
    obtain ⟨ks, e2, e⟩ := Option.map_eq_some_iff.mp e
    subst e
    obtain ⟨h1, h2⟩ := keysOf_at e2
    refine ⟨by rw [List.length_cons, List.length_cons, h1], fun i d' k' h3 h4 => ?_⟩
    cases i with
    | zero => cases h3; cases h4; exact e1
    | succ i => exact h2 i d' k' h3 h4
theorem merge_key {bs : List (V × D × D)} (h : alkL (bs.map (·.2.2)) = true) : (bs.mergeSort (PySem.W.dataLe false fun p => p.2.2)).map (·.2.1) = sortKD (bs.map Prod.snd) := by
  have al := (alkL_at h).2
  have := List.map_mergeSort (r := PySem.W.dataLe false fun p : V × D × D => p.2.2) (s := fun a b : D × D => leD a.2 b.2) (f := Prod.snd) (l := bs) fun a ha b hb => by
    show (!PySem.W.dataLt b.2.2 a.2.2) = !ltD b.2.2 a.2.2
    rw [ltD_eq _ _ (al _ (List.mem_map.mpr ⟨b, hb, rfl⟩) _ (List.mem_map.mpr ⟨a, ha, rfl⟩))]
  unfold sortKD
  rw [← this, List.map_map]
  rfl
mutual
theorem alk_flat : ∀ (d : D), alk d d = true → flatD d = true
  | .int _, _ => rfl
  | .str _, _ => rfl
  | .tuple xs, h => alk_flats xs (by simpa [alk] using h)
  | .none, h => by simp [alk] at h
  | .bool _, h => by simp [alk] at h
  | .list _, h => by simp [alk] at h
  | .dict _, h => by simp [alk] at h
theorem alk_flats : ∀ (ds : List D), alkAll ds ds = true → flatAll ds = true
  | [], _ => rfl
  | d :: ds, h => by
    rw [alkAll, Bool.and_eq_true] at h
    rw [flatAll, alk_flat d h.1, alk_flats ds h.2]
    rfl
end
/-- sorted(xs, key=f) -/
theorem run_sortKey {f : Nat} {l : Addr} {xs : List V} {ds ks : List D} {Q : VK} {k : Nat} {fa : Addr} {fd : FuncData} {ps : List Str} (F : FnOk X.prog X.w X.K X.mg X.base CX0 k fa fd ps (spP X.K .sh (Φ f))) (hr : Room (k + 2) X.A) (hb : Binds X.K fd ps []) (hu : X.A.units + 200 < cLine)
    (I : Inv X pins σ H s) (sm : Same Hf H) (hl : SqL X.K H l xs) (rd : RepAll X.K Hf xs ds) (fl : ds.all flatD = true) (hk : keysOf (Φ f) ds = some ks) (hal : alkL ks = true)
    (q : ∀ w H' Hf', Ext H Hf H' Hf' → RR X.K H H' Hf' .fr w (.list (sortKD (ds.zip ks))) → Q w H') :
    wpAny (model X.prog X.w) X.A (call (.builtin "sorted") [.ref l] [(Str.ofString "key", .ref fa)]) (EP X pins σ Q) X.xe s := by
  obtain ⟨its, rv, hl, hz⟩ := I.list hl
  obtain ⟨kl, kat⟩ := keysOf_at hk
  obtain ⟨es, b1, b2⟩ := trips rv rd kl
  have hvl := rv.length
  have hdl := dpa_len rd
  have hil : its.length = xs.length := hvl.symm
  have fresh : s.heap.get? (s.heap.objs.size + 1) = none := Heap.get?_none_of_le (Nat.le_succ _)
  have nofs : ∀ b, s.heap.objs.size ≤ b → b ∉ frs X.stack := fun b hb z => by
    rcases List.mem_cons.mp (I.stkSub b z) with y | y
    · rw [y] at hb; exact absurd (Nat.lt_of_lt_of_le I.lt hb) (Nat.lt_irrefl _)
    · exact I.nofs hb y
  refine PySem.W.sorted_of_sort hl.isList (by rw [hil]; exact hz) (ksk_s1 _ _) (fun _ => ksk_l1 _ _) fun E' => ?_
  rw [ksk_t1]
  have hc := PySem.W.copyHeap_at s.heap its
  have up : ∀ {g : Heap}, (∀ b o, b ≠ s.heap.objs.size + 1 → (PySem.W.copyHeap s.heap its).get? b = some o → g.get? b = some o) → ∀ b o, s.heap.get? b = some o → g.get? b = some o := fun hg b o e =>
    hg b o (fun z => by rw [z, fresh] at e; cases e) (PySem.W.copyHeap_old e)
  unfold ksk_tree
  refine wpAny_bind (listItems_at hc rfl ?_)
  refine wpAny_bind (listUpdate_at hc rfl ?_ (by rw [List.size_toArray, hil]; exact hz) (Nat.zero_le _))
  obtain ⟨e1, ho1⟩ : ∃ e1, ((PySem.W.copyHeap s.heap its).update (s.heap.objs.size + 1) (Obj.mapSeq fun _ => (#[] : Array Value))).get? (s.heap.objs.size + 1) = some (seqObj "list" #[] e1) := ⟨_, get?_update_seq hc fun _ => #[]⟩
  refine wpAny_bind (seqEpoch_at ho1 rfl ?_)
  refine wpAny_bind (wpAny_newTuple ?_ (by rw [hil]; exact hz))
  refine wpAny_bind (wpAny_newList ?_ (Nat.zero_le _))
  refine wpAny_holding ?_
  have sbu := Heap.SameBut.update (PySem.W.copyHeap s.heap its) (s.heap.objs.size + 1) (Obj.mapSeq fun _ => (#[] : Array Value))
  have hsz : s.heap.objs.size + 1 < (PySem.W.copyHeap s.heap its).objs.size := Heap.lt_size hc
  have hk2 : (((PySem.W.copyHeap s.heap its).update (s.heap.objs.size + 1) (Obj.mapSeq fun _ => (#[] : Array Value))).push (seqObj "tuple" its.toArray 0)).objs.size = (PySem.W.copyHeap s.heap its).objs.size + 1 := by rw [size_push', Heap.size_update]
  have eks : (xs.zip (ds.zip ks)).map (·.2.2) = ks := b1
  have alk := alkL_alike hal
  refine key_loop (fs := frs X.stack) (s0 := s) (kz := ks) (a := s.heap.objs.size + 1) (kS := (((PySem.W.copyHeap s.heap its).update (s.heap.objs.size + 1) (Obj.mapSeq fun _ => (#[] : Array Value))).push (seqObj "tuple" its.toArray 0)).objs.size) ?_ (Heap.get?_none_of_le (by rw [hk2]; omega)) fresh (nofs _ (by rw [hk2]; omega)) (nofs _ (Nat.le_succ _)) (Heap.get?_push_size _ rfl) (Heap.get?_push_of_some _ (Heap.get?_push_of_some _ ho1)) (by rw [hk2]; exact Nat.ne_of_gt (Nat.lt_succ_of_lt hsz))
    (by rw [kl, ← hdl, ← hil]) (by rw [hil]; exact hz) alk.1 alk.2 (fun d hd => Nat.lt_of_le_of_lt (Nat.add_le_add_left (okD_depth ((alkL_at hal).1 d hd)) _) (show X.A.units + 1 + 1 + 60 < cLine by omega)) (fun i v kd hv hkd s1 x => ?_) fun s1 out c x e ko => ?_
  · exact (Stp.refl I.bare).heap fun b o e u eu => Heap.get?_push_of_some _ (Heap.get?_push_of_some _ ((sbu.2 b (fun z => by rw [z, fresh] at e; cases e)).trans (PySem.W.copyHeap_old eu)))
  · have il : i < ks.length := (List.getElem?_eq_some_iff.mp hkd).1
    have id : ds[i]? = some ds[i] := List.getElem?_eq_getElem (by omega)
    obtain ⟨xv, ex, rx⟩ := dpa_get rd id
    have hf := kat i _ kd id hkd
    have fi : flatD ds[i] = true := List.all_eq_true.mp fl _ (List.getElem_mem _)
    have fk : flatD kd = true := alk_flat kd ((alkL_at hal).2 kd (List.mem_of_getElem? hkd) kd (List.mem_of_getElem? hkd))
    have rvi : RelV xv v := by
      obtain ⟨v', e1, r1⟩ := rv.get ex
      rw [hv] at e1
      cases e1
      exact r1
    have env := env_stp I x
    have kin : X.K.In s1.heap := I.ok.mod.kin.keeps fun b o e => (env.bs b o e).1
    have psl : ps.length = 1 := by
      have := F.len [xv] (frzO H) (fun _ _ => True) E0 ⟨frzO Hf, [ds[i]], kd, frzO_same sm, .cons (rep_frz _ fi rx) .nil, hf, fun _ _ _ _ _ => trivial⟩
      exact this.symm
    refine wpAny_call (codeAny_mono (F.run X.A.in1.in1 X.stack s1 (frzO H) ⟨[v], []⟩ [v] [xv] (fun u H' => Rep X.K H' u kd) E0 hr.in1.in1 env (by have := hb s1 [v] kin (by rw [psl]; rfl); rwa [List.append_nil] at this) (.cons rvi .nil)
      ⟨frzO Hf, [ds[i]], kd, frzO_same sm, .cons (rep_frz _ fi rx) .nil, hf, fun u H' Hf' x2 r2 => Rep.mono x2.sub kd r2⟩) fun r s2 hq => ?_)
    cases r with
    | error e => exact hq.elim
    | ok fl =>
      cases fl with
      | ret u =>
        obtain ⟨v2, H', os, bare, un, ok, r, q2⟩ := hq
        have st2 := stp_call env.hok os bare un ok
        refine ⟨st2, rep_reads ok (I.ok.mod.kin.keeps fun b o e => st2.keep b o (env.bs b o e).1 (fs_base I e)) kd fk q2 r⟩
      | next => exact hq.elim
      | brk => exact hq.elim
      | cont => exact hq.elim
  · have o1 := PySem.W.keyedOut_each (bs := xs.zip (ds.zip ks)) (fun p => p.2.2) (by rw [eks]; exact ko) es
    obtain ⟨o2, o3⟩ := trips_out o1
    refine ⟨rfl, ?_⟩
    have e3 := merge_key (bs := xs.zip (ds.zip ks)) (by rw [eks]; exact hal)
    rw [e3, b2] at o3
    have hl3 := o2.length
    have ol := ko.length (by rw [kl, ← hdl, ← hil])
    exact ⟨.ref _, _, inv_stp I x fresh (by omega) o2 e, rfl, finL sm (I.hok.fresh (Nat.le_succ _)) o3 q⟩
end
end Orp

/-! Orp, part 28: what is checked is so: blocks, built-ins. -/
namespace Orp
open PySem PySem.Spec PyProof.Rows L2
theorem relS_look {sc : Scope} : ∀ {names : List (Str × NameKind)} {x : Str} {k : NameKind}, names.lookup x = some k →
    (names.map fun (n, k) => if (k == NameKind.free && sc.kind == .function && sc.names.lookup n == some .cell) then (n, NameKind.cell) else (n, k)).lookup x = some k ∨
    (k = .free ∧ (names.map fun (n, k) => if (k == NameKind.free && sc.kind == .function && sc.names.lookup n == some .cell) then (n, NameKind.cell) else (n, k)).lookup x = some .cell)
  | [], _, _, h => by simp at h
  | (n, k₀) :: r, x, k, h => by
    have ih := @relS_look sc r x k
    rw [List.map_cons]
    cases hx : x == n with
    | true =>
      rw [List.lookup_cons, hx] at h
      have hk : k₀ = k := Option.some.inj h
      subst hk
      cases hc : (k₀ == NameKind.free && sc.kind == .function && sc.names.lookup n == some .cell) with
      | true =>
        right
        simp only [Bool.and_eq_true] at hc
        refine ⟨eq_of_beq hc.1.1, ?_⟩
        simp only [hc.1.1, hc.1.2, hc.2, Bool.and_self, if_true, List.lookup_cons, hx]
      | false =>
        left
        simp only [hc, Bool.false_eq_true, if_false, List.lookup_cons, hx]
    | false =>
      rw [List.lookup_cons, hx] at h
      have key : ∀ kk : NameKind, ((n, kk) :: (r.map fun (n, k) => if (k == NameKind.free && sc.kind == .function && sc.names.lookup n == some .cell) then (n, NameKind.cell) else (n, k))).lookup x = (r.map fun (n, k) => if (k == NameKind.free && sc.kind == .function && sc.names.lookup n == some .cell) then (n, NameKind.cell) else (n, k)).lookup x := fun kk => by
        rw [List.lookup_cons, hx]
      cases hc : (k₀ == NameKind.free && sc.kind == .function && sc.names.lookup n == some .cell) with
      | true => simp only [hc, if_true]; rw [key]; exact ih h
      | false => simp only [hc, Bool.false_eq_true, if_false]; rw [key]; exact ih h
section
variable {C : Cst} {Φ : Fn0} {X : Cx} {sc scope : Scope} {x f : Str} {i : Nat} {pos : Pos} {own : List Nat}
theorem Good.blk (G : Good C Φ X sc) (s : Shared) (H : Hp) (Cc : Addr) (cl : List (Str × Addr)) (fp : List Addr) : Good C Φ (BX X scope s H Cc cl fp) scope where
  N := G.N
  nd := G.nd
  calm := G.calm
  un := G.un
  vis := fun x k h => relS_look h
  fn := fun x h => by
    show (scope.names.lookup x == some .cell) = true
    rw [h]
    rfl
  blt := G.blt
  call := G.call
  con := G.con
theorem blk_of (G : Good C Φ X sc) (h : blkC C.N sc scope (ownP C own) = true) : BlkOk X.N X.env.scope scope (ownP C own) := by
  have b := blkOk_by h
  refine ⟨b.kind, b.uniq, by rw [G.N]; exact b.ix, fun y hy e => ?_, by rw [G.N]; exact b.own⟩
  rcases b.free y hy e with z | z
  · exact (G.vis _ _ z).elim .inl fun q => nomatch q.1
  · exact (G.vis _ _ z).elim .inr fun q => .inl q.2
theorem nodup_of : ∀ {l : List Nat}, nodupB l = true → l.Nodup
  | [], _ => .nil
  | x :: xs, h => by
    simp only [nodupB, Bool.and_eq_true, Bool.not_eq_true'] at h
    exact List.nodup_cons.mpr ⟨fun z => by rw [List.contains_iff_mem.mpr z] at h; exact absurd h.1 (by simp), nodup_of h.2⟩
theorem ownP_snd (own : List Nat) : (ownP C own).map (·.2) = own := by
  unfold ownP
  rw [List.map_map]
  exact List.map_id' own
/-! ### targets -/
theorem pgs_of (G : Good C Φ X sc) : ∀ {es : List Expr} {is : List Nat}, tgsB C sc es is = true → PGs X es (fun vs σ H Q => vs.length = is.length ∧ Q (setVs is vs σ) H) ∧ (assignEach es X.env).length = is.length ∧ (assignEach es X.env).findIdx? (·.1) = none
  | [], [], _ => ⟨⟨fun pins s σ H vs us Q I r ⟨h1, h2⟩ => by
      cases r with
      | nil => exact assignInOrder_nil ⟨σ, H, I, h2⟩
      | cons _ _ => cases h1⟩, rfl, rfl⟩
  | [], _ :: _, h => by simp [tgsB] at h
  | e :: es, [], h => by cases e <;> simp [tgsB] at h
  | e :: es, i :: is, h => by
    cases e <;> simp only [tgsB, Bool.false_eq_true, Bool.and_eq_true, decide_eq_true_eq] at h
    rename_i x pos
    obtain ⟨h1, h2, h3⟩ := pgs_of G h.2
    obtain ⟨l1, l2⟩ := loc_of G h.1.2
    have pg := pg_name (pos := pos) (nd_of G) (by rw [G.N]; exact h.1.1) l1 l2
    refine ⟨⟨fun pins s σ H vs us Q I r hq => ?_⟩, ?_, ?_⟩
    · refine (pgs_cons pg h1 rfl).run pins s σ H vs us Q I r ?_
      obtain ⟨hl, q⟩ := hq
      cases vs with
      | nil => cases hl
      | cons v vs => exact ⟨v, vs, rfl, by simpa using hl, q⟩
    · show (assignEach es X.env).length + 1 = _
      rw [h2]
      rfl
    · show ((false, assign _ X.env) :: assignEach es X.env).findIdx? (·.1) = none
      rw [List.findIdx?_cons, h3]
      rfl
theorem pg_of (G : Good C Φ X sc) {tg : Expr} {t : Tg} (h : tgB C sc tg t = true) : PG X tg (gTg X.K t) := by
  unfold tgB at h
  split at h
  · simp only [Bool.and_eq_true, decide_eq_true_eq] at h
    obtain ⟨l1, l2⟩ := loc_of G h.2
    exact pg_name (nd_of G) (by rw [G.N]; exact h.1) l1 l2
  · obtain ⟨h1, h2, h3⟩ := pgs_of G h
    exact pg_tup G.calm h1 h2 h3
  · cases h
/-! ### built-ins by name -/
theorem b1_rule (G : Good C Φ X sc) {o : O1} (h : b1N o = some f) : f ∈ bltN ∧ f ≠ "__name__" ∧ (f == ("__debug__" : Str)) = false ∧
    ((∃ id, bootBuiltins f = some (.builtin id) ∧ CallR X (.builtin id) (rC1 X.K (o1F o) (o1K o))) ∨ ∃ T, bootBuiltins f = some (.type T) ∧ CallR X (.type T) (rC1 X.K (o1F o) (o1K o))) := by
  have hc := G.calm
  have hu := G.un
  cases o <;> simp only [b1N, reduceCtorEq, Option.some.injEq] at h <;> subst h
  · exact ⟨by decide, by decide, by decide, .inl ⟨_, by decide +kernel, c_len⟩⟩
  · exact ⟨by decide, by decide, by decide, .inl ⟨_, by decide +kernel, c_sum hc⟩⟩
  · exact ⟨by decide, by decide, by decide, .inl ⟨_, by decide +kernel, c_any hc⟩⟩
  · exact ⟨by decide, by decide, by decide, .inl ⟨_, by decide +kernel, c_all hc⟩⟩
  · exact ⟨by decide, by decide, by decide, .inl ⟨_, by decide +kernel, c_max hc hu⟩⟩
  · exact ⟨by decide, by decide, by decide, .inl ⟨_, by decide +kernel, c_min hc hu⟩⟩
  · exact ⟨by decide, by decide, by decide, .inl ⟨_, by decide +kernel, c_sorted hc hu⟩⟩
  · exact ⟨by decide, by decide, by decide, .inr ⟨_, by decide +kernel, c_list⟩⟩
  · exact ⟨by decide, by decide, by decide, .inr ⟨_, by decide +kernel, c_tuple⟩⟩
  · exact ⟨by decide, by decide, by decide, .inr ⟨_, by decide +kernel, c_int⟩⟩
  · exact ⟨by decide, by decide, by decide, .inr ⟨_, by decide +kernel, c_str⟩⟩
theorem b2_rule (G : Good C Φ X sc) {o : O2} (h : b2N o = some f) : f ∈ bltN ∧ f ≠ "__name__" ∧ (f == ("__debug__" : Str)) = false ∧ ∃ id, bootBuiltins f = some (.builtin id) ∧ CallR X (.builtin id) (rC2 X.K (o2F o) .sh) := by
  have hc := G.calm
  cases o <;> simp only [b2N, reduceCtorEq, Option.some.injEq] at h <;> subst h
  · exact ⟨by decide, by decide, by decide, _, by decide +kernel, c_max2 hc⟩
  · exact ⟨by decide, by decide, by decide, _, by decide +kernel, c_min2 hc⟩
theorem ty_rule {o : O1} {T : Str} (h : (tyO o).map Str.ofString = some T) : ∃ S, tyO o = some S ∧ T = Str.ofString S ∧ T ∈ bltN ∧ T ≠ "__name__" ∧ (T == ("__debug__" : Str)) = false ∧ bootBuiltins T = some (.type S) := by
  cases o <;> simp only [tyO, Option.map_some, Option.map_none, reduceCtorEq, Option.some.injEq] at h <;> subst h
  · exact ⟨_, rfl, rfl, by decide, by decide, by decide, by decide +kernel⟩
  · exact ⟨_, rfl, rfl, by decide, by decide, by decide, by decide +kernel⟩
  · exact ⟨_, rfl, rfl, by decide, by decide, by decide, by decide +kernel⟩
  · exact ⟨_, rfl, rfl, by decide, by decide, by decide, by decide +kernel⟩
  · exact ⟨_, rfl, rfl, by decide, by decide, by decide, by decide +kernel⟩
variable {st : List Stat} {a b c : Expr} {p q r : Ep} {κ κa κb κc : Kd}
theorem pe_b1 (G : Good C Φ X sc) {o : O1} {p0 : Pos} (h : b1N o = some f) (hg : glB sc f = true) (hp : isPlain a = true) (ha : PE X a (tP X.K Φ st κa p)) : PE X (.Call (.Name f p0) [a] [] pos) (tP X.K Φ st (o1K o) (.o1 o p)) := by
  obtain ⟨h1, h2, h3, h4⟩ := b1_rule G h
  have pa := pa_cons ha pa_nil (star_plain hp)
  rcases h4 with ⟨id, h4, h5⟩ | ⟨T, h4, h5⟩
  · exact (pe_callB h5 (gl_of G hg) (G.blt f h1) h4 pa h2 h3 (star_plain hp) rfl).imp fun _ _ _ w => cb1 w
  · exact (pe_callTy h5 (gl_of G hg) (G.blt f h1) h4 pa h2 h3 (star_plain hp) rfl).imp fun _ _ _ w => cb1 w
theorem pe_b2 (G : Good C Φ X sc) {o : O2} {p0 : Pos} (h : b2N o = some f) (hg : glB sc f = true) (hp : isPlain a = true) (hp2 : isPlain b = true) (ha : PE X a (tP X.K Φ st κa p)) (hb : PE X b (tP X.K Φ st κb q)) : PE X (.Call (.Name f p0) [a, b] [] pos) (tP X.K Φ st .sh (.o2 o p q)) := by
  obtain ⟨h1, h2, h3, id, h4, h5⟩ := b2_rule G h
  exact (pe_callB h5 (gl_of G hg) (G.blt f h1) h4 (pa_cons ha (pa_cons hb pa_nil (star_plain hp2)) (star_plain hp)) h2 h3 (star_plain hp) (star_any (by simp [hp2]))).imp fun _ _ _ w => cb2 w
theorem pe_isi (G : Good C Φ X sc) {o : O1} {p0 p1 : Pos} {T : Str} (hg : glB sc "isinstance" = true) (h : (tyO o).map Str.ofString = some T) (hT : glB sc T = true) (hp : isPlain a = true) (ha : PE X a (tP X.K Φ st κa p)) : PE X (.Call (.Name "isinstance" p0) [a, .Name T p1] [] pos) (tP X.K Φ st .sh (.o1 o p)) := by
  obtain ⟨S, h1, rfl, h2, h3, h4, h5⟩ := ty_rule h
  exact (pe_callB (c_isi h1) (gl_of G hg) (G.blt _ (by decide)) (by decide +kernel) (pa_cons ha (pa_cons (pe_bltn (v := .ty S) (gl_of G hT) (G.blt _ h2) h5 rfl h3 h4) pa_nil rfl) (star_plain hp)) (by decide) (by decide) (star_plain hp) rfl).imp fun _ _ _ w => cbI w
end
end Orp

/-! Orp, part 29: what is checked is so: the rules by their parts. -/
namespace Orp
open PySem PySem.Spec PyProof.Rows L2
/-- what a check of depth n gives -/
structure Snd (C : Cst) (Φ : Fn0) (n : Nat) : Prop where
  e : ∀ {X : Cx} {sc : Scope} {st : List Stat} {e : Expr} {p : Ep} {κ : Kd}, Good C Φ X sc → chkE C n sc e p = true → kdX C.R st p = some κ → PE X e (tP X.K Φ st κ p)
  b : ∀ {X : Cx} {sc : Scope} {st : List Stat} {op : BoolOp} {xs : List Expr} {ps : Pos} {p : Ep} {κ : Kd}, Good C Φ X sc → chkB C n sc op xs ps p = true → kdX C.R st p = some κ → PE X (.BoolOp op xs ps) (tP X.K Φ st κ p)
  t : ∀ {X : Cx} {sc : Scope} {st : List Stat} {e : Expr} {p : Ep} {κ : Kd}, Good C Φ X sc → chkT C n sc e p = true → kdX C.R st p = some κ → PT X e (tT X.K Φ st p)
  tb : ∀ {X : Cx} {sc : Scope} {st : List Stat} {op : BoolOp} {xs : List Expr} {ps : Pos} {p : Ep} {κ : Kd}, Good C Φ X sc → chkTB C n sc op xs ps p = true → kdX C.R st p = some κ → PW X (.BoolOp op xs ps) (tT X.K Φ st p)
  w : ∀ {X : Cx} {sc : Scope} {st : List Stat} {tg e : Expr} {w : Wk} {b : Bool}, Good C Φ X sc → chkW C n sc tg e w = true → kdW C.R st w = some b → PI X tg e (tW X.K Φ st b w)
  c : ∀ {X : Cx} {sc scope : Scope} {st stE : List Stat} {gens : List Comprehension} {own : List Nat} {c : Cl}, Good C Φ X sc → chkC C n sc scope gens own c = true → kdC C.R st own c = some stE →
    ∃ tg iter ifs gs t w q r b, gens = ⟨tg, iter, ifs, 0⟩ :: gs ∧ c = .cons t w q r ∧ CompOk X Φ st stE tg iter ifs gs scope (ownP C own) t w q r b
  g : ∀ {X : Cx} {sc : Scope} {st stE : List Stat} {gs : List Comprehension} {c : Cl}, Good C Φ X sc → chkG C n sc gs c = true → kdCr C.R st c = some stE → ClP X Φ st c gs stE
  i : ∀ {X : Cx} {sc : Scope} {st : List Stat} {ifs : List Expr} {q : Ep} {κ : Kd}, Good C Φ X sc → chkI C n sc ifs q = true → kdX C.R st q = some κ → PTs X ifs (tT X.K Φ st q)
section
variable {C : Cst} {Φ : Fn0} {X : Cx} {sc scope : Scope} {x f : Str} {i n : Nat} {pos : Pos} {st stE : List Stat} {e a b c tg : Expr} {p q r : Ep} {κ κa κb κc : Kd}
theorem plain_of (h : chkE C n sc e p = true) : isPlain e = true := by
  cases n with
  | zero => simp [chkE] at h
  | succ n =>
    unfold chkE at h
    rw [Bool.and_eq_true] at h
    exact h.1
theorem plain_all : ∀ {xs : List Expr} {es : Eps}, allEs (chkE C n sc) xs es = true → xs.all isPlain = true ∧ epsLen es = xs.length
  | [], .nil, _ => ⟨rfl, rfl⟩
  | [], .cons _ _, h => by simp [allEs] at h
  | _ :: _, .nil, h => by simp [allEs] at h
  | x :: xs, .cons p ps, h => by
    rw [allEs, Bool.and_eq_true] at h
    obtain ⟨h1, h2⟩ := plain_all h.2
    exact ⟨by rw [List.all_cons, plain_of h.1, h1]; rfl, by rw [epsLen, h2]; rfl⟩
theorem pas_of (S : Snd C Φ n) (G : Good C Φ X sc) : ∀ {xs : List Expr} {es : Eps}, allEs (chkE C n sc) xs es = true → kdXs C.R st es = true → PA X xs (tPs X.K Φ st es)
  | [], .nil, _, _ => pa_n
  | [], .cons _ _, h, _ => by simp [allEs] at h
  | _ :: _, .nil, h, _ => by simp [allEs] at h
  | x :: xs, .cons p ps, h, k => by
    rw [allEs, Bool.and_eq_true] at h
    rw [kdXs, Bool.and_eq_true] at k
    cases hk : kdX C.R st p with
    | none => rw [hk] at k; exact absurd k.1 Bool.false_ne_true
    | some κ =>
      rw [hk] at k
      exact pa_c (froz_or k.1) (star_plain (plain_of h.1)) (S.e G h.1 hk) (pas_of S G h.2 k.2)
/-- names and constants -/
theorem snd_var (G : Good C Φ X sc) (h : varB C sc x i = true) (hk : kdX C.R st (.var i) = some κ) : PE X (.Name x pos) (tP X.K Φ st κ (.var i)) := by
  unfold varB at h
  rw [Bool.and_eq_true, Bool.and_eq_true, decide_eq_true_eq] at h
  rw [kdX] at hk
  obtain ⟨s, h1, h2⟩ := Option.bind_eq_some_iff.mp hk
  exact pe_v (by rw [G.N]; exact h.1.1) (vis_of G h.1.2) (okNm_of h.2).1 (okNm_of h.2).2 h1 h2
theorem snd_cst {cc : Const} {d : D} {kk : Nat} (h : cstB cc d = true) : PE X (.Constant cc kk pos) (tP X.K Φ st .sh (.cst d)) := by
  cases cc <;> cases d <;> simp only [cstB, Bool.false_eq_true] at h
  · exact pe_k pe_non fun _ => kV0_rep rfl
  · rw [eq_of_beq h]; exact pe_k pe_bl fun _ => kV0_rep rfl
  · rw [eq_of_beq h]; exact pe_k pe_int fun _ => kV0_rep rfl
  · rw [of_decide_eq_true h]; exact pe_k pe_str fun _ => kV0_rep rfl
theorem snd_con {d : D} (G : Good C Φ X sc) (hg : glB sc x = true) (ho : okNm x = true) (h : conB C x d = true) : PE X (.Name x pos) (tP X.K Φ st .sh (.cst d)) := by
  unfold conB at h
  obtain ⟨⟨y, d'⟩, h1, h2⟩ := List.any_eq_true.mp h
  rw [Bool.and_eq_true, decide_eq_true_eq] at h2
  obtain ⟨rfl, h3⟩ := h2
  have h4 : d' = d := sameD_eq d' d h3
  subst h4
  obtain ⟨u, v, h5, h6, h7⟩ := G.con _ h1
  exact pe_k (pe_glob (gl_of G hg) h5 h6 (okNm_of ho).1) h7
theorem snd_call {xs : List Expr} {es : Eps} {f : Nat} {p0 : Pos} (S : Snd C Φ n) (G : Good C Φ X sc) (h1 : C.fns[f]? = some x) (hg : glB sc x = true) (ho : okNm x = true) (h : allEs (chkE C n sc) xs es = true) (hmu : (C.R.getD f .sh).isMu = false) (hk : kdXs C.R st es = true) : PE X (.Call (.Name x p0) xs [] pos) (tP X.K Φ st (C.R.getD f .sh) (.call f es)) := by
  obtain ⟨k, fa, fd, ps, F, hr, hm, hkp, hb⟩ := G.call f x h1
  rw [spK_p hmu] at F
  have pa := pas_of S G h hk
  cases xs with
  | nil =>
    cases es with
    | cons _ _ => simp [allEs] at h
    | nil =>
      refine (pe_call0 F (hr.mono (by omega)) (gl_of G hg) hm hkp hb .nil pass0 (okNm_of ho).1).imp fun σ H Q w => ?_
      obtain ⟨Hf, Lk, ρ, ds, S', e1, k⟩ := call_sound (E := E0) w
      rw [evXs] at e1
      cases e1
      exact k [] H Hf (Ext.refl S'.sub) .nil
  | cons e es' =>
    have hp := (plain_all h).1
    rw [List.all_cons, Bool.and_eq_true] at hp
    exact (pe_call F (hr.mono (by omega)) (gl_of G hg) hm hkp hb .nil pass0 pa (okNm_of ho).1 (star_plain hp.1) (star_any hp.2)).imp fun _ _ _ w => call_sound w
/-- sorted with a def as key -/
theorem c_sortKey {f : Nat} {k : Nat} {fa : Addr} {fd : FuncData} {ps : List Str} (F : FnOk X.prog X.w X.K X.mg X.base CX0 k fa fd ps (spP X.K .sh (Φ f))) (hr : Room (k + 2) X.A) (hb : Binds X.K fd ps []) (hu : X.A.units + 200 < cLine) :
    CallRK X (.builtin "sorted") [Str.ofString "key"] (fun xs zs H Q => ∃ v, xs = [v] ∧ zs = [.ref fa] ∧ ∃ Hf d z, Same Hf H ∧ RV X.K H Hf v d ∧ skeyF (Φ f) d = some z ∧ ∀ w H' Hf', Ext H Hf H' Hf' → RR X.K H H' Hf' .fr w z → Q w H') := by
  intro pins s σ H xs zs us ws Q I r rz ⟨v, e1, e2, Hf, d, z, sm, rd, e, q⟩
  subst e1 e2
  cases d <;> simp only [skeyF, reduceCtorEq] at e
  rename_i ds
  split at e
  case isFalse => cases e
  rename_i fl
  obtain ⟨ks, hk, e⟩ := Option.bind_eq_some_iff.mp e
  split at e
  case isFalse => cases e
  rename_i hal
  cases e
  obtain ⟨a, ys, rfl, h1, h2⟩ := rd.list sm
  rw [Vals.ref1 r, Vals.ref1 rz]
  exact run_sortKey F hr hb hu I sm h1 h2 fl hk hal q
theorem skey_sound {f : Nat} {q : Ep} {κa : Kd} {K : Fg} {σ : L2.St} {H : Hp} {Q : VK} {fa : Addr} (h : tP K Φ st .fr (.skey f q) σ H Q) :
    tCKw (fun xs zs H Q => ∃ v, xs = [v] ∧ zs = [.ref fa] ∧ ∃ Hf d z, Same Hf H ∧ RV K H Hf v d ∧ skeyF (Φ f) d = some z ∧ ∀ w H' Hf', Ext H Hf H' Hf' → RR K H H' Hf' .fr w z → Q w H') (tCons (tP K Φ st κa q) tNil) (tCons (tC (.ref fa)) tNil) σ H Q := by
  obtain ⟨Hf, Lk, ρ, d, S, ev, k⟩ := h
  rw [evX] at ev
  obtain ⟨x, e1, e2⟩ := Option.bind_eq_some_iff.mp ev
  exact use1 S e1 fun v H1 Hf1 x1 r1 => ⟨v, rfl, rfl, Hf1, x, d, x1.sub, r1.rv, e2, fun w H' Hf' x2 r2 => k w H' Hf' (x1.trans x2) (r2.back x1.s)⟩
theorem snd_skey {f : Nat} {y g : Str} {e : Expr} {q : Ep} {κa : Kd} {p0 p1 p2 : Pos} (S : Snd C Φ n) (G : Good C Φ X sc) (h1 : C.fns[f]? = some y) (h2 : C.R.getD f .sh = .sh) (hg : glB sc g = true) (h3 : g = "sorted") (hy : glB sc y = true) (ho : okNm y = true) (h : chkE C n sc e q = true) (hk : kdX C.R st q = some κa) :
    PE X (.Call (.Name g p0) [e] [⟨some "key", .Name y p1, p2⟩] pos) (tP X.K Φ st .fr (.skey f q)) := by
  subst h3
  obtain ⟨k, fa, fd, ps, F, hr, hm, hkp, hb⟩ := G.call f y h1
  rw [h2] at F
  have hp := plain_of h
  exact (pe_callBK (c_sortKey F hr hb G.un) (gl_of G hg) (G.blt _ (by decide)) (by decide +kernel) (pa_cons (S.e G h hk) pa_nil (star_plain hp)) (pk_cons (pe_glob (v := .ref fa) (gl_of G hy) hm rfl (okNm_of ho).1) pk_nil) (by decide) (by decide) (by rw [star_plain hp]; rfl) (by rw [star_plain hp]; rfl)).imp fun _ _ _ w => skey_sound w
/-- a test of anything else -/
theorem snd_any (S : Snd C Φ n) (G : Good C Φ X sc) (he : ∀ whole, isTrue e X.env whole = (do let v ← whole; standAt e.pos; holding [v] (truthy v))) (h : chkE C n sc e p = true) (hk : kdX C.R st p = some κ) : PT X e (tT X.K Φ st p) :=
  pt_t (S.e G h hk) he
theorem plainIx_of (h : noSlice b = true) : PlainIx b := by
  intro o i
  cases b <;> first | rfl | exact absurd h (by simp [noSlice])
end
end Orp

/-! Orp, part 30: what is checked is so: the step, tests and walks. -/
namespace Orp
open PySem PySem.Spec PyProof.Rows L2
section
variable {C : Cst} {Φ : Fn0} {X : Cx} {sc scope : Scope} {x f : Str} {i n : Nat} {pos : Pos} {st stE : List Stat} {e a b c tg : Expr} {p q r : Ep} {κ κa κb κc : Kd}
theorem two_k {α β : Type} {x : Option α} {y : Option β} {κ : Kd} (h : (x.bind fun _ => y.map fun _ => κa) = some κ) : κ = κa ∧ (∃ u, x = some u) ∧ ∃ v, y = some v := by
  obtain ⟨u, h1, h2⟩ := Option.bind_eq_some_iff.mp h
  obtain ⟨v, h3, h4⟩ := Option.map_eq_some_iff.mp h2
  exact ⟨h4.symm, ⟨u, h1⟩, v, h3⟩
theorem and_k {x y : Option Kd} {κ : Kd} (h : (x.bind fun _ => y.bind fun k => if k = .sh then some .sh else none) = some κ) : κ = .sh ∧ (∃ u, x = some u) ∧ y = some .sh := by
  obtain ⟨u, h1, h2⟩ := Option.bind_eq_some_iff.mp h
  obtain ⟨v, h3, h4⟩ := Option.bind_eq_some_iff.mp h2
  split at h4
  · rename_i e
    subst e
    exact ⟨(Option.some.inj h4).symm, ⟨u, h1⟩, h3⟩
  · cases h4
theorem two_kW {β : Type} {x y : Option β} {b : Bool} (h : (x.bind fun _ => y.map fun _ => true) = some b) : b = true ∧ (∃ u, x = some u) ∧ ∃ v, y = some v := by
  obtain ⟨u, h1, h2⟩ := Option.bind_eq_some_iff.mp h
  obtain ⟨v, h3, h4⟩ := Option.map_eq_some_iff.mp h2
  exact ⟨h4.symm, ⟨u, h1⟩, v, h3⟩
/-- -1 -/
theorem pe_m1 {kk : Nat} {p1 p2 : Pos} : PE X (.UnaryOp .USub (.Constant (.int 1) kk p1) p2) (tC (.int (-1))) :=
  (pe_un un_neg pe_int).imp fun _ _ _ w => ⟨_, rfl, w⟩
theorem varE {i : Nat} (h : chkE C n sc e (.var i) = true) : ∃ x pos, e = .Name x pos ∧ varB C sc x i = true := by
  cases n with
  | zero => simp [chkE] at h
  | succ n =>
    unfold chkE at h
    rw [Bool.and_eq_true] at h
    have h := h.2
    dsimp only at h
    split at h
    · exact ⟨_, _, rfl, h⟩
    · cases h
theorem snd_b (S : Snd C Φ n) {op : BoolOp} {xs : List Expr} {ps : Pos} (G : Good C Φ X sc) (h : chkB C (n + 1) sc op xs ps p = true) (hk : kdX C.R st p = some κ) : PE X (.BoolOp op xs ps) (tP X.K Φ st κ p) := by
  unfold chkB at h
  split at h
  · exact pe_one (S.e G h hk)
  · split at h
    · rw [Bool.and_eq_true] at h
      rw [kdX] at hk
      obtain ⟨rfl, ⟨u, k1⟩, k2⟩ := and_k hk
      exact pe_a (S.e G h.1 k1) (S.b G h.2 k2)
    · rw [Bool.and_eq_true] at h
      rw [kdX] at hk
      obtain ⟨rfl, ⟨u, k1⟩, k2⟩ := and_k hk
      exact pe_r (S.e G h.1 k1) (S.b G h.2 k2)
    · cases h
  · cases h
theorem snd_tb (S : Snd C Φ n) {op : BoolOp} {xs : List Expr} {ps : Pos} (G : Good C Φ X sc) (h : chkTB C (n + 1) sc op xs ps p = true) (hk : kdX C.R st p = some κ) : PW X (.BoolOp op xs ps) (tT X.K Φ st p) := by
  unfold chkTB at h
  split at h
  · cases op with
    | And => exact pw_and1 (S.t G h hk)
    | Or => exact pw_or1 (S.t G h hk)
  · split at h
    · rw [Bool.and_eq_true] at h
      rw [kdX] at hk
      obtain ⟨rfl, ⟨u, k1⟩, k2⟩ := and_k hk
      exact pw_a (S.t G h.1 k1) (S.tb G h.2 k2)
    · rw [Bool.and_eq_true] at h
      rw [kdX] at hk
      obtain ⟨rfl, ⟨u, k1⟩, k2⟩ := and_k hk
      exact pw_r (S.t G h.1 k1) (S.tb G h.2 k2)
    · cases h
  · cases h
theorem chain_k {x y z : Option Kd} {κ : Kd} (h : (x.bind fun _ => y.bind fun _ => z.map fun _ => Kd.sh) = some κ) : κ = .sh ∧ (∃ u, x = some u) ∧ (∃ u, y = some u) ∧ ∃ v, z = some v := by
  obtain ⟨u, h1, h2⟩ := Option.bind_eq_some_iff.mp h
  obtain ⟨h3, h4, h5⟩ := two_k h2
  exact ⟨h3, ⟨u, h1⟩, h4, h5⟩
theorem snd_t (S : Snd C Φ n) (G : Good C Φ X sc) (h : chkT C (n + 1) sc e p = true) (hk : kdX C.R st p = some κ) : PT X e (tT X.K Φ st p) := by
  unfold chkT at h
  split at h
  · split at h
    · rw [kdX] at hk
      obtain ⟨v, k1, _⟩ := Option.map_eq_some_iff.mp hk
      exact pt_n (S.t G h k1)
    · cases h
  · exact (S.tb G h hk).pt
  · cases h
  · split at h
    · rw [Bool.and_eq_true] at h
      rw [kdX] at hk
      obtain ⟨v, k1, _⟩ := Option.map_eq_some_iff.mp hk
      exact pt_is h.1 (S.e G h.2 k1)
    · simp only [Bool.and_eq_true] at h
      rw [kdX] at hk
      obtain ⟨_, ⟨u, k1⟩, v, k2⟩ := two_k hk
      exact pt_o2c G.un h.1.1 (behind_plain (plain_of h.2)) (S.e G h.1.2 k1) (S.e G h.2 k2)
    · cases h
  · split at h
    · simp only [Bool.and_eq_true] at h
      rw [kdX] at hk
      obtain ⟨_, ⟨u, k1⟩, ⟨v, k2⟩, w, k3⟩ := chain_k hk
      exact pt_ch G.un h.1.1.1.1 h.1.1.1.2 (marks2 (plain_of h.1.2) (plain_of h.2)) (S.e G h.1.1.2 k1) (S.e G h.1.2 k2) (S.e G h.2 k3)
    · cases h
  · cases h
  · rename_i h1 h2 h3 h4 h5 h6
    cases e <;> first | exact snd_any S G (fun _ => rfl) h hk | skip
    · rename_i op xs ps
      exact absurd rfl (h2 op xs ps)
    · rename_i op x ps
      cases op <;> first | exact snd_any S G (fun _ => rfl) h hk | exact absurd rfl (h1 x ps)
    · exact absurd rfl (h3 _ _ _ _)
    · exact absurd rfl (h6 _ _ _ _)
theorem snd_i (S : Snd C Φ n) {ifs : List Expr} (G : Good C Φ X sc) (h : chkI C (n + 1) sc ifs q = true) (hk : kdX C.R st q = some κ) : PTs X ifs (tT X.K Φ st q) := by
  unfold chkI at h
  split at h
  · split at h
    · rename_i d
      have e := sameD_eq _ _ h
      subst e
      refine ⟨fun pins s σ H Q I ⟨Hf, Lk, ρ, t, S', ev, k⟩ => pts_nil.run pins s σ H Q I ?_⟩
      rw [evT, evX] at ev
      cases ev
      exact k H Hf (Ext.refl S'.sub)
    · cases h
  · exact pts_one (S.t G h hk)
  · cases h
theorem plainW {w : Wk} (h : chkW C n sc tg e w = true) : isPlain e = true := by
  cases n with
  | zero => simp [chkW] at h
  | succ n =>
    unfold chkW at h
    rw [Bool.and_eq_true] at h
    exact h.1
theorem tupW {w : Wk} {t : Tg} {sc' : Scope} (h : chkW C n sc tg e w = true) (ht : tgB C sc' tg t = true) : isTupW w = true → ∃ is, t = .tup is := by
  intro hw
  cases n with
  | zero => simp [chkW] at h
  | succ n =>
    unfold chkW at h
    rw [Bool.and_eq_true] at h
    have h := h.2
    cases w <;> simp only [isTupW, Bool.false_eq_true] at hw
    all_goals
      dsimp only at h
      split at h
      · cases t with
        | one _ => simp [tgB] at ht
        | tup is => exact ⟨_, rfl⟩
      · cases h
theorem kdW_dat {R : List Kd} {b : Bool} (h : kdW R st (.dat p) = some b) : ∃ κ, kdX R st p = some κ ∧ (b = κ.still ∨ b = true ∧ ∃ i s, p = .var i ∧ st[i]? = some s ∧ s.lkd = true) := by
  unfold kdW at h
  obtain ⟨κ, k1, k2⟩ := Option.map_eq_some_iff.mp h
  refine ⟨κ, k1, ?_⟩
  cases hs : κ.still with
  | true => rw [hs] at k2; exact .inl k2.symm
  | false =>
    rw [hs, Bool.false_or] at k2
    cases b with
    | false => exact .inl rfl
    | true =>
      refine .inr ⟨rfl, ?_⟩
      split at k2
      · split at k2
        · rename_i e1
          exact ⟨_, _, rfl, e1, k2⟩
        · cases k2
      · cases k2
theorem snd_w (S : Snd C Φ n) {w : Wk} {b : Bool} (G : Good C Φ X sc) (h : chkW C (n + 1) sc tg e w = true) (hk : kdW C.R st w = some b) : PI X tg e (tW X.K Φ st b w) := by
  unfold chkW at h
  rw [Bool.and_eq_true] at h
  have hpl := h.1
  have h := h.2
  cases w <;> dsimp only at h
  case dat p =>
    obtain ⟨κ, k1, k2⟩ := kdW_dat hk
    rcases k2 with rfl | ⟨rfl, i, s, rfl, e1, hl⟩
    · exact pi_dat (S.e G h k1)
    · obtain ⟨x, pos, rfl, hv⟩ := varE h
      unfold varB at hv
      rw [Bool.and_eq_true, Bool.and_eq_true, decide_eq_true_eq] at hv
      exact pi_lock (by rw [G.N]; exact hv.1.1) (vis_of G hv.1.2) (okNm_of hv.2).1 (okNm_of hv.2).2 e1 (by cases s <;> simp [Stat.lkd] at hl <;> simp)
  case rng p =>
    split at h
    · simp only [Bool.and_eq_true, decide_eq_true_eq] at h
      obtain ⟨⟨rfl, hg⟩, h1⟩ := h
      rw [kdW] at hk
      obtain ⟨κ, k1, _⟩ := Option.map_eq_some_iff.mp hk
      exact pi_r1 (gl_of G hg) (G.blt _ (by decide)) (plain_of h1) (S.e G h1 k1)
    · cases h
  case rng2 p q =>
    split at h
    · simp only [Bool.and_eq_true, decide_eq_true_eq] at h
      obtain ⟨⟨⟨rfl, hg⟩, h1⟩, h2⟩ := h
      rw [kdW] at hk
      obtain ⟨_, ⟨u, k1⟩, v, k2⟩ := two_kW hk
      exact pi_r2 (gl_of G hg) (G.blt _ (by decide)) (plain_of h1) (plain_of h2) (S.e G h1 k1) (S.e G h2 k2)
    · cases h
  case rngD p q =>
    split at h
    · simp only [Bool.and_eq_true, decide_eq_true_eq] at h
      obtain ⟨⟨⟨rfl, hg⟩, h1⟩, h2⟩ := h
      rw [kdW] at hk
      obtain ⟨_, ⟨u, k1⟩, v, k2⟩ := two_kW hk
      exact pi_rD (gl_of G hg) (G.blt _ (by decide)) (plain_of h1) (plain_of h2) rfl (S.e G h1 k1) (S.e G h2 k2) pe_m1
    · cases h
  case enu p =>
    split at h
    · simp only [Bool.and_eq_true, decide_eq_true_eq] at h
      obtain ⟨⟨rfl, hg⟩, h1⟩ := h
      rw [kdW] at hk
      obtain ⟨κ, k1, rfl⟩ := Option.map_eq_some_iff.mp hk
      exact pi_en (gl_of G hg) (G.blt _ (by decide)) (plain_of h1) (S.e G h1 k1)
    · cases h
  case zip p q =>
    split at h
    · simp only [Bool.and_eq_true, decide_eq_true_eq] at h
      obtain ⟨⟨⟨rfl, hg⟩, h1⟩, h2⟩ := h
      rw [kdW] at hk
      obtain ⟨u, k1, hk⟩ := Option.bind_eq_some_iff.mp hk
      obtain ⟨v, k2, rfl⟩ := Option.map_eq_some_iff.mp hk
      exact pi_zp (gl_of G hg) (G.blt _ (by decide)) (plain_of h1) (plain_of h2) (S.e G h1 k1) (S.e G h2 k2)
    · cases h
theorem snd_c (S : Snd C Φ n) {gens : List Comprehension} {own : List Nat} {c : Cl} (G : Good C Φ X sc) (h : chkC C (n + 1) sc scope gens own c = true) (hk : kdC C.R st own c = some stE) :
    ∃ tg iter ifs gs t w q r b, gens = ⟨tg, iter, ifs, 0⟩ :: gs ∧ c = .cons t w q r ∧ CompOk X Φ st stE tg iter ifs gs scope (ownP C own) t w q r b := by
  unfold chkC at h
  split at h
  · simp only [Bool.and_eq_true, decide_eq_true_eq] at h
    obtain ⟨⟨⟨⟨⟨⟨⟨rfl, hb⟩, ho⟩, hd⟩, hw⟩, ht⟩, hi⟩, hg⟩ := h
    rw [kdC] at hk
    obtain ⟨b, k1, hk⟩ := Option.bind_eq_some_iff.mp hk
    obtain ⟨u, k2, k3⟩ := Option.bind_eq_some_iff.mp hk
    refine ⟨_, _, _, _, _, _, _, _, b, rfl, rfl, plainW hw, S.w G hw k1, blk_of G hb, tupW hw ht, nodup_of hd, fun i hi => ?_, fun s H Cc cl fp => pg_of (G.blk s H Cc cl fp) ht, fun s H Cc cl fp => ?_, fun s H Cc cl fp => ?_⟩
    · rw [ownP_snd]
      exact List.contains_iff_mem.mp (List.all_eq_true.mp ho i hi)
    · rw [ownP_snd]
      exact S.i (G.blk s H Cc cl fp) hi k2
    · rw [ownP_snd]
      exact S.g (G.blk s H Cc cl fp) hg k3
  · cases h
theorem snd_g (S : Snd C Φ n) {gs : List Comprehension} {c : Cl} (G : Good C Φ X sc) (h : chkG C (n + 1) sc gs c = true) (hk : kdCr C.R st c = some stE) : ClP X Φ st c gs stE := by
  unfold chkG at h
  split at h
  · rw [kdCr] at hk
    exact (Option.some.inj hk).symm
  · simp only [Bool.and_eq_true, decide_eq_true_eq] at h
    obtain ⟨⟨⟨⟨h0, hw⟩, ht⟩, hi⟩, hg⟩ := h
    rw [kdCr] at hk
    obtain ⟨b, k1, hk⟩ := Option.bind_eq_some_iff.mp hk
    split at hk
    · rename_i e
      subst e
      obtain ⟨u, k2, k3⟩ := Option.bind_eq_some_iff.mp hk
      have pl : isPlain _ = true := plainW hw
      exact ⟨h0, pl, S.w G hw k1, pg_of G ht, tupW hw ht, S.i G hi k2, S.g G hg k3⟩
    · cases hk
  · cases h
end
end Orp

/-! Orp, part 31: what is checked is so: the step, expressions. -/
namespace Orp
open PySem PySem.Spec PyProof.Rows L2
section
variable {C : Cst} {Φ : Fn0} {X : Cx} {sc scope : Scope} {x f : Str} {i n : Nat} {pos : Pos} {st stE : List Stat} {e a b c tg : Expr} {p q r : Ep} {κ κa κb κc : Kd}
theorem un_rule {o : O1} {op : UnaryOp} (h : unB o op = true) : UnR X (unaryOp op) (rG1 X.K (o1F o) .sh) ∧ o1K o = .sh := by
  cases o <;> cases op <;> simp only [unB, Bool.false_eq_true] at h
  · exact ⟨un_negG, rfl⟩
  · exact ⟨un_invG, rfl⟩
theorem isB_k {o : O1} {op : CmpOp} {y : Expr} (h : isB o op y = true) : o1K o = .sh := by
  unfold isB at h
  split at h <;> first | rfl | cases h
theorem ty_k {o : O1} {T : Str} (h : (tyO o).map Str.ofString = some T) : o1K o = .sh := by
  cases o <;> first | rfl | exact absurd h (by simp [tyO])
theorem o3_k {x y z : Option Kd} {κ : Kd} (h : (x.bind fun _ => y.bind fun _ => z.bind fun k => if froz k = true then some Kd.sh else none) = some κ) : κ = .sh ∧ (∃ u, x = some u) ∧ (∃ u, y = some u) ∧ ∃ v, z = some v ∧ (v = .sh ∨ v = .fr) := by
  obtain ⟨u, h1, h2⟩ := Option.bind_eq_some_iff.mp h
  obtain ⟨v, h3, h4⟩ := Option.bind_eq_some_iff.mp h2
  obtain ⟨w, h5, h6⟩ := Option.bind_eq_some_iff.mp h4
  split at h6
  · rename_i e
    exact ⟨(Option.some.inj h6).symm, ⟨u, h1⟩, ⟨v, h3⟩, w, h5, froz_or e⟩
  · cases h6
theorem snd_o1 (S : Snd C Φ n) {o : O1} {a : Ep} (G : Good C Φ X sc) (h : chkE C (n + 1) sc e (.o1 o a) = true) (hk : kdX C.R st (.o1 o a) = some κ) : PE X e (tP X.K Φ st κ (.o1 o a)) := by
  unfold chkE at h
  rw [Bool.and_eq_true] at h
  have h := h.2
  dsimp only at h
  rw [kdX] at hk
  obtain ⟨κ', k1, rfl⟩ := Option.map_eq_some_iff.mp hk
  split at h
  · rw [Bool.and_eq_true] at h
    obtain ⟨hu, ho⟩ := un_rule (X := X) h.1
    rw [ho]
    exact pe_o1u hu (S.e G h.2 k1)
  · rw [Bool.and_eq_true] at h
    obtain ⟨v, hb, ho, hm⟩ := is_rule (X := X) h.1
    rw [isB_k h.1]
    exact pe_is ho hm (S.e G h.2 k1) hb
  · rw [Bool.or_eq_true] at h
    rcases h with h | h
    · simp only [Bool.and_eq_true, decide_eq_true_eq] at h
      exact pe_b1 G h.1.1 h.1.2 (plain_of h.2) (S.e G h.2 k1)
    · split at h
      · simp only [Bool.and_eq_true, decide_eq_true_eq] at h
        obtain ⟨⟨⟨⟨h1, rfl⟩, h2⟩, h3⟩, h4⟩ := h
        cases o <;> simp only [setN, Bool.false_eq_true, decide_eq_true_eq] at h1 <;> subst h1
        · exact pe_sset G.calm G.un (gl_of G h2) (G.blt _ (by decide)) (gl_of G h3) (G.blt _ (by decide)) (plain_of h4) (S.e G h4 k1)
        · exact pe_lset G.calm G.un (gl_of G h2) (G.blt _ (by decide)) (gl_of G h3) (G.blt _ (by decide)) (plain_of h4) (S.e G h4 k1)
      · cases h
  · simp only [Bool.and_eq_true, decide_eq_true_eq] at h
    obtain ⟨⟨⟨⟨rfl, hg⟩, hT⟩, hg2⟩, h1⟩ := h
    rw [ty_k hT]
    exact pe_isi G hg hT hg2 (plain_of h1) (S.e G h1 k1)
  · cases h
theorem snd_o2 (S : Snd C Φ n) {o : O2} {a b : Ep} (G : Good C Φ X sc) (h : chkE C (n + 1) sc e (.o2 o a b) = true) (hk : kdX C.R st (.o2 o a b) = some κ) : PE X e (tP X.K Φ st κ (.o2 o a b)) := by
  unfold chkE at h
  rw [Bool.and_eq_true] at h
  have h := h.2
  dsimp only at h
  rw [kdX] at hk
  obtain ⟨rfl, ⟨u, k1⟩, v, k2⟩ := two_k hk
  split at h
  · simp only [Bool.and_eq_true] at h
    exact pe_o2b (bin_rule h.1.1) (S.e G h.1.2 k1) (S.e G h.2 k2)
  · simp only [Bool.and_eq_true] at h
    exact pe_o2c (cmp_rule G.un h.1.1) (behind_plain (plain_of h.2)) (S.e G h.1.2 k1) (S.e G h.2 k2)
  · simp only [Bool.and_eq_true, decide_eq_true_eq] at h
    obtain ⟨⟨rfl, h1⟩, h2⟩ := h
    exact pe_from (S.e G h1 k1) (S.e G h2 k2)
  · simp only [Bool.and_eq_true, decide_eq_true_eq] at h
    obtain ⟨⟨rfl, h1⟩, h2⟩ := h
    exact pe_upto (S.e G h1 k1) (S.e G h2 k2)
  · simp only [Bool.and_eq_true, decide_eq_true_eq] at h
    obtain ⟨⟨⟨rfl, hs⟩, h1⟩, h2⟩ := h
    exact pe_o2i (ix_G G.un) (plainIx_of hs) (S.e G h1 k1) (S.e G h2 k2)
  · simp only [Bool.and_eq_true, decide_eq_true_eq] at h
    exact pe_b2 G h.1.1.1 h.1.1.2 (plain_of h.1.2) (plain_of h.2) (S.e G h.1.2 k1) (S.e G h.2 k2)
  · simp only [Bool.and_eq_true] at h
    rw [Bool.or_eq_true, Bool.or_eq_true, Bool.and_eq_true, Bool.and_eq_true, Bool.and_eq_true, decide_eq_true_eq, decide_eq_true_eq, decide_eq_true_eq, decide_eq_true_eq, decide_eq_true_eq, decide_eq_true_eq] at h
    obtain ⟨⟨⟨⟨ho, hn⟩, hl⟩, h1⟩, h2⟩ := h
    rcases ho with (⟨rfl, rfl⟩ | ⟨rfl, rfl⟩) | ⟨rfl, rfl⟩
    · exact pe_index G.un hn hl (plain_of h2) (S.e G h1 k1) (S.e G h2 k2)
    · exact pe_join hn hl (plain_of h2) (S.e G h1 k1) (S.e G h2 k2)
    · exact pe_split hn hl (plain_of h2) (S.e G h1 k1) (S.e G h2 k2)
  · cases h
theorem snd_o3 (S : Snd C Φ n) {o : O3} {a b c : Ep} (G : Good C Φ X sc) (h : chkE C (n + 1) sc e (.o3 o a b c) = true) (hk : kdX C.R st (.o3 o a b c) = some κ) : PE X e (tP X.K Φ st κ (.o3 o a b c)) := by
  unfold chkE at h
  rw [Bool.and_eq_true] at h
  have h := h.2
  dsimp only at h
  rw [kdX] at hk
  obtain ⟨rfl, ⟨u, k1⟩, ⟨v, k2⟩, w, k3, k4⟩ := o3_k hk
  split at h
  · simp only [Bool.and_eq_true, decide_eq_true_eq] at h
    obtain ⟨⟨⟨rfl, h1⟩, h2⟩, h3⟩ := h
    exact pe_cut (S.e G h1 k1) (S.e G h2 k2) (S.e G h3 k3)
  · simp only [Bool.and_eq_true, decide_eq_true_eq] at h
    obtain ⟨⟨⟨⟨⟨⟨rfl, rfl⟩, hn⟩, hl⟩, h1⟩, h2⟩, h3⟩ := h
    exact pe_get G.un hn hl (plain_of h2) (plain_of h3) k4 (S.e G h1 k1) (S.e G h2 k2) (S.e G h3 k3)
  · cases h
theorem snd_rgl (S : Snd C Φ n) {t : Bool} {a b : Ep} (G : Good C Φ X sc) (h : chkE C (n + 1) sc e (.rgl t a b) = true) (hk : kdX C.R st (.rgl t a b) = some κ) : PE X e (tP X.K Φ st κ (.rgl t a b)) := by
  unfold chkE at h
  rw [Bool.and_eq_true] at h
  have h := h.2
  dsimp only at h
  rw [kdX] at hk
  obtain ⟨rfl, ⟨u, k1⟩, v, k2⟩ := two_k hk
  split at h
  · simp only [Bool.and_eq_true, decide_eq_true_eq] at h
    obtain ⟨⟨⟨⟨⟨rfl, rfl⟩, hf⟩, hg⟩, ha⟩, hy⟩ := h
    have hz : ∀ ρ, evX Φ a ρ = some (.int 0) := by
      intro ρ
      split at ha
      · rw [sameD_eq _ _ ha, evX]
      · cases ha
    have rg := fun p0 p1 => prg_1 (X := X) (p := p0) (pos := p1) (gl_of G hg) (G.blt _ (by decide)) (S.e G hy k2) (star_plain (plain_of hy))
    cases t with
    | true => exact rgl_tuple G.calm (gl_of G hf) (G.blt _ (by decide)) (rg _ _) rfl (rg1_sound (z := a) hz)
    | false => exact rgl_list G.calm (gl_of G hf) (G.blt _ (by decide)) (rg _ _) rfl (rg1_sound (z := a) hz)
  · simp only [Bool.and_eq_true, decide_eq_true_eq] at h
    obtain ⟨⟨⟨⟨⟨rfl, rfl⟩, hf⟩, hg⟩, hx⟩, hy⟩ := h
    have rg := fun p0 p1 => prg_2 (X := X) (p := p0) (pos := p1) (gl_of G hg) (G.blt _ (by decide)) (S.e G hx k1) (S.e G hy k2) (star_plain (plain_of hx)) (star_plain (plain_of hy)) (star_any (by simp [plain_of hy]))
    cases t with
    | true => exact rgl_tuple G.calm (gl_of G hf) (G.blt _ (by decide)) (rg _ _) rfl rg2_sound
    | false => exact rgl_list G.calm (gl_of G hf) (G.blt _ (by decide)) (rg _ _) rfl rg2_sound
  · cases h
theorem snd_e (S : Snd C Φ n) (G : Good C Φ X sc) (h : chkE C (n + 1) sc e p = true) (hk : kdX C.R st p = some κ) : PE X e (tP X.K Φ st κ p) := by
  have h0 := h
  unfold chkE at h
  rw [Bool.and_eq_true] at h
  have h := h.2
  cases p <;> dsimp only at h
  case var i =>
    split at h
    · exact snd_var G h hk
    · cases h
  case cst d =>
    rw [kdX] at hk
    cases hk
    split at h
    · exact snd_cst h
    · simp only [Bool.and_eq_true] at h
      exact snd_con G h.1.1 h.1.2 h.2
    · cases h
  case o1 o a => exact snd_o1 S G h0 hk
  case o2 o a b => exact snd_o2 S G h0 hk
  case o3 o a b c => exact snd_o3 S G h0 hk
  case chain o o' a b c =>
    rw [kdX] at hk
    obtain ⟨rfl, ⟨u, k1⟩, ⟨v, k2⟩, w, k3⟩ := chain_k hk
    split at h
    · simp only [Bool.and_eq_true] at h
      exact pe_c (cmp_rule G.un h.1.1.1.1) (cmp_rule G.un h.1.1.1.2) (marks2 (plain_of h.1.2) (plain_of h.2)) (S.e G h.1.1.2 k1) (S.e G h.1.2 k2) (S.e G h.2 k3)
    · cases h
  case and a b =>
    rw [kdX] at hk
    obtain ⟨rfl, ⟨u, k1⟩, k2⟩ := and_k hk
    split at h
    · rw [Bool.and_eq_true] at h
      exact pe_a (S.e G h.1 k1) (S.b G h.2 k2)
    · cases h
  case or a b =>
    rw [kdX] at hk
    obtain ⟨rfl, ⟨u, k1⟩, k2⟩ := and_k hk
    split at h
    · rw [Bool.and_eq_true] at h
      exact pe_r (S.e G h.1 k1) (S.b G h.2 k2)
    · cases h
  case not a =>
    rw [kdX] at hk
    obtain ⟨κ', k1, rfl⟩ := Option.map_eq_some_iff.mp hk
    split at h
    · exact pe_n (S.e G h k1)
    · cases h
  case ite c a b =>
    rw [kdX] at hk
    obtain ⟨u, k1, hk⟩ := Option.bind_eq_some_iff.mp hk
    obtain ⟨v, k2, hk⟩ := Option.bind_eq_some_iff.mp hk
    obtain ⟨w, k3, hk⟩ := Option.bind_eq_some_iff.mp hk
    split at h
    · simp only [Bool.and_eq_true] at h
      exact pe_i hk (S.t G h.1.1 k1) (S.e G h.1.2 k2) (S.e G h.2 k3)
    · cases h
  case tup es =>
    rw [kdX] at hk
    split at hk
    · rename_i ke
      cases hk
      split at h
      · rw [Bool.and_eq_true, decide_eq_true_eq] at h
        exact pe_t (by rw [(plain_all h.2).2]; exact h.1) (pas_of S G h.2 ke)
      · cases h
    · cases hk
  case lst es =>
    rw [kdX] at hk
    split at hk
    · rename_i ke
      cases hk
      split at h
      · rw [Bool.and_eq_true, decide_eq_true_eq] at h
        exact pe_l (by rw [(plain_all h.2).2]; exact h.1) (pas_of S G h.2 ke)
      · cases h
    · cases hk
  case rgl t a b => exact snd_rgl S G h0 hk
  case call f es =>
    rw [kdX] at hk
    split at hk
    · rename_i ke
      cases hk
      split at h
      · simp only [Bool.and_eq_true, decide_eq_true_eq] at h
        exact snd_call S G h.1.1.1 h.1.1.2 h.1.2 h.2 ke.2 ke.1
      · cases h
    · cases hk
  case skey f q =>
    rw [kdX] at hk
    split at hk
    · rename_i kR
      obtain ⟨κa, ke, hk⟩ := Option.map_eq_some_iff.mp hk
      cases hk
      split at h
      · simp only [Bool.and_eq_true, decide_eq_true_eq] at h
        obtain ⟨⟨⟨⟨⟨⟨h1, h2⟩, h3⟩, h4⟩, h5⟩, h6⟩, h7⟩ := h
        subst h2
        exact snd_skey S G h4 kR h3 h1 h5 h6 h7 ke
      · cases h
    · cases hk
  case dnew tk =>
    rw [kdX] at hk
    cases hk
    split at h
    · exact pe_d0
    · cases h
  case done tk k v =>
    rw [kdX] at hk
    obtain ⟨u, k1, hk⟩ := Option.bind_eq_some_iff.mp hk
    obtain ⟨w, k2, hk⟩ := Option.bind_eq_some_iff.mp hk
    split at hk
    · rename_i kf
      cases hk
      split at h
      · rw [Bool.and_eq_true] at h
        exact pe_d1 G.un (froz_or kf) (S.e G h.1 k1) (S.e G h.2 k2)
      · cases h
    · cases hk
  case comp own elt c =>
    rw [kdX] at hk
    obtain ⟨st', k1, hk⟩ := Option.bind_eq_some_iff.mp hk
    obtain ⟨w, k2, hk⟩ := Option.bind_eq_some_iff.mp hk
    split at hk
    · rename_i kf
      cases hk
      split at h
      · rw [Bool.and_eq_true] at h
        obtain ⟨tg, iter, ifs, gs, t, w, q, r, b, rfl, rfl, CK⟩ := S.c G h.1 k1
        exact pe_lcomp G.calm (nd_of G) CK (froz_or kf) fun s H Cc cl fp => S.e (G.blk s H Cc cl fp) h.2 k2
      · cases h
    · cases hk
  case dcomp own tk k v c =>
    rw [kdX] at hk
    obtain ⟨st', k1, hk⟩ := Option.bind_eq_some_iff.mp hk
    obtain ⟨w, k2, hk⟩ := Option.bind_eq_some_iff.mp hk
    obtain ⟨w2, k3, hk⟩ := Option.bind_eq_some_iff.mp hk
    split at hk
    · rename_i kf
      cases hk
      split at h
      · simp only [Bool.and_eq_true] at h
        obtain ⟨tg, iter, ifs, gs, t, w, q, r, b, rfl, rfl, CK⟩ := S.c G h.1.1 k1
        exact pe_dcomp G.un G.calm (nd_of G) CK (froz_or kf) (fun s H Cc cl fp => S.e (G.blk s H Cc cl fp) h.1.2 k2) fun s H Cc cl fp => S.e (G.blk s H Cc cl fp) h.2 k3
      · cases h
    · cases hk
theorem snd_all (C : Cst) (Φ : Fn0) : ∀ n, Snd C Φ n
  | 0 => by
    refine ⟨fun _ h => ?_, fun _ h => ?_, fun _ h => ?_, fun _ h => ?_, fun _ h => ?_, fun _ h => ?_, fun _ h => ?_, fun _ h => ?_⟩
    · simp [chkE] at h
    · simp [chkB] at h
    · simp [chkT] at h
    · simp [chkTB] at h
    · simp [chkW] at h
    · simp [chkC] at h
    · simp [chkG] at h
    · simp [chkI] at h
  | n + 1 => ⟨snd_e (snd_all C Φ n), snd_b (snd_all C Φ n), snd_t (snd_all C Φ n), snd_tb (snd_all C Φ n), snd_w (snd_all C Φ n), snd_c (snd_all C Φ n), snd_g (snd_all C Φ n), snd_i (snd_all C Φ n)⟩
end
end Orp

/-! Orp, part 32: statements, checked. -/
namespace Orp
open PySem PySem.Spec PyProof.Rows L2
/-! ### which stores are exchanged -/
def blkK (sc : Scope) : ScopeKind := if sc.kind.isAnnotationScope then .function else sc.kind
def swF (sc s : Scope) (e : Expr) (x : Str) (xp : Pos) : Bool := blkK sc == .function && sc.names.lookup x == some .local && xp.line == e.pos.line && !(s.names.any fun (n, k) => n == x && (k == .local || k == .cell))
def swN (sc : Scope) (e : Expr) (x : Str) (xp : Pos) : Bool := match e with
  | .ListComp _ _ s _ => swF sc s e x xp
  | .SetComp _ _ s _ => swF sc s e x xp
  | .DictComp _ _ _ s _ => swF sc s e x xp
  | _ => false
theorem swN_eq {env : Env} {e : Expr} {x : Str} {xp : Pos} {l : Nat} : swapsWith e (some (.Name x xp)) l env = pure (swN env.scope e x xp) := by
  cases e <;> rfl
theorem swT_eq {env : Env} {e : Expr} {es : List Expr} {kt : Nat} {pt : Pos} {l : Nat} : swapsWithSole [.Tuple es kt pt] e l env = pure false := by
  cases e <;> rfl
def noTup : Expr → Bool
  | .Tuple vs _ _ => vs.all (foldedForSure 8)
  | _ => true
theorem wsT_eq {env : Env} {e : Expr} {es : List Expr} {kt : Nat} {pt : Pos} (h : noTup e = true) : swappedStores [.Tuple es kt pt] e env = pure none := by
  cases e <;> first | rfl | skip
  rename_i vs k2 p2
  show (do
    if !(es.length == 2 || es.length == 3) || vs.length != es.length || env.blockKind != .function then return none
    if vs.any fun | .Starred .. => true | _ => false then return none
    let line := (es.head?.map (·.pos.line)).getD 0
    let names := es.filterMap fun
      | .Name id pos => if env.kindOf id == some .local && pos.line == line then some id else none
      | _ => none
    if names.length != es.length || names.eraseDups.length != names.length then return none
    if vs.all (foldedForSure 8) then return none
    if vs.all (constantsAlone 8) then unsupported "assign.tuple-of-constant-expressions:order-of-the-stores"
    return some names : Sem (Option (List Str))) = pure none
  split
  · rfl
  · split
    · rfl
    · dsimp only
      split
      · rfl
      · rw [if_pos (show vs.all (foldedForSure 8) = true from h)]
/-- tuple targets of which one is not a plain local: no swapped stores -/
def capT (sc : Scope) : Expr → Bool
  | .Tuple ts _ _ => ts.any fun t => match t with
    | .Name x _ => !(sc.names.lookup x == some .local)
    | _ => true
  | _ => false
theorem filterMap_lt {α β : Type} {f : α → Option β} : ∀ {l : List α}, (l.any fun a => (f a).isNone) = true → (l.filterMap f).length < l.length
  | [], h => nomatch h
  | a :: l, h => by
    rw [List.any_cons, Bool.or_eq_true] at h
    have hle := List.length_filterMap_le f l
    rw [List.filterMap_cons]
    cases e : f a with
    | none => simp only [List.length_cons]; omega
    | some b =>
      rw [e] at h
      have := filterMap_lt (h.resolve_left (by simp))
      simp only [List.length_cons]
      omega
theorem wsC_eq {env : Env} {e : Expr} {es : List Expr} {kt : Nat} {pt : Pos} (h : capT env.scope (.Tuple es kt pt) = true) : swappedStores [.Tuple es kt pt] e env = pure none := by
  cases e <;> first | rfl | skip
  rename_i vs k2 p2
  show (do
    if !(es.length == 2 || es.length == 3) || vs.length != es.length || env.blockKind != .function then return none
    if vs.any fun | .Starred .. => true | _ => false then return none
    let line := (es.head?.map (·.pos.line)).getD 0
    let names := es.filterMap fun
      | .Name id pos => if env.kindOf id == some .local && pos.line == line then some id else none
      | _ => none
    if names.length != es.length || names.eraseDups.length != names.length then return none
    if vs.all (foldedForSure 8) then return none
    if vs.all (constantsAlone 8) then unsupported "assign.tuple-of-constant-expressions:order-of-the-stores"
    return some names : Sem (Option (List Str))) = pure none
  split
  · rfl
  · split
    · rfl
    · dsimp only
      split
      · rfl
      · rename_i h3
        refine absurd ?_ h3
        rw [Bool.or_eq_true]
        left
        rw [bne_iff_ne]
        refine Nat.ne_of_lt (filterMap_lt ?_)
        unfold capT at h
        obtain ⟨t, ht, q⟩ := List.any_eq_true.mp h
        refine List.any_eq_true.mpr ⟨t, ht, ?_⟩
        cases t <;> first | rfl | skip
        rename_i x px
        have q : (!(env.scope.names.lookup x == some .local)) = true := q
        have e1 : (env.kindOf x == some .local) = false := by
          rw [Bool.not_eq_true'] at q
          exact q
        show Option.isNone (if (env.kindOf x == some .local && px.line == _) = true then some x else none) = true
        rw [e1, Bool.false_and, if_neg Bool.false_ne_true]
        rfl
theorem any_star : ∀ {l : List Expr}, l.all isPlain = true → (l.any fun | .Starred .. => true | _ => false) = false
  | [], _ => rfl
  | e :: l, h => by
    rw [List.all_cons, Bool.and_eq_true] at h
    rw [List.any_cons, any_star h.2]
    have := h.1
    cases e <;> first | rfl | exact absurd this (by simp [isPlain])
theorem ws_eq {env : Env} {ts vs : List Expr} {xs : List Str} {kt k2 : Nat} {pt p2 : Pos} (hn : ts.length = 2 ∨ ts.length = 3) (hv : vs.length = ts.length) (hk : env.blockKind = .function) (hp : vs.all isPlain = true)
    (hx : (ts.filterMap fun
      | .Name id pos => if env.kindOf id == some .local && pos.line == (ts.head?.map (·.pos.line)).getD 0 then some id else none
      | _ => none) = xs) (hl : xs.length = ts.length) (hd : xs.eraseDups.length = xs.length) (hf : vs.all (foldedForSure 8) = false) (hc : vs.all (constantsAlone 8) = false) : swappedStores [.Tuple ts kt pt] (.Tuple vs k2 p2) env = pure (some xs) := by
  show (do
    if !(ts.length == 2 || ts.length == 3) || vs.length != ts.length || env.blockKind != .function then return none
    if vs.any fun | .Starred .. => true | _ => false then return none
    let line := (ts.head?.map (·.pos.line)).getD 0
    let names := ts.filterMap fun
      | .Name id pos => if env.kindOf id == some .local && pos.line == line then some id else none
      | _ => none
    if names.length != ts.length || names.eraseDups.length != names.length then return none
    if vs.all (foldedForSure 8) then return none
    if vs.all (constantsAlone 8) then unsupported "assign.tuple-of-constant-expressions:order-of-the-stores"
    return some names : Sem (Option (List Str))) = pure (some xs)
  split
  · rename_i h
    rw [hv, hk] at h
    rcases hn with hn | hn <;> rw [hn] at h <;> exact absurd h (by decide)
  · split
    · rename_i h
      exact nomatch (any_star hp).symm.trans h
    · dsimp only
      split
      · rename_i h
        rw [hx, hl, hd, hl] at h
        exact absurd h (by simp)
      · rw [hf, hc]
        exact congrArg (fun l => (pure (some l) : Sem (Option (List Str)))) hx
theorem ws2_eq {env : Env} {a b : Expr} {x y : Str} {px py pt p2 : Pos} {kt k2 : Nat} (hk : env.blockKind = .function) (hx : env.scope.names.lookup x = some .local) (hy : env.scope.names.lookup y = some .local) (hl : py.line = px.line) (hxy : x ≠ y)
    (ha : isPlain a = true) (hb : isPlain b = true) (hf : [a, b].all (foldedForSure 8) = false) (hc : [a, b].all (constantsAlone 8) = false) : swappedStores [.Tuple [.Name x px, .Name y py] kt pt] (.Tuple [a, b] k2 p2) env = pure (some [x, y]) := by
  have e1 : env.kindOf x = some .local := hx
  have e2 : env.kindOf y = some .local := hy
  refine ws_eq (.inl rfl) rfl hk (by simp [ha, hb]) ?_ rfl ?_ hf hc
  · simp [List.filterMap_cons, e1, e2, Expr.pos, hl]
  · have : (y == x) = false := by simpa using fun e => hxy e.symm
    simp [List.eraseDups_cons, List.filter_cons, this]
theorem ws3_eq {env : Env} {a b c : Expr} {x y z : Str} {px py pz pt p2 : Pos} {kt k2 : Nat} (hk : env.blockKind = .function) (hx : env.scope.names.lookup x = some .local) (hy : env.scope.names.lookup y = some .local) (hz : env.scope.names.lookup z = some .local) (hl : py.line = px.line) (hl2 : pz.line = px.line) (hxy : x ≠ y) (hxz : x ≠ z) (hyz : y ≠ z)
    (ha : isPlain a = true) (hb : isPlain b = true) (hcc : isPlain c = true) (hf : [a, b, c].all (foldedForSure 8) = false) (hc : [a, b, c].all (constantsAlone 8) = false) : swappedStores [.Tuple [.Name x px, .Name y py, .Name z pz] kt pt] (.Tuple [a, b, c] k2 p2) env = pure (some [x, y, z]) := by
  have e1 : env.kindOf x = some .local := hx
  have e2 : env.kindOf y = some .local := hy
  have e3 : env.kindOf z = some .local := hz
  refine ws_eq (.inr rfl) rfl hk (by simp [ha, hb, hcc]) ?_ rfl ?_ hf hc
  · simp [List.filterMap_cons, e1, e2, e3, Expr.pos, hl, hl2]
  · have q1 : (y == x) = false := by simpa using fun e => hxy e.symm
    have q2 : (z == x) = false := by simpa using fun e => hxz e.symm
    have q3 : (z == y) = false := by simpa using fun e => hyz e.symm
    simp [List.eraseDups_cons, List.filter_cons, q1, q2, q3]
/-! ### statuses are joined -/
theorem weak_cons {x y : Stat} {xs ys : List Stat} : weakS (x :: xs) (y :: ys) = true ↔ (x = y ∨ y = .dead) ∧ weakS xs ys = true := by
  simp only [weakS, List.length_cons, Nat.add_right_cancel_iff, List.zip_cons_cons, List.all_cons, Bool.and_eq_true, decide_eq_true_eq, Bool.or_eq_true]
  constructor
  · rintro ⟨h1, h2, h3⟩; exact ⟨h2, h1, h3⟩
  · rintro ⟨h2, h1, h3⟩; exact ⟨h1, h2, h3⟩
theorem weak_trans : ∀ {a b c : List Stat}, weakS a b = true → weakS b c = true → weakS a c = true
  | [], [], c, _, h => h
  | [], _ :: _, _, h, _ => by simp [weakS] at h
  | _ :: _, [], _, h, _ => by simp [weakS] at h
  | _ :: _, _ :: _, [], _, h => by simp [weakS] at h
  | x :: xs, y :: ys, z :: zs, h, h2 => by
    obtain ⟨e1, h1⟩ := weak_cons.mp h
    obtain ⟨e2, h2⟩ := weak_cons.mp h2
    refine weak_cons.mpr ⟨?_, weak_trans h1 h2⟩
    rcases e2 with rfl | e2
    · exact e1
    · exact .inr e2
def leO (o : Option (List Stat)) (st' : List Stat) : Prop := ∀ s1, o = some s1 → weakS s1 st' = true
def leB (o : Option (List Stat)) (st' : List Stat) : Bool := match o with
  | none => true
  | some s => weakS s st'
theorem leO_of {o : Option (List Stat)} {s : List Stat} (h : leB o s = true) : leO o s := by
  intro s1 e
  subst e
  exact h
def joinS (a b : List Stat) : List Stat := List.zipWith (fun x y => if x = y then x else .dead) a b
def joinO : Option (List Stat) → Option (List Stat) → Option (Option (List Stat))
  | none, o => some o
  | o, none => some o
  | some a, some b => if weakS a (joinS a b) && weakS b (joinS a b) then some (some (joinS a b)) else none
theorem joinO_le {a b o : Option (List Stat)} (h : joinO a b = some o) {s : List Stat} (hs : leO o s) : leO a s ∧ leO b s := by
  cases a with
  | none => cases h; exact ⟨(fun _ e => nomatch e), hs⟩
  | some a =>
    cases b with
    | none => cases h; exact ⟨hs, (fun _ e => nomatch e)⟩
    | some b =>
      rw [joinO] at h
      split at h
      · rename_i w
        rw [Bool.and_eq_true] at w
        cases h
        have := hs _ rfl
        exact ⟨fun s1 e => by cases e; exact weak_trans w.1 this, fun s1 e => by cases e; exact weak_trans w.2 this⟩
      · cases h
/-! ### the check -/
abbrev Out := Option (Option (List Stat) × List Nat)
def one? (o : Option (List Stat × List Nat)) : Out := o.map fun r => (some r.1, r.2)
def ckAsg (C : Cst) (n : Nat) (sc : Scope) (st : List Stat) (s : Stmt) (t : Tg) (p : Ep) : Option (List Stat × List Nat) := match t, s with
  | .one i, .Assign [.Name x _] e _ => if decide (C.N[i]? = some x) && locB sc x && chkE C n sc e p then (kdX C.R st p).bind fun κ => (stOf κ).map fun t => (st.set i t, [i]) else none
  | .tup is, .Assign [tg] e _ => if tgB C sc tg (.tup is) && chkE C n sc e p && (noTup e || capT sc tg) && decide (kdX C.R st p = some .sh) then some (setSs is st, is) else none
  | _, _ => none
def locOk (sc : Scope) (x : Str) : Bool := decide (sc.names.lookup x = some .local)
def ckPar (C : Cst) (n : Nat) (sc : Scope) (st : List Stat) (s : Stmt) (is : List Nat) (ps : Eps) : Option (List Stat × List Nat) := match is, ps, s with
  | [i, j], .cons p (.cons q .nil), .Assign [.Tuple [.Name x px, .Name y py] _ _] (.Tuple [a, b] _ _) _ =>
    if decide (C.N[i]? = some x) && decide (C.N[j]? = some y) && !(i == j) && !(x == y) && locOk sc x && locOk sc y && decide (blkK sc = .function) && decide (py.line = px.line) && chkE C n sc a p && chkE C n sc b q && !([a, b].all (foldedForSure 8)) && !([a, b].all (constantsAlone 8)) then
      (kdX C.R st p).bind fun κa => (kdX C.R st q).bind fun κb => (stOf κa).bind fun s1 => (stOf κb).map fun s2 => ((st.set i s1).set j s2, [i, j])
    else none
  | [i, j, l], .cons p (.cons q (.cons r .nil)), .Assign [.Tuple [.Name x px, .Name y py, .Name z pz] _ _] (.Tuple [a, b, c] _ _) _ =>
    if decide (C.N[i]? = some x) && decide (C.N[j]? = some y) && decide (C.N[l]? = some z) && !(i == j) && !(i == l) && !(j == l) && !(x == y) && !(x == z) && !(y == z) && locOk sc x && locOk sc y && locOk sc z && decide (blkK sc = .function) && decide (py.line = px.line) && decide (pz.line = px.line) &&
        chkE C n sc a p && chkE C n sc b q && chkE C n sc c r && !([a, b, c].all (foldedForSure 8)) && !([a, b, c].all (constantsAlone 8)) then
      (kdX C.R st p).bind fun κa => (kdX C.R st q).bind fun κb => (kdX C.R st r).bind fun κc => (stOf κa).bind fun s1 => (stOf κb).bind fun s2 => (stOf κc).map fun s3 => (((st.set i s1).set j s2).set l s3, [i, j, l])
    else none
  | _, _, _ => none
def ckAug (C : Cst) (n : Nat) (sc : Scope) (st : List Stat) (s : Stmt) (i : Nat) (o : O2) (p : Ep) : Option (List Stat × List Nat) := match s with
  | .AugAssign (.Name x _) op e _ => if decide (C.N[i]? = some x) && locB sc x && decide (augOp o = some op) && decide (st[i]? = some .sh) && chkE C n sc e p && (kdX C.R st p).isSome then some (st.set i .sh, [i]) else none
  | _ => none
def frozO : Option Kd → Bool
  | some κ => froz κ
  | none => false
def ckApp (C : Cst) (n : Nat) (sc : Scope) (st : List Stat) (s : Stmt) (i : Nat) (p : Ep) : Option (List Stat × List Nat) := match s with
  | .Expr (.Call (.Attribute (.Name x _) m ap) [e] [] cp) _ => if decide (m = "append") && varB C sc x i && (ap.endLine == cp.line) && decide (st[i]? = some .own) && chkE C n sc e p && frozO (kdX C.R st p) then some (st, [i]) else none
  | _ => none
def ckExt (C : Cst) (n : Nat) (sc : Scope) (st : List Stat) (s : Stmt) (i : Nat) (p : Ep) : Option (List Stat × List Nat) := match s with
  | .Expr (.Call (.Attribute (.Name x _) m ap) [e] [] cp) _ => if decide (m = "extend") && varB C sc x i && (ap.endLine == cp.line) && decide (st[i]? = some .own) && chkE C n sc e p && decide (kdX C.R st p = some .fr) then some (st, [i]) else none
  | _ => none
def ckSet (C : Cst) (n : Nat) (sc : Scope) (st : List Stat) (s : Stmt) (i : Nat) (p q : Ep) : Option (List Stat × List Nat) := match s with
  | .Assign [.Subscript (.Name x _) k _] e _ => if varB C sc x i && noSlice k && (decide (st[i]? = some .own) || decide (st[i]? = some .dI) || decide (st[i]? = some .dT)) && chkE C n sc k p && chkE C n sc e q && (kdX C.R st p).isSome && frozO (kdX C.R st q) then some (st, [i]) else none
  | _ => none
def ckSet2 (C : Cst) (n : Nat) (sc : Scope) (st : List Stat) (s : Stmt) (i : Nat) (p p2 q : Ep) : Option (List Stat × List Nat) := match s with
  | .Assign [.Tuple [.Subscript (.Name x _) k _, .Subscript (.Name y _) k2 _] _ _] e _ => if decide (x = y) && varB C sc x i && noSlice k && noSlice k2 && decide (st[i]? = some .own) && chkE C n sc k p && chkE C n sc k2 p2 && chkE C n sc e q && (kdX C.R st p).isSome && (kdX C.R st p2).isSome && decide (kdX C.R st q = some .sh) then some (st, [i]) else none
  | _ => none
def ckMov (C : Cst) (sc : Scope) (st : List Stat) (s : Stmt) (i j : Nat) : Option (List Stat × List Nat) := match s with
  | .Assign [.Name x _] (.Name y _) _ => if decide (C.N[i]? = some x) && locB sc x && varB C sc y j && !(i == j) then
      (if st[j]? = some .dI then some ((st.set i .dI).set j .dead, [i]) else if st[j]? = some .dT then some ((st.set i .dT).set j .dead, [i]) else none) else none
  | _ => none
def ckRet (C : Cst) (κr : Kd) (n : Nat) (sc : Scope) (st : List Stat) (s : Stmt) (p : Ep) : Bool := match s with
  | .Return (some e) _ => (chkE C n sc e p && (match kdX C.R st p with | some κ => retK κr κ | none => false)) || (match p, e with
    | .var i, .Name x _ => varB C sc x i && ((decide (st[i]? = some .dI) && decide (κr = .dI)) || (decide (st[i]? = some .dT) && decide (κr = .dT)))
    | _, _ => false)
  | _ => false
def lockV (w : Wk) (st : List Stat) : Option (Nat × Stat) := match w with
  | .dat (.var v) => (match st[v]? with | some m => if m.mut = true then some (v, m) else none | none => none)
  | _ => none
def lockW (st s0 : List Stat) (v : Nat) (W : List Nat) : Bool := (List.range s0.length).all fun j => match s0[j]? with
  | some t => !t.lkd || (!W.contains j && (j == v || decide (st[j]? = some t)))
  | none => true
def forOut (C : Cst) (st s0 : List Stat) (w : Wk) (W : List Nat) : Option (List Stat × List Nat) := match lockV w st with
  | none => if decide (kdW C.R st w = some true) && weakS st s0 then some (s0, W) else none
  | some (v, m) => if decide (kdW C.R (st.set v (lockS m)) w = some true) && weakS (st.set v (lockS m)) s0 && decide (s0[v]? = some (lockS m)) && !W.contains v && lockW st s0 v W then some (s0.set v m, W) else none
/-- the slot of the thing that goes back to the caller stays -/
def tieB (κ : Kd) (W : List Nat) : Bool := match κ with
  | .mu i _ => !W.contains i
  | _ => true
theorem tieB_of {κ : Kd} {W : List Nat} (h : tieB κ W = true) : TieW κ W := fun i s e => by
  subst e
  unfold tieB at h
  rw [Bool.not_eq_true'] at h
  exact fun z => by rw [List.contains_iff_mem.mpr z] at h; cases h
/-- the callee's kind: its last argument is changed -/
def muS (C : Cst) (f : Nat) : Option Stat := match C.R.getD f .sh with
  | .mu _ s => some s
  | _ => none
def ckMcC (C : Cst) (n : Nat) (sc : Scope) (st : List Stat) (f : Nat) (p : Ep) (i : Nat) (fn : Str) (a : Expr) (y : Str) : Bool :=
  decide (C.fns[f]? = some fn) && glB sc fn && okNm fn && varB C sc y i && chkE C n sc a p && frozO (kdX C.R st p) && (match muS C f, st[i]? with
    | some s, some s' => decide (s = s') && s.mut
    | _, _ => false)
def ckMc (C : Cst) (n : Nat) (sc : Scope) (st : List Stat) (s : Stmt) (aug : Bool) (t f : Nat) (es : Eps) (i : Nat) : Option (List Stat × List Nat) := match es, s with
  | .cons p .nil, .Assign [.Name x _] (.Call (.Name fn _) [a, .Name y _] [] _) _ => if !aug && decide (t ≠ i) && decide (C.N[t]? = some x) && locB sc x && ckMcC C n sc st f p i fn a y then some (st.set t .sh, [t, i]) else none
  | .cons p .nil, .Assign [.Name x _] (.BinOp (.Name x' _) .Add (.Call (.Name fn _) [a, .Name y _] [] _) _) _ => if aug && decide (t ≠ i) && decide (x = x') && varB C sc x t && locB sc x && decide (st[t]? = some .sh) && ckMcC C n sc st f p i fn a y then some (st.set t .sh, [t, i]) else none
  | _, _ => none
def ckRetm (C : Cst) (κr : Kd) (n : Nat) (sc : Scope) (st : List Stat) (s : Stmt) (p : Ep) (i : Nat) : Bool := match s with
  | .Return (some e) _ => chkE C n sc e p && frozO (kdX C.R st p) && (match st[i]? with
    | some s' => decide (κr = .mu i s') && s'.mut
    | none => false)
  | _ => false
mutual
def ckS (C : Cst) (κr : Kd) : Nat → Scope → List Stat → Stmt → Sm → Out
  | 0, _, _, _, _ => none
  | n + 1, sc, st, s, m => match m with
    | .asg t p => if tieB κr t.slots then one? (ckAsg C n sc st s t p) else none
    | .par is ps => if tieB κr is then one? (ckPar C n sc st s is ps) else none
    | .aug i o p => if tieB κr [i] then one? (ckAug C n sc st s i o p) else none
    | .app i p => one? (ckApp C n sc st s i p)
    | .ext i p => one? (ckExt C n sc st s i p)
    | .set i p q => one? (ckSet C n sc st s i p q)
    | .set2 i p p2 q => one? (ckSet2 C n sc st s i p p2 q)
    | .mov i j => if tieB κr [i] then one? (ckMov C sc st s i j) else none
    | .ret p => if ckRet C κr n sc st s p then some (none, []) else none
    | .pass => (match s with
      | .Pass _ => some (some st, [])
      | _ => none)
    | .frz _ => none
    | .nvr => some (none, [])
    | .mc aug t f es i => if tieB κr [t] then one? (ckMc C n sc st s aug t f es i) else none
    | .retm p i => if ckRetm C κr n sc st s p i then some (none, []) else none
    | .ite c a b => (match s with
      | .If e sa sb _ => if chkT C n sc e c && (kdX C.R st c).isSome then (ckB C κr n sc st sa a).bind fun ra => (ckB C κr n sc st sb b).bind fun rb => (joinO ra.1 rb.1).map fun o => (o, ra.2 ++ rb.2) else none
      | _ => none)
    | .for_ t w b s0 => (match s with
      | .For tg it body [] _ => (ckB C κr n sc (setSs t.slots s0) body b).bind fun rb => if leB rb.1 s0 && tgB C sc tg t && chkW C n sc tg it w && tieB κr t.slots then one? (forOut C st s0 w (t.slots ++ rb.2)) else none
      | _ => none)
    | .while_ c b s0 => (match s with
      | .While e body [] _ => (ckB C κr n sc s0 body b).bind fun rb => if leB rb.1 s0 && chkT C n sc e c && (kdX C.R s0 c).isSome && weakS st s0 then some (some s0, rb.2) else none
      | _ => none)
def ckB (C : Cst) (κr : Kd) : Nat → Scope → List Stat → List Stmt → Bk → Out
  | 0, _, _, _, _ => none
  | n + 1, sc, st, ss, b => match b with
    | .nil => (match ss with
      | [] => some (some st, [])
      | _ => none)
    | .cons m r => (match m with
      | .frz i => if st[i]? = some .own then ckB C κr n sc (st.set i .sh) ss r else none
      | m => (match ss with
        | [] => none
        | s :: ss => (ckS C κr n sc st s m).bind fun r1 => match r1.1 with
          | some s1 => (ckB C κr n sc s1 ss r).map fun r2 => (r2.1, r1.2 ++ r2.2)
          | none => (match ss, r with
            | [], .nil => some (none, r1.2 ++ [])
            | _, _ => none)))
end
end Orp

/-! Orp, part 33: what is checked is so: statements. -/
namespace Orp
open PySem PySem.Spec PyProof.Rows L2
/-- a def's own context -/
structure GoodS (C : Cst) (Φ : Fn0) (X : Cx) (sc : Scope) : Prop where
  G : Good C Φ X sc
  sc : X.env.scope = sc
  po : PassesOwn (model X.prog X.w) X.A X.env X.xe
section
variable {C : Cst} {Φ : Fn0} {X : Cx} {sc : Scope} {n : Nat} {st st' s1 : List Stat} {κr : Kd} {W : List Nat} {s : Stmt} {p q r : Ep} {i j : Nat} {o : Option (List Stat)} {x : Str}
theorem one_of {o' : Option (List Stat × List Nat)} (h : one? o' = some (o, W)) : ∃ s1, o' = some (s1, W) ∧ o = some s1 := by
  obtain ⟨⟨a, b⟩, h1, h2⟩ := Option.map_eq_some_iff.mp h
  cases h2
  exact ⟨_, h1, rfl⟩
theorem weakO {ex : Rho → Option Res} (h : PS X s (tS X ex κr st (some s1) W)) (l : leO (some s1) st') : PS X s (tS X ex κr st (some st') W) := h.imp (tS_weak (l s1 rfl) fun _ h => h)
theorem local_of (h : locOk X.env.scope x = true) : X.env.scope.names.lookup x = some .local := of_decide_eq_true h
theorem froz_of {o : Option Kd} (h : frozO o = true) : ∃ κ, o = some κ ∧ (κ = .sh ∨ κ = .fr) := by
  cases o with
  | none => cases h
  | some κ => exact ⟨κ, rfl, froz_or h⟩
theorem snd_asg1 (hT : TieW κr [i]) {e : Expr} {xp pos : Pos} (S : GoodS C Φ X sc) (h1 : C.N[i]? = some x) (h2 : locB sc x = true) (h3 : chkE C n sc e p = true) {κ : Kd} {s : Stat} (h4 : kdX C.R st p = some κ) (h5 : stOf κ = some s) :
    PS X (.Assign [.Name x xp] e pos) (tS X (exS Φ (.asg (.one i) p)) κr st (some (st.set i s)) [i]) := by
  have G := S.G
  cases hs : swN X.env.scope e x xp with
  | false => exact ss_asg hT (nd_of G) (by rw [G.N]; exact h1) (loc_of G h2).1 (loc_of G h2).2 (by rw [swN_eq, hs]) ((snd_all C Φ n).e G h3 h4) h5
  | true =>
    have hloc : X.env.scope.names.lookup x = some .local := by
      cases e <;> simp only [swN, swF, Bool.false_eq_true, Bool.and_eq_true, beq_iff_eq] at hs <;> exact hs.1.1.2
    cases n with
    | zero => simp [chkE] at h3
    | succ n =>
      unfold chkE at h3
      rw [Bool.and_eq_true] at h3
      have h3 := h3.2
      cases e <;> simp only [swN, Bool.false_eq_true] at hs
      · rename_i elt gens scope cpos
        cases p <;> dsimp only at h3 <;> first | exact absurd h3 Bool.false_ne_true | skip
        rename_i own elt' c
        rw [Bool.and_eq_true] at h3
        rw [kdX] at h4
        obtain ⟨st2, k1, h4⟩ := Option.bind_eq_some_iff.mp h4
        obtain ⟨w, k2, h4⟩ := Option.bind_eq_some_iff.mp h4
        split at h4
        · rename_i kf
          cases h4
          cases h5
          obtain ⟨tg, iter, ifs, gs, t, w, q, r, b, rfl, rfl, CK⟩ := (snd_all C Φ n).c G h3.1 k1
          exact ss_asgL hT (nd_of G) (by rw [G.N]; exact h1) hloc G.calm (by rw [swN_eq]; exact congrArg _ hs) CK (froz_or kf) (fun s H Cc cl fp => (snd_all C Φ n).e (G.blk s H Cc cl fp) h3.2 k2) rfl
        · cases h4
      · cases p <;> dsimp only at h3 <;> exact absurd h3 Bool.false_ne_true
      · rename_i kx vx gens scope cpos
        cases p <;> dsimp only at h3 <;> first | exact absurd h3 Bool.false_ne_true | skip
        rename_i own tk k' v' c
        simp only [Bool.and_eq_true] at h3
        rw [kdX] at h4
        obtain ⟨st2, k1, h4⟩ := Option.bind_eq_some_iff.mp h4
        obtain ⟨w, k2, h4⟩ := Option.bind_eq_some_iff.mp h4
        obtain ⟨w2, k3, h4⟩ := Option.bind_eq_some_iff.mp h4
        split at h4
        · rename_i kf
          cases h4
          rw [stOf_dkd] at h5
          cases h5
          obtain ⟨tg, iter, ifs, gs, t, w, q, r, b, rfl, rfl, CK⟩ := (snd_all C Φ n).c G h3.1.1 k1
          exact ss_asgD hT G.un (nd_of G) (by rw [G.N]; exact h1) hloc G.calm (by rw [swN_eq]; exact congrArg _ hs) CK (froz_or kf) (fun s H Cc cl fp => (snd_all C Φ n).e (G.blk s H Cc cl fp) h3.1.2 k2) (fun s H Cc cl fp => (snd_all C Φ n).e (G.blk s H Cc cl fp) h3.2 k3) rfl
        · cases h4
theorem snd_asg {t : Tg} (hT : TieW κr t.slots) (S : GoodS C Φ X sc) (h : ckAsg C n sc st s t p = some (s1, W)) : PS X s (tS X (exS Φ (.asg t p)) κr st (some s1) W) := by
  unfold ckAsg at h
  split at h
  · split at h
    · rename_i hc
      simp only [Bool.and_eq_true, decide_eq_true_eq] at hc
      obtain ⟨κ, h4, h⟩ := Option.bind_eq_some_iff.mp h
      obtain ⟨s, h5, h⟩ := Option.map_eq_some_iff.mp h
      cases h
      exact snd_asg1 hT S hc.1.1 hc.1.2 hc.2 h4 h5
    · cases h
  · split at h
    · rename_i is tg e pos hc
      simp only [Bool.and_eq_true, decide_eq_true_eq] at hc
      cases h
      obtain ⟨⟨⟨h1, h2⟩, h3⟩, h4⟩ := hc
      have pg := pg_of S.G h1
      have he := (snd_all C Φ n).e S.G h2 h4
      rw [Bool.or_eq_true] at h3
      rcases h3 with h3 | h3
      · cases tg <;> first | exact ss_asgT hT pg he swT_eq (wsT_eq h3) rfl | exact absurd h1 (by simp [tgB])
      · rw [← S.sc] at h3
        cases tg <;> first | exact ss_asgT hT pg he swT_eq (wsC_eq h3) rfl | exact absurd h1 (by simp [tgB])
    · cases h
  · cases h
theorem var_of (G : Good C Φ X sc) (h : varB C sc x i = true) : X.N[i]? = some x ∧ Vis X.env.scope x ∧ (x == ("__debug__" : Str)) = false ∧ (x == ("__classdict__" : Str)) = false := by
  unfold varB at h
  rw [Bool.and_eq_true, Bool.and_eq_true, decide_eq_true_eq] at h
  exact ⟨by rw [G.N]; exact h.1.1, vis_of G h.1.2, okNm_of h.2⟩
theorem snd_par {is : List Nat} (hT : TieW κr is) {ps : Eps} (S : GoodS C Φ X sc) (h : ckPar C n sc st s is ps = some (s1, W)) : PS X s (tS X (exS Φ (.par is ps)) κr st (some s1) W) := by
  have G := S.G
  unfold ckPar at h
  split at h
  · split at h
    · rename_i hc
      simp only [Bool.and_eq_true, decide_eq_true_eq, Bool.not_eq_true', beq_eq_false_iff_ne] at hc
      obtain ⟨⟨⟨⟨⟨⟨⟨⟨⟨⟨⟨c1, c2⟩, c3⟩, c4⟩, c5⟩, c6⟩, c7⟩, c8⟩, c9⟩, c10⟩, c11⟩, c12⟩ := hc
      obtain ⟨κa, k1, h⟩ := Option.bind_eq_some_iff.mp h
      obtain ⟨κb, k2, h⟩ := Option.bind_eq_some_iff.mp h
      obtain ⟨t1, k3, h⟩ := Option.bind_eq_some_iff.mp h
      obtain ⟨t2, k4, h⟩ := Option.map_eq_some_iff.mp h
      cases h
      rw [← S.sc] at c5 c6 c7
      exact ss_par2 hT G.calm (nd_of G) (by rw [G.N]; exact c1) (by rw [G.N]; exact c2) c3 (local_of c5) (local_of c6) (plain_of c9) (plain_of c10) ((snd_all C Φ n).e G c9 k1) ((snd_all C Φ n).e G c10 k2) k3 k4 (ws2_eq c7 (local_of c5) (local_of c6) c8 c4 (plain_of c9) (plain_of c10) c11 c12)
    · cases h
  · split at h
    · rename_i hc
      simp only [Bool.and_eq_true, decide_eq_true_eq, Bool.not_eq_true', beq_eq_false_iff_ne] at hc
      obtain ⟨⟨⟨⟨⟨⟨⟨⟨⟨⟨⟨⟨⟨⟨⟨⟨⟨⟨⟨c1, c2⟩, c3⟩, d1⟩, d2⟩, d3⟩, e1⟩, e2⟩, e3⟩, l1⟩, l2⟩, l3⟩, c7⟩, p1⟩, p2⟩, x1⟩, x2⟩, x3⟩, c11⟩, c12⟩ := hc
      obtain ⟨κa, k1, h⟩ := Option.bind_eq_some_iff.mp h
      obtain ⟨κb, k2, h⟩ := Option.bind_eq_some_iff.mp h
      obtain ⟨κc, k3, h⟩ := Option.bind_eq_some_iff.mp h
      obtain ⟨t1, m1, h⟩ := Option.bind_eq_some_iff.mp h
      obtain ⟨t2, m2, h⟩ := Option.bind_eq_some_iff.mp h
      obtain ⟨t3, m3, h⟩ := Option.map_eq_some_iff.mp h
      cases h
      rw [← S.sc] at l1 l2 l3 c7
      exact ss_par3 hT G.calm (nd_of G) (by rw [G.N]; exact c1) (by rw [G.N]; exact c2) (by rw [G.N]; exact c3) d1 d2 d3 (local_of l1) (local_of l2) (local_of l3) (plain_of x1) (plain_of x2) (plain_of x3) ((snd_all C Φ n).e G x1 k1) ((snd_all C Φ n).e G x2 k2) ((snd_all C Φ n).e G x3 k3) m1 m2 m3
        (ws3_eq c7 (local_of l1) (local_of l2) (local_of l3) p1 p2 e1 e2 e3 (plain_of x1) (plain_of x2) (plain_of x3) c11 c12)
    · cases h
  · cases h
theorem snd_aug {o : O2} (hT : TieW κr [i]) (S : GoodS C Φ X sc) (h : ckAug C n sc st s i o p = some (s1, W)) : PS X s (tS X (exS Φ (.aug i o p)) κr st (some s1) W) := by
  have G := S.G
  unfold ckAug at h
  split at h
  · split at h
    · rename_i hc
      simp only [Bool.and_eq_true, decide_eq_true_eq] at hc
      obtain ⟨⟨⟨⟨⟨c1, c2⟩, c3⟩, c4⟩, c5⟩, c6⟩ := hc
      cases h
      obtain ⟨κ, k⟩ := Option.isSome_iff_exists.mp c6
      exact ss_aug hT (nd_of G) (by rw [G.N]; exact c1) (loc_of G c2).1 (loc_of G c2).2 c3 c4 ((snd_all C Φ n).e G c5 k)
    · cases h
  · cases h
theorem snd_app (S : GoodS C Φ X sc) (h : ckApp C n sc st s i p = some (s1, W)) : PS X s (tS X (exS Φ (.app i p)) κr st (some s1) W) := by
  have G := S.G
  unfold ckApp at h
  split at h
  · split at h
    · rename_i hc
      simp only [Bool.and_eq_true, decide_eq_true_eq] at hc
      obtain ⟨⟨⟨⟨⟨rfl, c2⟩, c3⟩, c4⟩, c5⟩, c6⟩ := hc
      cases h
      obtain ⟨κ, k, kf⟩ := froz_of c6
      obtain ⟨v1, v2, v3, v4⟩ := var_of G c2
      exact ss_app v1 v2 v3 v4 c3 (plain_of c5) c4 kf ((snd_all C Φ n).e G c5 k)
    · cases h
  · cases h
theorem snd_ext (S : GoodS C Φ X sc) (h : ckExt C n sc st s i p = some (s1, W)) : PS X s (tS X (exS Φ (.ext i p)) κr st (some s1) W) := by
  have G := S.G
  unfold ckExt at h
  split at h
  · split at h
    · rename_i hc
      simp only [Bool.and_eq_true, decide_eq_true_eq] at hc
      obtain ⟨⟨⟨⟨⟨rfl, c2⟩, c3⟩, c4⟩, c5⟩, c6⟩ := hc
      cases h
      obtain ⟨v1, v2, v3, v4⟩ := var_of G c2
      exact ss_ext v1 v2 v3 v4 c3 (plain_of c5) c4 ((snd_all C Φ n).e G c5 c6)
    · cases h
  · cases h
theorem snd_set (S : GoodS C Φ X sc) (h : ckSet C n sc st s i p q = some (s1, W)) : PS X s (tS X (exS Φ (.set i p q)) κr st (some s1) W) := by
  have G := S.G
  unfold ckSet at h
  split at h
  · split at h
    · rename_i hc
      simp only [Bool.and_eq_true, Bool.or_eq_true, decide_eq_true_eq] at hc
      obtain ⟨⟨⟨⟨⟨⟨c1, c2⟩, c3⟩, c4⟩, c5⟩, c6⟩, c7⟩ := hc
      cases h
      obtain ⟨κ, k, kf⟩ := froz_of c7
      obtain ⟨κ1, k1⟩ := Option.isSome_iff_exists.mp c6
      obtain ⟨v1, v2, v3, v4⟩ := var_of G c1
      have e1 := (snd_all C Φ n).e G c4 k1
      have e2 := (snd_all C Φ n).e G c5 k
      rcases c3 with (c3 | c3) | c3
      · exact ss_setL v1 v2 v3 v4 c2 c3 kf e2 e1
      · exact ss_setD (tk := false) G.un v1 v2 v3 v4 c2 c3 kf e2 e1
      · exact ss_setD (tk := true) G.un v1 v2 v3 v4 c2 c3 kf e2 e1
    · cases h
  · cases h
theorem snd_set2 {p2 : Ep} (S : GoodS C Φ X sc) (h : ckSet2 C n sc st s i p p2 q = some (s1, W)) : PS X s (tS X (exS Φ (.set2 i p p2 q)) κr st (some s1) W) := by
  have G := S.G
  unfold ckSet2 at h
  split at h
  · split at h
    · rename_i hc
      simp only [Bool.and_eq_true, decide_eq_true_eq] at hc
      obtain ⟨⟨⟨⟨⟨⟨⟨⟨⟨⟨c0, c1⟩, c2⟩, c3⟩, c4⟩, c5⟩, c6⟩, c7⟩, c8⟩, c9⟩, c10⟩ := hc
      subst c0
      cases h
      obtain ⟨κ1, k1⟩ := Option.isSome_iff_exists.mp c8
      obtain ⟨κ2, k2⟩ := Option.isSome_iff_exists.mp c9
      obtain ⟨v1, v2, v3, v4⟩ := var_of G c1
      exact ss_set2 G.calm v1 v2 v3 v4 c2 c3 c4 swT_eq (wsC_eq rfl) ((snd_all C Φ n).e G c7 c10) ((snd_all C Φ n).e G c5 k1) ((snd_all C Φ n).e G c6 k2)
    · cases h
  · cases h
theorem snd_mov (hT : TieW κr [i]) (S : GoodS C Φ X sc) (h : ckMov C sc st s i j = some (s1, W)) : PS X s (tS X (exS Φ (.mov i j)) κr st (some s1) W) := by
  have G := S.G
  unfold ckMov at h
  split at h
  · split at h
    · rename_i hc
      simp only [Bool.and_eq_true, decide_eq_true_eq, Bool.not_eq_true', beq_eq_false_iff_ne] at hc
      obtain ⟨⟨⟨c1, c2⟩, c3⟩, c4⟩ := hc
      obtain ⟨v1, v2, v3, v4⟩ := var_of G c3
      split at h
      · rename_i e
        cases h
        exact ss_mov hT (tk := false) (nd_of G) (by rw [G.N]; exact c1) (loc_of G c2).1 (loc_of G c2).2 v1 v2 v3 v4 c4 e
      · split at h
        · rename_i e
          cases h
          exact ss_mov hT (tk := true) (nd_of G) (by rw [G.N]; exact c1) (loc_of G c2).1 (loc_of G c2).2 v1 v2 v3 v4 c4 e
        · cases h
    · cases h
  · cases h
theorem snd_ret (S : GoodS C Φ X sc) (h : ckRet C κr n sc st s p = true) : PS X s (tS X (exS Φ (.ret p)) κr st (some st') W) := by
  have G := S.G
  unfold ckRet at h
  split at h
  · rw [Bool.or_eq_true] at h
    rcases h with h | h
    · rw [Bool.and_eq_true] at h
      cases k : kdX C.R st p with
      | none => rw [k] at h; cases h.2
      | some κ => rw [k] at h; exact ss_ret h.2 ((snd_all C Φ n).e G h.1 k)
    · split at h
      · simp only [Bool.and_eq_true, Bool.or_eq_true, decide_eq_true_eq] at h
        obtain ⟨v1, v2, v3, v4⟩ := var_of G h.1
        rcases h.2 with ⟨h1, rfl⟩ | ⟨h1, rfl⟩
        · exact ss_retD (tk := false) v1 v2 v3 v4 h1
        · exact ss_retD (tk := true) v1 v2 v3 v4 h1
      · cases h
  · cases h
theorem mcC_of {f : Nat} {fn y : Str} {a : Expr} (G : Good C Φ X sc) (h : ckMcC C n sc st f p i fn a y = true) : ∃ (s : Stat) (κ : Kd) (k : Nat) (fa : Addr) (fd : FuncData) (ps : List Str), st[i]? = some s ∧ s.mut = true ∧ kdX C.R st p = some κ ∧ (κ = .sh ∨ κ = .fr) ∧ chkE C n sc a p = true ∧
    FnOk X.prog X.w X.K X.mg X.base CX0 k fa fd ps (spM X.K s (Φ f)) ∧ Room k X.A ∧ Gl X fn ∧ X.mg fn = some (.ref fa) ∧ PySem.W.keepIn X.K (.ref fa) = true ∧ Binds X.K fd ps [] ∧ (fn == ("__debug__" : Str)) = false ∧ varB C sc y i = true := by
  unfold ckMcC at h
  simp only [Bool.and_eq_true, decide_eq_true_eq] at h
  obtain ⟨⟨⟨⟨⟨⟨h1, h2⟩, h3⟩, h4⟩, h5⟩, h6⟩, h7⟩ := h
  obtain ⟨κ, k1, kf⟩ := froz_of h6
  split at h7
  · rename_i s s' m1 m2
    rw [Bool.and_eq_true, decide_eq_true_eq] at h7
    obtain ⟨rfl, hm⟩ := h7
    obtain ⟨k, fa, fd, ps, F, hr, hmg, hkp, hb⟩ := G.call f fn h1
    unfold muS at m1
    split at m1
    · rename_i q s2 e
      cases m1
      rw [e] at F
      exact ⟨_, κ, k, fa, fd, ps, m2, hm, k1, kf, h5, F, hr.mono (by omega), gl_of G h2, hmg, hkp, hb, (okNm_of h3).1, h4⟩
    · cases m1
  · cases h7
theorem snd_mc {aug : Bool} {t f : Nat} {es : Eps} (hT : TieW κr [t]) (S : GoodS C Φ X sc) (h : ckMc C n sc st s aug t f es i = some (s1, W)) : PS X s (tS X (exS Φ (.mc aug t f es i)) κr st (some s1) W) := by
  have G := S.G
  unfold ckMc at h
  split at h
  · split at h
    · rename_i hc
      simp only [Bool.and_eq_true, Bool.not_eq_true', decide_eq_true_eq] at hc
      obtain ⟨⟨⟨⟨rfl, c1⟩, c2⟩, c3⟩, c4⟩ := hc
      cases h
      obtain ⟨s, κ, k, fa, fd, ps, g1, g2, g3, g4, g5, F, g6, g7, g8, g9, g10, g11, g12⟩ := mcC_of G c4
      obtain ⟨v1, v2, v3, v4⟩ := var_of G g12
      exact ss_mc hT c1 (nd_of G) (by rw [G.N]; exact c2) (loc_of G c3).1 (loc_of G c3).2 F g6 g7 g8 g9 g10 g11 (plain_of g5) g4 ((snd_all C Φ n).e G g5 g3) v1 v2 v3 v4 g1 g2
    · cases h
  · split at h
    · rename_i hc
      simp only [Bool.and_eq_true, decide_eq_true_eq] at hc
      obtain ⟨⟨⟨⟨⟨⟨rfl, c1⟩, c2⟩, c3⟩, c5⟩, c6⟩, c4⟩ := hc
      cases h
      subst c2
      obtain ⟨s, κ, k, fa, fd, ps, g1, g2, g3, g4, g5, F, g6, g7, g8, g9, g10, g11, g12⟩ := mcC_of G c4
      obtain ⟨v1, v2, v3, v4⟩ := var_of G g12
      obtain ⟨w1, w2, w3, w4⟩ := var_of G c3
      exact ss_mcA hT c1 (nd_of G) w1 (loc_of G c5).1 (loc_of G c5).2 w2 w3 w4 c6 F g6 g7 g8 g9 g10 g11 (plain_of g5) g4 ((snd_all C Φ n).e G g5 g3) v1 v2 v3 v4 g1 g2
    · cases h
  · cases h
theorem snd_retm (S : GoodS C Φ X sc) (h : ckRetm C κr n sc st s p i = true) : PS X s (tS X (exS Φ (.retm p i)) κr st (some st') W) := by
  have G := S.G
  unfold ckRetm at h
  split at h
  · simp only [Bool.and_eq_true] at h
    obtain ⟨κ, k1, kf⟩ := froz_of h.1.2
    have h2 := h.2
    split at h2
    · rename_i s' hs
      rw [Bool.and_eq_true, decide_eq_true_eq] at h2
      obtain ⟨rfl, hm⟩ := h2
      exact ss_retm hs hm kf ((snd_all C Φ n).e G h.1.1 k1)
    · cases h2
  · cases h
end
end Orp

/-! Orp, part 34: what is checked is so: blocks. -/
namespace Orp
open PySem PySem.Spec PyProof.Rows L2
structure SndS (C : Cst) (Φ : Fn0) (κr : Kd) (n : Nat) : Prop where
  s : ∀ {X : Cx} {sc : Scope} {st st' : List Stat} {s : Stmt} {m : Sm} {o : Option (List Stat)} {W : List Nat}, GoodS C Φ X sc → ckS C κr n sc st s m = some (o, W) → leO o st' → PS X s (tS X (exS Φ m) κr st (some st') W)
  b : ∀ {X : Cx} {sc : Scope} {st st' : List Stat} {s : List Stmt} {m : Bk} {o : Option (List Stat)} {W : List Nat}, GoodS C Φ X sc → ckB C κr n sc st s m = some (o, W) → leO o st' → PSs X s (tS X (exB Φ m) κr st (some st') W)
section
variable {C : Cst} {Φ : Fn0} {X : Cx} {sc : Scope} {n : Nat} {st st' s1 s0 : List Stat} {κr : Kd} {W : List Nat} {s : Stmt} {p q r : Ep} {i j : Nat} {o : Option (List Stat)} {x : Str}
theorem lockW_of (h : lockW st s0 i W = true) : ∀ (j : Nat) (t : Stat), s0[j]? = some t → t.lkd = true → j ∉ W ∧ (j = i ∨ st[j]? = some t) := by
  intro j t h1 h2
  have hj : j < s0.length := (List.getElem?_eq_some_iff.mp h1).1
  have := List.all_eq_true.mp h j (List.mem_range.mpr hj)
  rw [h1] at this
  simp only [h2, Bool.not_true, Bool.false_or, Bool.and_eq_true, Bool.not_eq_true', Bool.or_eq_true, beq_iff_eq, decide_eq_true_eq] at this
  exact ⟨fun z => by rw [List.contains_iff_mem.mpr z] at this; exact absurd this.1 (by simp), this.2⟩
theorem lockV_of {w : Wk} {m : Stat} (h : lockV w st = some (i, m)) : st[i]? = some m ∧ m.mut = true := by
  unfold lockV at h
  split at h
  · split at h
    · split at h
      · cases h
        exact ⟨by assumption, by assumption⟩
      · cases h
    · cases h
  · cases h
theorem snd_for {t : Tg} (hT : TieW κr t.slots) {w : Wk} {b : Bk} {tg it : Expr} {body : List Stmt} {pos : Pos} {Wb : List Nat} (S : GoodS C Φ X sc) (hb : PSs X body (tS X (exB Φ b) κr (setSs t.slots s0) (some s0) Wb)) (ht : tgB C sc tg t = true) (hw : chkW C n sc tg it w = true)
    (h : forOut C st s0 w (t.slots ++ Wb) = some (s1, W)) : PS X (.For tg it body [] pos) (tS X (exS Φ (.for_ t w b s0)) κr st (some s1) W) := by
  have G := S.G
  unfold forOut at h
  split at h
  · split at h
    · rename_i hc
      rw [Bool.and_eq_true, decide_eq_true_eq] at hc
      cases h
      exact ss_for hT S.po G.calm (plainW hw) ((snd_all C Φ n).w G hw hc.1) (pg_of G ht) (tupW hw ht) hb hc.2
    · cases h
  · rename_i v m hv
    obtain ⟨h1, h2⟩ := lockV_of hv
    split at h
    · rename_i hc
      simp only [Bool.and_eq_true, decide_eq_true_eq, Bool.not_eq_true'] at hc
      obtain ⟨⟨⟨⟨c1, c2⟩, c3⟩, c4⟩, c5⟩ := hc
      cases h
      exact ss_lock h1 h2 c3 (fun z => by rw [List.contains_iff_mem.mpr z] at c4; exact absurd c4 (by simp)) (lockW_of c5) (ss_for hT S.po G.calm (plainW hw) ((snd_all C Φ n).w G hw c1) (pg_of G ht) (tupW hw ht) hb c2)
    · cases h
theorem le_refl (s : List Stat) : leO (some s) s := fun s1 e => by cases e; exact weak_refl s
theorem snd_s (I : SndS C Φ κr n) {m : Sm} (S : GoodS C Φ X sc) (h : ckS C κr (n + 1) sc st s m = some (o, W)) (l : leO o st') : PS X s (tS X (exS Φ m) κr st (some st') W) := by
  have G := S.G
  unfold ckS at h
  cases m <;> dsimp only at h
  case asg t p =>
    split at h
    · rename_i ht
      obtain ⟨s1, h1, rfl⟩ := one_of h
      exact weakO (snd_asg (tieB_of ht) S h1) l
    · cases h
  case par is ps =>
    split at h
    · rename_i ht
      obtain ⟨s1, h1, rfl⟩ := one_of h
      exact weakO (snd_par (tieB_of ht) S h1) l
    · cases h
  case aug i o p =>
    split at h
    · rename_i ht
      obtain ⟨s1, h1, rfl⟩ := one_of h
      exact weakO (snd_aug (tieB_of ht) S h1) l
    · cases h
  case app i p =>
    obtain ⟨s1, h1, rfl⟩ := one_of h
    exact weakO (snd_app S h1) l
  case ext i p =>
    obtain ⟨s1, h1, rfl⟩ := one_of h
    exact weakO (snd_ext S h1) l
  case set i p q =>
    obtain ⟨s1, h1, rfl⟩ := one_of h
    exact weakO (snd_set S h1) l
  case set2 i p p2 q =>
    obtain ⟨s1, h1, rfl⟩ := one_of h
    exact weakO (snd_set2 S h1) l
  case mov i j =>
    split at h
    · rename_i ht
      obtain ⟨s1, h1, rfl⟩ := one_of h
      exact weakO (snd_mov (tieB_of ht) S h1) l
    · cases h
  case ret p =>
    split at h
    · rename_i hc
      exact snd_ret S hc
    · cases h
  case pass =>
    split at h
    · cases h
      exact weakO ss_pass l
    · cases h
  case frz i => cases h
  case mc aug t f es i =>
    split at h
    · rename_i ht
      obtain ⟨s1, h1, rfl⟩ := one_of h
      exact weakO (snd_mc (tieB_of ht) S h1) l
    · cases h
  case retm p i =>
    split at h
    · rename_i hc
      exact snd_retm S hc
    · cases h
  case nvr =>
    refine ⟨fun pins s σ H D I ⟨H0, Hf0, Hf, Lk, ρ, r, x0, N, S, ev, E⟩ => ?_⟩
    rw [exS] at ev
    cases ev
  case ite c a b =>
    split at h
    · split at h
      · rename_i hc
        rw [Bool.and_eq_true] at hc
        obtain ⟨κ, k⟩ := Option.isSome_iff_exists.mp hc.2
        obtain ⟨⟨oa, Wa⟩, h1, h⟩ := Option.bind_eq_some_iff.mp h
        obtain ⟨⟨ob, Wb⟩, h2, h⟩ := Option.bind_eq_some_iff.mp h
        obtain ⟨o', h3, h⟩ := Option.map_eq_some_iff.mp h
        cases h
        obtain ⟨l1, l2⟩ := joinO_le h3 l
        exact ss_if ((snd_all C Φ n).t G hc.1 k) (I.b S h1 l1) (I.b S h2 l2)
      · cases h
    · cases h
  case for_ t w b s0 =>
    split at h
    · obtain ⟨⟨ob, Wb⟩, h2, h⟩ := Option.bind_eq_some_iff.mp h
      split at h
      · rename_i hc
        simp only [Bool.and_eq_true] at hc
        obtain ⟨s1, h1, rfl⟩ := one_of h
        exact weakO (snd_for (tieB_of hc.2) S (I.b S h2 (leO_of hc.1.1.1)) hc.1.1.2 hc.1.2 h1) l
      · cases h
    · cases h
  case while_ c b s0 =>
    split at h
    · obtain ⟨⟨ob, Wb⟩, h2, h⟩ := Option.bind_eq_some_iff.mp h
      split at h
      · rename_i hc
        simp only [Bool.and_eq_true] at hc
        obtain ⟨κ, k⟩ := Option.isSome_iff_exists.mp hc.1.2
        cases h
        exact weakO (ss_while S.po ((snd_all C Φ n).t G hc.1.1.2 k) (I.b S h2 (leO_of hc.1.1.1)) hc.2) l
      · cases h
    · cases h
theorem bs_weak {ex : Rho → Option Res} {ss : List Stmt} (h : PSs X ss (tS X ex κr st (some s1) W)) (l : leO (some s1) st') : PSs X ss (tS X ex κr st (some st') W) := h.imp (tS_weak (l s1 rfl) fun _ h => h)
theorem snd_bk (I : SndS C Φ κr n) {b : Bk} {ss : List Stmt} (S : GoodS C Φ X sc) (h : ckB C κr (n + 1) sc st ss b = some (o, W)) (l : leO o st') : PSs X ss (tS X (exB Φ b) κr st (some st') W) := by
  unfold ckB at h
  cases b <;> dsimp only at h
  case nil =>
    split at h
    · cases h
      exact bs_weak bs_nil l
    · cases h
  case cons m r =>
    split at h
    · split at h
      · rename_i hs
        exact bs_frz hs (I.b S h l)
      · cases h
    · split at h
      · cases h
      · obtain ⟨⟨o1, W1⟩, h1, h⟩ := Option.bind_eq_some_iff.mp h
        cases o1 with
        | some s1 =>
          dsimp only at h
          obtain ⟨⟨o2, W2⟩, h2, h⟩ := Option.map_eq_some_iff.mp h
          cases h
          exact bs_cons (I.s S h1 (le_refl s1)) (I.b S h2 l)
        | none =>
          dsimp only at h
          split at h
          · cases h
            exact bs_cons (I.s S h1 l) bs_nil
          · cases h
theorem sndS_all (C : Cst) (Φ : Fn0) (κr : Kd) : ∀ n, SndS C Φ κr n
  | 0 => ⟨fun _ h => by simp [ckS] at h, fun _ h => by simp [ckB] at h⟩
  | n + 1 => ⟨snd_s (sndS_all C Φ κr n), snd_bk (sndS_all C Φ κr n)⟩
end
end Orp

/-! Orp, part 35: defs. -/
namespace Orp
open PySem PySem.Spec PyProof.Rows L2
/-! ### a block that always returns -/
section
variable {C : Cst} {Φ : Fn0} {κr : Kd}
theorem join_none {a b : Option (List Stat)} (h : joinO a b = some none) : a = none ∧ b = none := by
  cases a with
  | none => exact ⟨rfl, Option.some.inj h⟩
  | some a =>
    cases b with
    | none => cases h
    | some b =>
      rw [joinO] at h
      split at h <;> cases h
theorem one_none {o' : Option (List Stat × List Nat)} {W : List Nat} (h : one? o' = some (none, W)) : False := by
  obtain ⟨⟨a, b⟩, h1, h2⟩ := Option.map_eq_some_iff.mp h
  cases h2
theorem never_all : ∀ n, (∀ {sc st s m W ρ r}, ckS C κr n sc st s m = some (none, W) → exS Φ m ρ = some r → ∃ d, r = .ret d) ∧ (∀ {sc st ss b W ρ r}, ckB C κr n sc st ss b = some (none, W) → exB Φ b ρ = some r → ∃ d, r = .ret d)
  | 0 => ⟨fun h _ => by simp [ckS] at h, fun h _ => by simp [ckB] at h⟩
  | n + 1 => by
    obtain ⟨I1, I2⟩ := never_all n
    refine ⟨?_, ?_⟩
    · intro sc st s m W ρ r h e
      unfold ckS at h
      cases m <;> dsimp only at h <;> first | exact (one_none h).elim | (split at h <;> first | exact (one_none h).elim | (cases h; done)) | skip
      case ret p =>
        obtain ⟨d, _, rfl⟩ := ex_ret e
        exact ⟨d, rfl⟩
      case frz i => cases h
      case retm p i =>
        obtain ⟨d, x, _, _, rfl⟩ := ex_retm e
        exact ⟨_, rfl⟩
      case nvr =>
        rw [exS] at e
        cases e
      case ite c a b =>
        split at h
        · split at h
          · obtain ⟨⟨oa, Wa⟩, h1, h⟩ := Option.bind_eq_some_iff.mp h
            obtain ⟨⟨ob, Wb⟩, h2, h⟩ := Option.bind_eq_some_iff.mp h
            obtain ⟨o', h3, h⟩ := Option.map_eq_some_iff.mp h
            cases h
            obtain ⟨rfl, rfl⟩ := join_none h3
            rw [exS] at e
            obtain ⟨t, e1, e2⟩ := Option.bind_eq_some_iff.mp e
            split at e2
            · exact I2 h1 e2
            · exact I2 h2 e2
          · cases h
        · cases h
      case for_ t w b s0 =>
        split at h
        · obtain ⟨⟨ob, Wb⟩, h2, h⟩ := Option.bind_eq_some_iff.mp h
          split at h
          · exact (one_none h).elim
          · cases h
        · cases h
      case while_ c b s0 =>
        split at h
        · obtain ⟨⟨ob, Wb⟩, h2, h⟩ := Option.bind_eq_some_iff.mp h
          split at h <;> cases h
        · cases h
    · intro sc st ss b W ρ r h e
      unfold ckB at h
      cases b <;> dsimp only at h
      case nil => split at h <;> cases h
      case cons m q =>
        rw [exB] at e
        obtain ⟨r1, e1, e2⟩ := Option.bind_eq_some_iff.mp e
        split at h
        · split at h
          · cases r1 with
            | ret d => cases e2; exact ⟨d, rfl⟩
            | next ρ' => exact I2 h e2
          · cases h
        · split at h
          · cases h
          · obtain ⟨⟨o1, W1⟩, h1, h⟩ := Option.bind_eq_some_iff.mp h
            cases o1 with
            | some s1 =>
              dsimp only at h
              obtain ⟨⟨o2, W2⟩, h2, h⟩ := Option.map_eq_some_iff.mp h
              cases h
              cases r1 with
              | ret d => cases e2; exact ⟨d, rfl⟩
              | next ρ' => exact I2 h2 e2
            | none =>
              obtain ⟨d, rfl⟩ := I1 h1 e1
              cases e2
              exact ⟨d, rfl⟩
end
/-! ### defs -/
structure DefT where
  x : Str
  st : Stmt
  N : List Str
  np : Nat
def DefT.ps (d : DefT) : List Str := d.N.take d.np
def DefT.st0 (d : DefT) : List Stat := List.replicate d.np .sh ++ List.replicate (d.N.length - d.np) .dead
/-- .. where the last argument is changed -/
def DefT.st0K (d : DefT) (κ : Kd) : List Stat := match κ with
  | .mu i s => d.st0.set i s
  | _ => d.st0
def muOk (d : DefT) (κ : Kd) : Bool := match κ with
  | .mu i s => decide (i + 1 = d.np) && s.mut
  | _ => true
def atN (C0 : Cst) (d : DefT) : Cst := { C0 with N := d.N }
def scB (d : DefT) : Bool :=
  decide ((defScope d.st).kind = .function) && !(defScope d.st).isCoroutine && !(defScope d.st).isGenerator && decide d.N.Nodup && decide (d.np ≤ d.N.length) &&
    d.ps.all (fun x => decide ((defScope d.st).names.lookup x = some .local) || decide ((defScope d.st).names.lookup x = some .cell)) && (defScope d.st).names.all (fun y => !decide (y.2 = .free))
theorem scB_ok {d : DefT} (h : scB d = true) : FnScope d.N d.ps (defScope d.st) ∧ d.np ≤ d.N.length := by
  unfold scB at h
  simp only [Bool.and_eq_true, Bool.not_eq_true', decide_eq_true_eq, List.all_eq_true, Bool.or_eq_true, decide_eq_false_iff_not] at h
  obtain ⟨⟨⟨⟨⟨⟨h1, h2⟩, h3⟩, h4⟩, h5⟩, h6⟩, h7⟩ := h
  refine ⟨⟨h1, h2, h3, h4, ?_, h6, h7⟩, h5⟩
  show d.N.take (d.N.take d.np).length = d.N.take d.np
  rw [List.length_take, Nat.min_eq_left h5]
def endB (κ : Kd) : Out → Bool
  | some (none, _) => true
  | some (some _, _) => decide (κ = .sh)
  | none => false
def ckDef (C0 : Cst) (d : DefT) (f : Fn) (κ : Kd) : Bool :=
  decide (f.np = d.np) && decide (f.ns = d.N.length) && scB d && muOk d κ && endB κ (ckB (atN C0 d) κ 400 (defScope d.st) (d.st0K κ) (defBody d.st) f.body)
/-- a def at its run -/
def BindE (fd : FuncData) (ps : List Str) : Prop := ∀ us : List Value, us.length = ps.length → bindArgs fd ⟨us, []⟩ = pure (ps.zip us)
def DefR (K : Fg) (mg : Str → Option Value) (d : DefT) : Prop := ∃ fa fd, L2.Fun K d.x d.x d.st fa fd ∧ mg d.x = some (.ref fa) ∧ BindE fd d.ps
theorem RepAll.len {K : Fg} {H : Hp} : ∀ {vs : List V} {ds : List D}, RepAll K H vs ds → vs.length = ds.length
  | _, _, .nil => rfl
  | _, _, .cons _ r => congrArg (· + 1) r.len
theorem RepAll.get {K : Fg} {H : Hp} : ∀ {vs : List V} {ds : List D} (i : Nat) {v : V} {d : D}, RepAll K H vs ds → vs[i]? = some v → ds[i]? = some d → Rep K H v d
  | _, _, 0, _, _, .cons h _, e1, e2 => by cases e1; cases e2; exact h
  | _, _, i + 1, _, _, .cons _ r, e1, e2 => r.get i e1 e2
theorem st0_at {d : DefT} {i : Nat} {s : Stat} (h : d.st0[i]? = some s) : (s = .sh ∧ i < d.np) ∨ s = .dead := by
  unfold DefT.st0 at h
  rw [List.getElem?_append] at h
  split at h
  · rename_i hi
    rw [List.length_replicate] at hi
    rw [List.getElem?_replicate, if_pos hi] at h
    exact .inl ⟨(Option.some.inj h).symm, hi⟩
  · rw [List.getElem?_replicate] at h
    split at h
    · exact .inr (Option.some.inj h).symm
    · cases h
theorem isMu_of {κ : Kd} (h : κ.isMu = true) : ∃ i s, κ = .mu i s := by
  cases κ <;> first | exact ⟨_, _, rfl⟩ | cases h
theorem st0K_p {d : DefT} {κ : Kd} (h : κ.isMu = false) : d.st0K κ = d.st0 := by
  cases κ <;> first | rfl | cases h
section
variable {P : Program} {w : World} {K : Fg} {mg : Str → Option Value} {base : Heap} {C0 : Cst} {Ps : List Fn} {ds : List DefT}
theorem all_fns (hl : C0.fns = ds.map DefT.x) (hck : ∀ (i : Nat) (d : DefT), ds[i]? = some d → ∃ f, Ps[i]? = some f ∧ ckDef C0 d f (C0.R.getD i .sh) = true) (hd : ∀ (i : Nat) (d : DefT), ds[i]? = some d → DefR K mg d) (blt : ∀ x ∈ bltN, mg x = none)
    (con : ∀ p ∈ C0.con, ∃ u v, mg p.1 = some u ∧ RelV v u ∧ ∀ Hf, Rep K Hf v p.2) : ∀ (n i : Nat) (d : DefT) (fa : Addr) (fd : FuncData), ds[i]? = some d → L2.Fun K d.x d.x d.st fa fd → FnOk P w K mg base CX0 (3 * n) fa fd d.ps (spK K (C0.R.getD i .sh) (run Ps n i))
  | 0, i, d, fa, fd, h, F => by
    have no : ∀ vs H Q E, ¬ spK K (C0.R.getD i .sh) (run Ps 0 i) vs H Q E := fun vs H Q E hs => by
      cases hκ : (C0.R.getD i .sh).isMu with
      | false =>
        rw [spK_p hκ] at hs
        obtain ⟨Hf, ds', dd, _, _, e, _⟩ := hs
        cases e
      | true =>
        obtain ⟨ii, ss, hκ'⟩ := isMu_of hκ
        rw [hκ'] at hs
        obtain ⟨Hf, us, dvs, a, x, r, x', _, _, _, _, _, e, _⟩ := hs
        cases e
    exact ⟨fun vs H Q E hs => (no _ _ _ _ hs).elim, fun A outer s H args us vs Q E _ _ _ _ hs => (no _ _ _ _ hs).elim⟩
  | n + 1, i, d, fa, fd, h, F => by
    obtain ⟨f, hf, hc⟩ := hck i d h
    unfold ckDef at hc
    simp only [Bool.and_eq_true, decide_eq_true_eq] at hc
    obtain ⟨⟨⟨⟨c1, c2⟩, c3⟩, cm⟩, c4⟩ := hc
    obtain ⟨sc, c5⟩ := scB_ok c3
    have runE : ∀ {dvs : List D} {dd : D}, run Ps (n + 1) i dvs = some dd → dvs.length = d.np ∧ ∃ r, exB (run Ps n) f.body (dvs ++ List.replicate (d.N.length - d.np) .none) = some r ∧ dd = endF r := by
      intro dvs dd e
      rw [run, hf] at e
      have e : callF (run Ps n) f dvs = some dd := e
      unfold callF at e
      split at e
      · rename_i hl
        obtain ⟨r, e1, e2⟩ := Option.map_eq_some_iff.mp e
        rw [c1, c2] at e1
        exact ⟨hl.trans c1, r, e1, e2.symm⟩
      · cases e
    have psl : d.ps.length = d.np := by
      show (d.N.take d.np).length = d.np
      rw [List.length_take, Nat.min_eq_left c5]
    show FnOk P w K mg base CX0 (3 * n + 2 + 1) fa fd d.ps (spK K (C0.R.getD i .sh) (run Ps (n + 1) i))
    refine F.ok sc (fun vs H Q E hs => ?_) (fun cdv A outer s H vs Q E hr hs => ?_)
    · cases hκ : (C0.R.getD i .sh).isMu with
      | false =>
        rw [spK_p hκ] at hs
        obtain ⟨Hf, dvs, dd, _, ra, e, _⟩ := hs
        rw [ra.len, (runE e).1, psl]
      | true =>
        obtain ⟨ii, ss, hκ'⟩ := isMu_of hκ
        rw [hκ'] at hs
        obtain ⟨Hf, us, dvs, a, x, r, x', rfl, _, ra, _, _, e, _⟩ := hs
        have := (runE e).1
        rw [List.length_append] at this ⊢
        rw [psl, ra.len]
        exact this
    · skip
      have G : Good (atN C0 d) (run Ps n) (cxOf CX0 P w K mg base d.N d.x (defScope d.st) fa cdv A outer s H E).nox (defScope d.st) :=
        { N := rfl
          nd := sc.nd
          calm := rfl
          un := Nat.lt_of_le_of_lt (Nat.add_le_add_right (Nat.le_add_right _ _) _) hr.un
          vis := fun x k h => .inl h
          fn := fun _ _ => rfl
          blt := blt
          call := fun g x hx => by
            have hx' : (ds.map DefT.x)[g]? = some x := by rw [← hl]; exact hx
            rw [List.getElem?_map] at hx'
            obtain ⟨d', h3, rfl⟩ := Option.map_eq_some_iff.mp hx'
            obtain ⟨fa', fd', m1, m2, m3⟩ := hd g d' h3
            exact ⟨3 * n, fa', fd', d'.ps, all_fns hl hck hd blt con n g d' fa' fd' h3 m1, hr, m2, m1.kp, .all m3⟩
          con := con }
      have GS : GoodS (atN C0 d) (run Ps n) (cxOf CX0 P w K mg base d.N d.x (defScope d.st) fa cdv A outer s H E).nox (defScope d.st) := ⟨G, rfl, PassesOwn.never⟩
      cases hb : ckB (atN C0 d) (C0.R.getD i .sh) 400 (defScope d.st) (d.st0K (C0.R.getD i .sh)) (defBody d.st) f.body with
      | none => rw [hb] at c4; cases c4
      | some oW =>
        obtain ⟨o, W⟩ := oW
        rw [hb] at c4
        have hs0 : d.st0.length = d.N.length := by
          unfold DefT.st0
          rw [List.length_append, List.length_replicate, List.length_replicate]
          omega
        have hσ : ∀ vs : List V, vs.length = d.np → (start d.N vs).length = d.N.length := fun vs hvs => by
          show (vs.map some ++ List.replicate (d.N.length - vs.length) none).length = _
          rw [List.length_append, List.length_map, List.length_replicate, hvs]
          omega
        have at1 : ∀ (vs : List V) (j : Nat) (o : Option V), vs.length = d.np → j < d.np → (start d.N vs)[j]? = some o → ∃ v, vs[j]? = some v ∧ o = some v := fun vs j o hvs hj h2 => by
          have h2' : (vs.map some)[j]? = some o := by
            rw [← h2]
            exact (List.getElem?_append_left (by rw [List.length_map]; omega)).symm
          rw [List.getElem?_map] at h2'
          obtain ⟨v, h4, rfl⟩ := Option.map_eq_some_iff.mp h2'
          exact ⟨v, h4, rfl⟩
        refine ⟨_, (sndS_all (atN C0 d) (run Ps n) (C0.R.getD i .sh) 400).b (st' := o.getD d.st0) GS hb (fun s1 e => by subst e; exact weak_refl s1), ?_⟩
        cases hκ : (C0.R.getD i .sh).isMu with
        | false =>
          rw [spK_p hκ] at hs
          rw [st0K_p hκ]
          obtain ⟨Hf, dvs, dd, sm, ra, e, k⟩ := hs
          obtain ⟨el, r, e1, rfl⟩ := runE e
          have hvs : vs.length = d.np := ra.len.trans el
          refine ⟨H, Hf, Hf, fun _ => none, _, r, Ext.refl sm, fun j s a hj hm => ?_, ⟨hs0.trans (hσ vs hvs).symm, ?_, sm, (fun a o h => nomatch h), (fun a h => absurd rfl h), fun j s o dd hj h2 h3 => ?_, fun j l a s t _ hj _ hm => ?_⟩, e1, ?_⟩
          · rcases st0_at hj with ⟨rfl, _⟩ | rfl <;> cases hm
          · rw [List.length_append, List.length_replicate, el, hσ vs hvs]
            omega
          · rcases st0_at hj with ⟨rfl, hj2⟩ | rfl
            · obtain ⟨v, h4, rfl⟩ := at1 vs j o hvs hj2 h2
              rw [List.getElem?_append_left (by omega)] at h3
              exact ⟨v, rfl, ra.get j h4 h3⟩
            · trivial
          · rcases st0_at hj with ⟨rfl, _⟩ | rfl <;> cases hm
          · cases r with
            | ret dd => exact ⟨k, fun i' s' r x a v H' Hf' z => by rw [z] at hκ; cases hκ⟩
            | next ρ' =>
              cases o with
              | none =>
                obtain ⟨dd, z⟩ := (never_all (C := atN C0 d) (Φ := run Ps n) (κr := C0.R.getD i .sh) 400).2 hb e1
                cases z
              | some s1 =>
                refine ⟨s1, rfl, fun σ' H' Hf' x' _ _ _ _ => ?_⟩
                have hk : C0.R.getD i .sh = .sh := of_decide_eq_true c4
                rw [hk] at k
                exact k .non H' Hf' x' (show Rep K Hf' .non .none from .non)
        | true =>
          obtain ⟨ii, ss, hκ'⟩ := isMu_of hκ
          rw [hκ'] at hs cm
          have hst : d.st0K (C0.R.getD i .sh) = d.st0.set ii ss := by rw [hκ']; rfl
          rw [hst]
          unfold muOk at cm
          dsimp only at cm
          rw [Bool.and_eq_true, decide_eq_true_eq] at cm
          obtain ⟨hii, hsm⟩ := cm
          obtain ⟨Hf, us, dvs, a, x, r0, x', rfl, sm, ra, _, sl, e, k⟩ := hs
          obtain ⟨el, r, e1, er⟩ := runE e
          have hul : us.length = ii := by rw [List.length_append] at el; have := ra.len; simp at el; omega
          have hvs : (us ++ [V.ref a]).length = d.np := by rw [List.length_append]; simp; omega
          have hdl : dvs.length = ii := by rw [← ra.len]; exact hul
          have vat : (us ++ [V.ref a])[ii]? = some (V.ref a) := by rw [List.getElem?_append_right (by omega), hul, Nat.sub_self]; rfl
          have dat : (dvs ++ [x] ++ List.replicate (d.N.length - d.np) PyData.none)[ii]? = some x := by rw [List.getElem?_append_left (by rw [List.length_append]; simp; omega), List.getElem?_append_right (by omega), hdl, Nat.sub_self]; rfl
          have iil : ii < d.st0.length := by omega
          have stat : ∀ {j s}, (d.st0.set ii ss)[j]? = some s → (j = ii ∧ s = ss) ∨ (j ≠ ii ∧ ((s = .sh ∧ j < d.np) ∨ s = .dead)) := fun {j s} hj => by
            by_cases z : ii = j
            · subst z; exact .inl ⟨rfl, (get_set_eq hj).symm⟩
            · rw [List.getElem?_set_ne z] at hj; exact .inr ⟨Ne.symm z, st0_at hj⟩
          have σat : (start d.N (us ++ [V.ref a]))[ii]? = some (some (V.ref a)) := by
            show ((us ++ [V.ref a]).map some ++ List.replicate _ none)[ii]? = _
            rw [List.getElem?_append_left (by rw [List.length_map]; omega), List.getElem?_map, vat]
            rfl
          refine ⟨rmH H a, Hf, Hf, noLk, _, r, ⟨fun b u q => ?_, Same.refl _, sm, fun _ _ q => q⟩, fun j s b hj hm h3 => ?_, ⟨by rw [List.length_set]; exact hs0.trans (hσ _ hvs).symm, ?_, sm, (fun a o h => nomatch h), (fun a h => absurd rfl h), fun j s o dd hj h2 h3 => ?_, fun j l b s t hjl hj hl hm hm2 _ _ => ?_⟩, e1, ?_⟩
          · by_cases z : b = a
            · subst z; rw [rmH_at] at q; cases q
            · rw [rmH_ne z] at q; exact q
          · rcases stat hj with ⟨rfl, rfl⟩ | ⟨_, ⟨rfl, _⟩ | rfl⟩
            · rw [σat] at h3
              cases h3
              exact rmH_at
            · cases hm
            · cases hm
          · rw [List.length_append, List.length_replicate, el, hσ _ hvs]
            omega
          · rcases stat hj with ⟨rfl, rfl⟩ | ⟨hne, ⟨rfl, hj'⟩ | rfl⟩
            · rw [σat] at h2
              rw [dat] at h3
              cases h2
              cases h3
              exact sl
            · obtain ⟨v, h4, rfl⟩ := at1 _ j o hvs hj' h2
              have jl : j < ii := by omega
              rw [List.getElem?_append_left (by omega)] at h4
              rw [List.getElem?_append_left (by rw [List.length_append]; simp; omega), List.getElem?_append_left (by omega)] at h3
              exact ⟨v, rfl, ra.get j h4 h3⟩
            · trivial
          · rcases stat hj with ⟨rfl, rfl⟩ | ⟨_, ⟨rfl, _⟩ | rfl⟩
            · rcases stat hl with ⟨rfl, rfl⟩ | ⟨_, ⟨rfl, _⟩ | rfl⟩
              · exact hjl rfl
              · cases hm2
              · cases hm2
            · cases hm
            · cases hm
          · cases r with
            | next ρ' => cases er
            | ret dd =>
              refine ⟨fun v H' Hf' _ r => ?_, fun i' s' r1 x1 a' v H' Hf' z1 z2 z3 z4 z5 z6 => ?_⟩
              · rw [hκ'] at r; exact r.elim
              · rw [hκ'] at z1
                cases z1
                rw [σat] at z3
                cases z3
                have er : PyData.tuple [r0, x'] = dd := er
                rw [← er] at z2
                cases z2
                exact k v H' Hf' z4 z5 z6
end
/-! ### the law's end -/
def ckAll (C0 : Cst) : List DefT → List Fn → Nat → Bool
  | [], [], _ => true
  | d :: ds, f :: fs, i => ckDef C0 d f (C0.R.getD i .sh) && ckAll C0 ds fs (i + 1)
  | _, _, _ => false
theorem ckAll_of {C0 : Cst} : ∀ {ds : List DefT} {fs : List Fn} {k : Nat}, ckAll C0 ds fs k = true → ∀ (i : Nat) (d : DefT), ds[i]? = some d → ∃ f, fs[i]? = some f ∧ ckDef C0 d f (C0.R.getD (k + i) .sh) = true
  | [], _, _, _, i, d, e => by simp at e
  | d :: ds, [], _, h, _, _, _ => by simp [ckAll] at h
  | d :: ds, f :: fs, k, h, 0, d', e => by
    rw [ckAll, Bool.and_eq_true] at h
    cases e
    exact ⟨f, rfl, h.1⟩
  | d :: ds, f :: fs, k, h, i + 1, d', e => by
    rw [ckAll, Bool.and_eq_true] at h
    obtain ⟨f', h1, h2⟩ := ckAll_of h.2 i d' e
    exact ⟨f', h1, by rw [show k + (i + 1) = k + 1 + i by omega]; exact h2⟩
/-- a def in the written part -/
def DefK (K : Fg) (d : DefT) : Prop := ∃ fa fd, L2.Fun K d.x d.x d.st fa fd ∧ PySem.W.nsIn K mainGlobals d.x = some (some (.ref fa)) ∧ BindE fd d.ps
theorem defK_mk {K : Fg} (x : Str) (st : Stmt) (N : List Str) (np : Nat) (ps : List Str) (hps : N.take np = ps) {fa : Addr} {oc : Value} {od an : Option Addr} {osl : Array (Option Value)} {kV doc pm cdv ct : Value} (a : PySem.W.nsIn K mainGlobals x = some (some (.ref fa)))
    (l : K.lookup fa = some ⟨oc, od, .func (PySem.W.fnOf x x (defArgs st) (defBody st) (defScope st) .none kV doc pm an cdv ct), osl⟩) (c : PySem.W.codeIn K cdv x = true) (k : PySem.W.keepIn K (.ref fa) = true)
    (b : ∀ (kV doc pm : Value) (an : Option Addr) (cdv ct : Value), BindE (PySem.W.fnOf x x (defArgs st) (defBody st) (defScope st) .none kV doc pm an cdv ct) ps) : DefK K ⟨x, st, N, np⟩ :=
  ⟨fa, _, fun_mk (st := st) l c k, a, by rw [show (DefT.mk x st N np).ps = ps from hps]; exact b _ _ _ _ _ _⟩
def AllK (K : Fg) : List DefT → Prop
  | [] => True
  | d :: r => DefK K d ∧ AllK K r
theorem AllK.at {K : Fg} : ∀ {ds : List DefT}, AllK K ds → ∀ (i : Nat) (d : DefT), ds[i]? = some d → DefK K d
  | [], _, _, _, e => by simp at e
  | d :: r, h, 0, d', e => by cases e; exact h.1
  | d :: r, h, i + 1, d', e => AllK.at h.2 i d' e
def BltK (K : Fg) : List Str → Prop
  | [] => True
  | x :: r => PySem.W.nsIn K mainGlobals x = some none ∧ BltK K r
theorem BltK.at {K : Fg} : ∀ {xs : List Str}, BltK K xs → ∀ x ∈ xs, PySem.W.nsIn K mainGlobals x = some none
  | [], _, _, e => by cases e
  | y :: r, h, x, e => by
    cases e with
    | head => exact h.1
    | tail _ e => exact BltK.at h.2 x e
def ConK (K : Fg) : List (Str × D) → Prop
  | [] => True
  | p :: r => (∃ u v, PySem.W.nsIn K mainGlobals p.1 = some (some u) ∧ RelV v u ∧ ∀ Hf, Rep K Hf v p.2) ∧ ConK K r
theorem ConK.at {K : Fg} : ∀ {xs : List (Str × D)}, ConK K xs → ∀ p ∈ xs, ∃ u v, PySem.W.nsIn K mainGlobals p.1 = some (some u) ∧ RelV v u ∧ ∀ Hf, Rep K Hf v p.2
  | [], _, _, e => by cases e
  | y :: r, h, x, e => by
    cases e with
    | head => exact h.1
    | tail _ e => exact ConK.at h.2 x e
theorem conK_int {K : Fg} {x : Str} {i : Int} {t : Nat} (m : PySem.W.nsIn K mainGlobals x = some (some (.int i t))) : ∃ u v, PySem.W.nsIn K mainGlobals x = some (some u) ∧ RelV v u ∧ ∀ Hf, Rep K Hf v (.int i) := ⟨_, .int i, m, ⟨_, rfl⟩, fun _ => .int i⟩
theorem conK_str {K : Fg} {x s : Str} {t : Tok} (m : PySem.W.nsIn K mainGlobals x = some (some (.str s t))) : ∃ u v, PySem.W.nsIn K mainGlobals x = some (some u) ∧ RelV v u ∧ ∀ Hf, Rep K Hf v (.str s) := ⟨_, .str s, m, ⟨_, rfl⟩, fun _ => .str s⟩
theorem conK_tup {K : Fg} {x : Str} {is : List Int} {a : Addr} {its : Array Value} {n : Nat} {sl : Array (Option Value)} (m : PySem.W.nsIn K mainGlobals x = some (some (.ref a))) (l : K.lookup a = some ⟨.type "tuple", none, .seq its n, sl⟩) (z : its.size ≤ sizeLine) (hv : Vals (is.map V.int) its.toList) :
    ∃ u v, PySem.W.nsIn K mainGlobals x = some (some u) ∧ RelV v u ∧ ∀ Hf, Rep K Hf v (.tuple (is.map .int)) := by
  refine ⟨_, .ref a, m, rfl, fun Hf => .tup (.inr ⟨_, its, n, l, rfl, rfl, rfl, z, hv⟩) ?_⟩
  clear hv
  induction is with
  | nil => exact .nil
  | cons i is ih => exact .cons (.int i) ih
theorem law_F {P : Program} {w : World} {K : Fg} {h : Heap} {mg : Str → Option Value} {fa : Addr} {C0 : Cst} {Ps : List Fn} {ds : List DefT} {d : DefT} (n i : Nat) (hl : C0.fns = ds.map DefT.x) (hck : ckAll C0 ds Ps 0 = true) (hi : ds[i]? = some d) (hps : d.ps = [("script" : Str)]) (hk : C0.R.getD i .sh = .sh)
    (KX : K.In h) (G : h.Ns mainGlobals mg) (hfa : mg d.x = some (.ref fa)) (A : AllK K ds) (B : BltK K bltN) (C : ConK K C0.con) :
    ∃ fd : FuncData, (∀ (s : Shared) (v : Value), BindsTo s fd ⟨[v], []⟩ [("script", v)]) ∧ ∀ base : Heap, K.In base → base.Ns mainGlobals mg → FnOk P w K mg base CX0 (3 * n) fa fd ["script"] (spP K .sh (run Ps n i)) := by
  obtain ⟨fa', fd, F, h1, h2⟩ := A.at i d hi
  have e := hfa.symm.trans (PySem.W.mg_of KX G h1)
  cases e
  refine ⟨fd, fun s v => .of_eq ?_, fun base _ _ => ?_⟩
  · have := h2 [v] (by rw [hps]; rfl)
    rw [hps] at this
    exact this
  · have := all_fns (P := P) (w := w) (base := base) hl (fun i d e => by have := ckAll_of hck i d e; rw [Nat.zero_add] at this; exact this)
      (fun i d e => by obtain ⟨fa, fd, q1, q2, q3⟩ := A.at i d e; exact ⟨fa, fd, q1, PySem.W.mg_of KX G q2, q3⟩) (fun x hx => PySem.W.mg_none_of KX G (B.at x hx))
      (fun p hp => by obtain ⟨u, v, q1, q2, q3⟩ := C.at p hp; exact ⟨u, v, PySem.W.mg_of KX G q1, q2, q3⟩) n i d fa fd hi F
    rw [hps, hk] at this
    exact this
/-- the script is good: the promise -/
theorem law_sp {K : Fg} {Ps : List Fn} {n i : Nat} (hp : ∀ ns : List Int, ns.length ≤ 63 → run Ps n i [.list (ns.map .int)] = some (.bool true)) (H : Hp) (a : Addr) (ns : List Int) (hl : ns.length ≤ 63) (hS : SqL K H a (ns.map V.int)) : spP K .sh (run Ps n i) [.ref a] H (fun v _ => v = .bl true) fun _ _ _ => False := by
  refine ⟨H, [.list (ns.map .int)], .bool true, Same.refl _, .cons (.lst hS ?_) .nil, hp ns hl, fun v H' Hf' x r => ?_⟩
  · clear hS hl
    induction ns with
    | nil => exact .nil
    | cons n ns ih => exact .cons (.int _) ih
  · cases (show Rep K Hf' v (.bool true) from r) with
    | bl => rfl
end Orp

/-! Plain law, part 1: the evaluator's loops; the defs that every law has. -/
namespace Orp
open PySem (PyData)
variable {Φ : Nat → List D → Option D}
theorem run_succ (P : List Fn) (n f : Nat) (ds : List D) (q : Fn) (h : P[f]? = some q) : run P (n + 1) f ds = callF (run P n) q ds := by
  rw [run, h]
  rfl
theorem exB_nil {ρ : Rho} : exB Φ .nil ρ = some (.next ρ) := by rw [exB]
theorem exB_next {s : Sm} {r : Bk} {ρ ρ2 : Rho} (h : exS Φ s ρ = some (.next ρ2)) : exB Φ (.cons s r) ρ = exB Φ r ρ2 := by
  rw [exB, h]
  rfl
theorem exB_ret {s : Sm} {r : Bk} {ρ : Rho} {d : D} (h : exS Φ s ρ = some (.ret d)) : exB Φ (.cons s r) ρ = some (.ret d) := by
  rw [exB, h]
  rfl
theorem call_of {f : Fn} {ds : List D} {r : Res} (hl : ds.length = f.np) (h : exB Φ f.body (ds ++ List.replicate (f.ns - f.np) .none) = some r) : callF Φ f ds = some (endF r) := by
  rw [callF, if_pos hl, h]
  rfl
/-! ### one clause -/
theorem flatF_ok {α : Type} {enc : α → D} {f : D → Option (List D)} {g : α → List D} : ∀ {l : List α}, (∀ a ∈ l, f (enc a) = some (g a)) → flatF f (l.map enc) = some (l.flatMap g)
  | [], _ => rfl
  | a :: l, h => by
    rw [List.map_cons, flatF, h a List.mem_cons_self, Option.bind_some, flatF_ok fun b hb => h b (List.mem_cons_of_mem _ hb)]
    rfl
theorem flat_filter {α β : Type} {b : α → Bool} {e : α → β} : ∀ l : List α, (l.flatMap fun a => if b a = true then [e a] else []) = (l.filter b).map e
  | [] => rfl
  | a :: l => by
    rw [List.flatMap_cons, flat_filter l, List.filter_cons]
    split <;> rfl
/-- [e for t in .. if q] -/
theorem comp1_ok {α : Type} {enc : α → D} {l : List α} {own : List Nat} {elt q : Ep} {t : Tg} {w : Wk} {ρ : Rho} {b : α → Bool} {e : α → D} (hw : evW Φ w ρ = some (l.map enc))
    (h : ∀ a ∈ l, ∃ ρ', bindT t (enc a) ρ = some ρ' ∧ (∃ x, evX Φ q ρ' = some x ∧ truthF x = some (b a)) ∧ (b a = true → evX Φ elt ρ' = some (e a))) (hl : l.length ≤ BIG) :
    evX Φ (.comp own elt (.cons t w q .nil)) ρ = some (.list ((l.filter b).map e)) := by
  rw [evX, evC, hw, Option.bind_some, flatF_ok (g := fun a => if b a = true then [e a] else []) fun a ha => ?_, Option.bind_some, flat_filter, if_pos ?_]
  · unfold okL
    rw [decide_eq_true_eq, List.length_map]
    exact Nat.le_trans (List.length_filter_le _ _) hl
  · obtain ⟨ρ', h1, ⟨x, h2, h3⟩, h4⟩ := h a ha
    rw [h1, Option.bind_some, h2, Option.bind_some, h3, Option.bind_some]
    cases hb : b a with
    | true =>
      rw [if_pos rfl, if_pos rfl, evC, h4 hb]
      rfl
    | false => rfl
/-! ### for -/
theorem loop_inv {α : Type} {enc : α → D} {f : Rho → Option Res} {t : Tg} : ∀ {l : List α} {R : Nat → Rho → Prop} {ρ : Rho}, R 0 ρ → (∀ n a ρ, l[n]? = some a → R n ρ → ∃ ρ1 ρ2, bindT t (enc a) ρ = some ρ1 ∧ f ρ1 = some (.next ρ2) ∧ R (n + 1) ρ2) →
    ∃ ρ', loopF f t (l.map enc) ρ = some (.next ρ') ∧ R l.length ρ'
  | [], _, ρ, h, _ => ⟨ρ, rfl, h⟩
  | a :: l, R, ρ, h, hs => by
    obtain ⟨ρ1, ρ2, h1, h2, h3⟩ := hs 0 a ρ rfl h
    obtain ⟨ρ', h4, h5⟩ := loop_inv (R := fun n => R (n + 1)) h3 fun n b ρ e => hs (n + 1) b ρ e
    refine ⟨ρ', ?_, h5⟩
    rw [List.map_cons, loopF, h1, Option.bind_some, h2, Option.bind_some]
    exact h4
theorem for_inv {α : Type} {enc : α → D} {t : Tg} {w : Wk} {bd : Bk} {st : List Stat} (l : List α) {R : Nat → Rho → Prop} {ρ : Rho} (hw : evW Φ w ρ = some (l.map enc)) (h0 : R 0 ρ)
    (hs : ∀ n a ρ, l[n]? = some a → R n ρ → ∃ ρ1 ρ2, bindT t (enc a) ρ = some ρ1 ∧ exB Φ bd ρ1 = some (.next ρ2) ∧ R (n + 1) ρ2) : ∃ ρ', exS Φ (.for_ t w bd st) ρ = some (.next ρ') ∧ R l.length ρ' := by
  obtain ⟨ρ', h1, h2⟩ := loop_inv h0 hs
  refine ⟨ρ', ?_, h2⟩
  rw [exS, hw, Option.bind_some]
  exact h1
/-! ### ranges -/
def natD (i : Nat) : D := .int (i : Int)
theorem rangeD_nat (n : Nat) : rangeD 0 n = (List.range n).map natD := by
  unfold rangeD natD
  rw [Int.sub_zero, Int.toNat_natCast]
  refine List.map_congr_left fun i _ => ?_
  rw [Int.zero_add]
theorem rngOk_nat {n : Nat} (h : n ≤ 8000000) : rngOk (n : Int) = true := by
  unfold rngOk
  simp only [Bool.and_eq_true, decide_eq_true_eq]
  omega
theorem evW_rng {a : Ep} {ρ : Rho} {n : Nat} (h : evX Φ a ρ = some (.int n)) (hn : n ≤ 8000000) : evW Φ (.rng a) ρ = some ((List.range n).map natD) := by
  rw [evW, h]
  show (if rngOk (n : Int) = true then some (rangeD 0 n) else none) = _
  rw [if_pos (rngOk_nat hn), rangeD_nat]
/-! ### places -/
theorem atD_nat {α : Type} {xs : List α} {i : Nat} {x : α} (h : xs[i]? = some x) : atD xs (i : Int) = some x := by
  have hi := (List.getElem?_eq_some_iff.mp h).1
  unfold atD ixD
  rw [if_pos (Int.natCast_nonneg i), if_pos (by omega)]
  show xs[(i : Int).toNat]? = some x
  rw [Int.toNat_natCast]
  exact h
/-! ### the row of a law -/
def bMixed : Bk := (.cons (.asg (.one 2) (.cst (.int (0)))) (.cons (.ite (.o2 .gt (.o1 .len (.var 0)) (.cst (.int (0)))) (.cons (.asg (.one 2) (.o2 .idx (.var 0) (.o2 .mod (.var 1) (.o1 .len (.var 0))))) .nil) .nil) (.cons (.asg (.one 3) (.o2 .mod (.o1 .int (.o2 .add (.o2 .add (.o2 .mul (.var 2) (.cst (.int (48271)))) (.o2 .mul (.var 1) (.cst (.int (69621))))) (.cst (.int (8191))))) (.cst (.int (2147483647))))) (.cons (.asg (.one 4) (.o2 .mod (.o1 .int (.o2 .add (.o2 .add (.o2 .mul (.var 3) (.var 3)) (.o2 .fdiv (.var 3) (.cst (.int (7))))) (.o2 .mul (.var 1) (.cst (.int (16807)))))) (.cst (.int (2147483629))))) (.cons (.asg (.one 5) (.o2 .mod (.o1 .int (.o2 .add (.o2 .add (.o2 .mul (.var 4) (.var 4)) (.o2 .fdiv (.var 4) (.cst (.int (11))))) (.cst (.int (40692))))) (.cst (.int (2147483563))))) (.cons (.ret (.o2 .mod (.o2 .fdiv (.var 5) (.cst (.int (5)))) (.cst (.int (1000003))))) .nil))))))
def fMixed : Fn := ⟨2, 6, bMixed⟩
def bRow (jm : Nat) : Bk := (.cons (.asg (.one 2) (.cst (.int (0)))) (.cons (.ite (.and (.o2 .gt (.o1 .len (.var 0)) (.cst (.int (0)))) (.o2 .ge (.o2 .idx (.var 0) (.cst (.int (0)))) (.o2 .pow (.cst (.int (10))) (.cst (.int (18)))))) (.cons (.asg (.one 2) (.o2 .idx (.var 0) (.cst (.int (0))))) .nil) .nil) (.cons (.asg (.one 3) (.lst .nil)) (.cons (.for_ (.one 4) (.rng (.var 1)) (.cons (.ite (.o2 .gt (.var 2) (.cst (.int (0)))) (.cons (.app 3 (.o2 .mod (.o1 .int (.var 2)) (.cst (.int (1000))))) (.cons (.asg (.one 2) (.o2 .fdiv (.var 2) (.cst (.int (1000))))) .nil)) (.cons (.app 3 (.call jm (.cons (.var 0) (.cons (.var 4) .nil)))) .nil)) .nil) [.sh, .sh, .sh, .own, .dead]) (.cons (.frz 3) (.cons (.ret (.var 3)) .nil))))))
def fRow (jm : Nat) : Fn := ⟨2, 5, bRow jm⟩
def intsD (l : List Int) : D := .list (l.map .int)
def mixA (c k : Int) : Int := (c * 48271 + k * 69621 + 8191) % 2147483647
def mixB (a k : Int) : Int := (a * a + a / 7 + k * 16807) % 2147483629
def mixC (b : Int) : Int := (b * b + b / 11 + 40692) % 2147483563
theorem sm_of {z m : Int} (h : 0 < m) (hm : m ≤ 2147483647) : sm64 (z % m) = true := by
  have h1 := Int.emod_nonneg z (show m ≠ 0 by omega)
  have h2 := Int.emod_lt_of_pos z h
  unfold sm64
  simp only [Bool.and_eq_true, decide_eq_true_eq]
  omega
theorem ev_var {i : Nat} {ρ : Rho} {d : D} (h : ρ[i]? = some d) : evX Φ (.var i) ρ = some d := by rw [evX, h]
theorem ev_cst {d : D} {ρ : Rho} : evX Φ (.cst d) ρ = some d := by rw [evX]
theorem ev_1 {o : O1} {a : Ep} {ρ : Rho} {x : D} (h : evX Φ a ρ = some x) : evX Φ (.o1 o a) ρ = o1F o x := by rw [evX, h]; rfl
theorem ev_2 {o : O2} {a b : Ep} {ρ : Rho} {x y : D} (h : evX Φ a ρ = some x) (h2 : evX Φ b ρ = some y) : evX Φ (.o2 o a b) ρ = o2F o x y := by rw [evX, h, h2]; rfl
theorem ev_asg {i : Nat} {e : Ep} {ρ : Rho} {d : D} (h : evX Φ e ρ = some d) : exS Φ (.asg (.one i) e) ρ = some (.next (ρ.set i d)) := by
  rw [exS, h]
  rfl
theorem ev_retS {e : Ep} {ρ : Rho} {d : D} (h : evX Φ e ρ = some d) : exS Φ (.ret e) ρ = some (.ret d) := by
  rw [exS, h]
  rfl
theorem ev_ite {c : Ep} {a b : Bk} {ρ : Rho} {x : D} {t : Bool} (h : evX Φ c ρ = some x) (ht : truthF x = some t) : exS Φ (.ite c a b) ρ = if t = true then exB Φ a ρ else exB Φ b ρ := by
  rw [exS, evT, h]
  show (truthF x).bind _ = _
  rw [ht]
  rfl
theorem o2_add {i j : Int} : o2F .add (.int i) (.int j) = some (.int (i + j)) := rfl
theorem o2_sub {i j : Int} : o2F .sub (.int i) (.int j) = some (.int (i - j)) := rfl
theorem o2_mul {i j : Int} (h : sm64 i = true ∨ sm64 j = true) : o2F .mul (.int i) (.int j) = some (.int (i * j)) := by
  show (if (sm64 i || sm64 j) = true then _ else _) = _
  rw [if_pos (by rcases h with h | h <;> simp [h])]
theorem o2_mod {i j : Int} (h : 0 < j) : o2F .mod (.int i) (.int j) = some (.int (i % j)) := if_pos h
theorem o2_fdiv {i j : Int} (h : 0 < j) (h2 : j < 1073741824) : o2F .fdiv (.int i) (.int j) = some (.int (i / j)) := if_pos ⟨h, h2⟩
theorem mixed_ok (ns : List Int) (k : Nat) : ∃ z : Int, 0 ≤ z ∧ callF Φ fMixed [intsD ns, natD k] = some (.int z) := by
  have tail : ∀ c : Int, ∃ z : Int, 0 ≤ z ∧ exB Φ (.cons (.asg (.one 3) (.o2 .mod (.o1 .int (.o2 .add (.o2 .add (.o2 .mul (.var 2) (.cst (.int (48271)))) (.o2 .mul (.var 1) (.cst (.int (69621))))) (.cst (.int (8191))))) (.cst (.int (2147483647))))) (.cons (.asg (.one 4) (.o2 .mod (.o1 .int (.o2 .add (.o2 .add (.o2 .mul (.var 3) (.var 3)) (.o2 .fdiv (.var 3) (.cst (.int (7))))) (.o2 .mul (.var 1) (.cst (.int (16807)))))) (.cst (.int (2147483629))))) (.cons (.asg (.one 5) (.o2 .mod (.o1 .int (.o2 .add (.o2 .add (.o2 .mul (.var 4) (.var 4)) (.o2 .fdiv (.var 4) (.cst (.int (11))))) (.cst (.int (40692))))) (.cst (.int (2147483563))))) (.cons (.ret (.o2 .mod (.o2 .fdiv (.var 5) (.cst (.int (5)))) (.cst (.int (1000003))))) .nil)))) [intsD ns, natD k, .int c, .none, .none, .none] = some (.ret (.int z)) := by
    intro c
    have e1 : sm64 (mixA c k) = true := sm_of (by decide) (by decide)
    have e2 : sm64 (mixB (mixA c k) k) = true := sm_of (by decide) (by decide)
    refine ⟨mixC (mixB (mixA c k) k) / 5 % 1000003, Int.emod_nonneg _ (by decide), ?_⟩
    rw [exB_next (ev_asg (d := .int (mixA c k)) ?a), exB_next (ev_asg (d := .int (mixB (mixA c k) k)) ?b), exB_next (ev_asg (d := .int (mixC (mixB (mixA c k) k))) ?c), exB_ret (ev_retS ?d)]
    case a =>
      rw [ev_2 (ev_1 (ev_2 (ev_2 (ev_2 (ev_var rfl) ev_cst |>.trans (o2_mul (.inr (by decide)))) (ev_2 (ev_var (d := .int k) rfl) ev_cst |>.trans (o2_mul (.inr (by decide)))) |>.trans o2_add) ev_cst |>.trans o2_add) |>.trans rfl) ev_cst]
      exact o2_mod (by decide)
    case b =>
      rw [ev_2 (ev_1 (ev_2 (ev_2 (ev_2 (ev_var (d := .int (mixA c k)) rfl) (ev_var (d := .int (mixA c k)) rfl) |>.trans (o2_mul (.inl e1))) (ev_2 (ev_var (d := .int (mixA c k)) rfl) ev_cst |>.trans (o2_fdiv (by decide) (by decide))) |>.trans o2_add) (ev_2 (ev_var (d := .int k) rfl) ev_cst |>.trans (o2_mul (.inr (by decide)))) |>.trans o2_add) |>.trans rfl) ev_cst]
      exact o2_mod (by decide)
    case c =>
      rw [ev_2 (ev_1 (ev_2 (ev_2 (ev_2 (ev_var (d := .int (mixB (mixA c k) k)) rfl) (ev_var (d := .int (mixB (mixA c k) k)) rfl) |>.trans (o2_mul (.inl e2))) (ev_2 (ev_var (d := .int (mixB (mixA c k) k)) rfl) ev_cst |>.trans (o2_fdiv (by decide) (by decide))) |>.trans o2_add) ev_cst |>.trans o2_add) |>.trans rfl) ev_cst]
      exact o2_mod (by decide)
    case d =>
      rw [ev_2 (ev_2 (ev_var (d := .int (mixC (mixB (mixA c k) k))) rfl) ev_cst |>.trans (o2_fdiv (by decide) (by decide))) ev_cst]
      exact o2_mod (by decide)
  have go : ∃ c : Int, ∀ r, exB Φ (.cons (.ite (.o2 .gt (.o1 .len (.var 0)) (.cst (.int (0)))) (.cons (.asg (.one 2) (.o2 .idx (.var 0) (.o2 .mod (.var 1) (.o1 .len (.var 0))))) .nil) .nil) r) [intsD ns, natD k, .int 0, .none, .none, .none] = exB Φ r [intsD ns, natD k, .int c, .none, .none, .none] := by
    have hc : evX Φ (.o2 .gt (.o1 .len (.var 0)) (.cst (.int (0)))) [intsD ns, natD k, .int 0, .none, .none, .none] = some (.bool (decide ((0 : Int) < (ns.map PyData.int).length))) :=
      (ev_2 ((ev_1 (ev_var (d := intsD ns) rfl)).trans (show o1F .len (intsD ns) = some (.int (ns.map PyData.int).length) from rfl)) ev_cst).trans rfl
    cases ns with
    | nil => exact ⟨0, fun r => exB_next ((ev_ite hc (t := false) rfl).trans ((if_neg Bool.false_ne_true).trans exB_nil))⟩
    | cons x ns =>
      have hlt : k % (x :: ns).length < (x :: ns).length := Nat.mod_lt _ (Nat.succ_pos _)
      have hz : ((k : Int) % (((x :: ns).map PyData.int).length : Int)) = ((k % (x :: ns).length : Nat) : Int) := by rw [List.length_map]; exact (Int.natCast_emod _ _).symm
      have hat : atD ((x :: ns).map PyData.int) ((k % (x :: ns).length : Nat) : Int) = some (.int (x :: ns)[k % (x :: ns).length]) := atD_nat (by rw [List.getElem?_map, List.getElem?_eq_getElem hlt]; rfl)
      refine ⟨(x :: ns)[k % (x :: ns).length], fun r => exB_next ((ev_ite hc (t := true) ?_).trans ?_)⟩
      · show some _ = some true
        rw [decide_eq_true (by rw [List.length_map, List.length_cons]; omega)]
      · rw [if_pos rfl, exB_next (ev_asg (d := .int (x :: ns)[k % (x :: ns).length]) ?_), exB_nil]
        · rfl
        · rw [ev_2 (ev_var (d := intsD (x :: ns)) rfl) ((ev_2 (ev_var (d := .int k) rfl) (ev_1 (ev_var (d := intsD (x :: ns)) rfl) |>.trans rfl)).trans (o2_mod (by rw [List.length_map, List.length_cons]; omega))), hz]
          exact hat
  obtain ⟨c, hc⟩ := go
  obtain ⟨z, hz, ht⟩ := tail c
  refine ⟨z, hz, call_of (r := .ret (.int z)) rfl ?_⟩
  show exB Φ (.cons (.asg (.one 2) (.cst (.int 0))) _) [intsD ns, natD k, .none, .none, .none, .none] = _
  rw [exB_next (ev_asg ev_cst)]
  exact (hc _).trans ht
end Orp

/-! Plain law, part 2: the row. -/
namespace Orp
open PySem (PyData)
variable {Φ : Nat → List D → Option D}
theorem ev_call {f : Nat} {es : Eps} {ρ : Rho} {ds : List D} (h : evXs Φ es ρ = some ds) : evX Φ (.call f es) ρ = Φ f ds := by
  rw [evX, h]
  rfl
theorem evs_nil {ρ : Rho} : evXs Φ .nil ρ = some [] := by rw [evXs]
theorem evs_cons {e : Ep} {r : Eps} {ρ : Rho} {d : D} {ds : List D} (h : evX Φ e ρ = some d) (h2 : evXs Φ r ρ = some ds) : evXs Φ (.cons e r) ρ = some (d :: ds) := by
  rw [evXs, h, h2]
  rfl
theorem ev_app {i : Nat} {e : Ep} {ρ : Rho} {ds : List D} {y : D} (h : ρ[i]? = some (.list ds)) (h2 : evX Φ e ρ = some y) (hl : ds.length < BIG) : exS Φ (.app i e) ρ = some (.next (ρ.set i (.list (ds ++ [y])))) := by
  rw [exS, h, Option.bind_some, h2, Option.bind_some]
  show nextSet i ρ (if ds.length < BIG then some (.list (ds ++ [y])) else none) = _
  rw [if_pos hl]
  rfl
theorem ev_and {a b : Ep} {ρ : Rho} {t : Bool} (h : evX Φ a ρ = some (.bool t)) : evX Φ (.and a b) ρ = if t = true then evX Φ b ρ else some (.bool false) := by
  rw [evX, h]
  rfl
/-- the row's state: what is left of the big number, what was found -/
def RowR (ns : List Int) (many n : Nat) (ρ : Rho) : Prop := ∃ (c : Int) (r : List Int) (d : D), 0 ≤ c ∧ r.length = n ∧ (∀ x ∈ r, 0 ≤ x) ∧ ρ = [intsD ns, natD many, .int c, intsD r, d]
theorem snoc_int (r : List Int) (x : Int) : PyData.list (r.map .int ++ [.int x]) = intsD (r ++ [x]) := by
  unfold intsD
  rw [List.map_append]
  rfl
theorem snoc_all {r : List Int} {x : Int} (h : ∀ y ∈ r, 0 ≤ y) (hx : 0 ≤ x) : ∀ y ∈ r ++ [x], 0 ≤ y := fun y hy => (List.mem_append.mp hy).elim (h y) fun z => List.mem_singleton.mp z ▸ hx
theorem row_ok {jm : Nat} {mx : Nat → Int} {ns : List Int} {many : Nat} (hm : ∀ k, Φ jm [intsD ns, natD k] = some (.int (mx k))) (h0 : ∀ k, 0 ≤ mx k) (hb : many ≤ 1000) :
    ∃ r : List Int, r.length = many ∧ (∀ x ∈ r, 0 ≤ x) ∧ callF Φ (fRow jm) [intsD ns, natD many] = some (intsD r) := by
  have go : ∃ c : Int, 0 ≤ c ∧ ∀ r, exB Φ (.cons (.ite (.and (.o2 .gt (.o1 .len (.var 0)) (.cst (.int (0)))) (.o2 .ge (.o2 .idx (.var 0) (.cst (.int (0)))) (.o2 .pow (.cst (.int (10))) (.cst (.int (18)))))) (.cons (.asg (.one 2) (.o2 .idx (.var 0) (.cst (.int (0))))) .nil) .nil) r) [intsD ns, natD many, .int 0, .none, .none] = exB Φ r [intsD ns, natD many, .int c, .none, .none] := by
    have hc : evX Φ (.o2 .gt (.o1 .len (.var 0)) (.cst (.int (0)))) [intsD ns, natD many, .int 0, .none, .none] = some (.bool (decide ((0 : Int) < (ns.map PyData.int).length))) :=
      (ev_2 ((ev_1 (ev_var (d := intsD ns) rfl)).trans (show o1F .len (intsD ns) = some (.int (ns.map PyData.int).length) from rfl)) ev_cst).trans rfl
    cases ns with
    | nil =>
      refine ⟨0, Int.le_refl 0, fun r => exB_next ((ev_ite (x := .bool false) (t := false) ?_ rfl).trans ((if_neg Bool.false_ne_true).trans exB_nil))⟩
      rw [evX, hc]
      rfl
    | cons x ns =>
      have hi : evX Φ (.o2 .idx (.var 0) (.cst (.int (0)))) [intsD (x :: ns), natD many, .int 0, .none, .none] = some (.int x) := (ev_2 (ev_var (d := intsD (x :: ns)) rfl) ev_cst).trans (atD_nat (i := 0) rfl)
      have hand : evX Φ (.and (.o2 .gt (.o1 .len (.var 0)) (.cst (.int (0)))) (.o2 .ge (.o2 .idx (.var 0) (.cst (.int (0)))) (.o2 .pow (.cst (.int (10))) (.cst (.int (18)))))) [intsD (x :: ns), natD many, .int 0, .none, .none] = some (.bool (decide ((10 : Int) ^ 18 ≤ x))) := by
        rw [decide_eq_true (by rw [List.length_map, List.length_cons]; omega)] at hc
        rw [ev_and hc, if_pos rfl, ev_2 hi ((ev_2 ev_cst ev_cst).trans (show o2F .pow (.int 10) (.int 18) = some (.int (10 ^ 18)) from by rfl))]
        rfl
      by_cases hx : (10 : Int) ^ 18 ≤ x
      · rw [decide_eq_true hx] at hand
        refine ⟨x, by omega, fun r => exB_next ((ev_ite hand (t := true) rfl).trans ((if_pos rfl).trans ?_))⟩
        rw [exB_next (ev_asg hi), exB_nil]
        rfl
      · rw [decide_eq_false hx] at hand
        exact ⟨0, Int.le_refl 0, fun r => exB_next ((ev_ite hand (t := false) rfl).trans ((if_neg Bool.false_ne_true).trans exB_nil))⟩
  obtain ⟨c, c0, hc⟩ := go
  have hs : ∀ (n k : Nat) (ρ : Rho), (List.range many)[n]? = some k → RowR ns many n ρ → ∃ ρ1 ρ2, bindT (.one 4) (natD k) ρ = some ρ1 ∧ exB Φ (.cons (.ite (.o2 .gt (.var 2) (.cst (.int (0)))) (.cons (.app 3 (.o2 .mod (.o1 .int (.var 2)) (.cst (.int (1000))))) (.cons (.asg (.one 2) (.o2 .fdiv (.var 2) (.cst (.int (1000))))) .nil)) (.cons (.app 3 (.call jm (.cons (.var 0) (.cons (.var 4) .nil)))) .nil)) .nil) ρ1 = some (.next ρ2) ∧ RowR ns many (n + 1) ρ2 := by
    rintro n k ρ hk ⟨c, r, d, hc0, h1, h2, rfl⟩
    have hn : n < many := by
      have := (List.getElem?_eq_some_iff.mp hk).1
      rwa [List.length_range] at this
    have hz : r.length < BIG := by unfold BIG; omega
    have hz' : (r.map PyData.int).length < BIG := by rw [List.length_map]; exact hz
    have hg : evX Φ (.o2 .gt (.var 2) (.cst (.int (0)))) [intsD ns, natD many, .int c, intsD r, natD k] = some (.bool (decide (0 < c))) := (ev_2 (ev_var (d := .int c) rfl) ev_cst).trans rfl
    by_cases hp : 0 < c
    · rw [decide_eq_true hp] at hg
      refine ⟨[intsD ns, natD many, .int c, intsD r, natD k], [intsD ns, natD many, .int (c / 1000), intsD (r ++ [c % 1000]), natD k], rfl, ?_, ⟨_, _, _, Int.ediv_nonneg hc0 (by decide), by rw [List.length_append, h1]; rfl, snoc_all h2 (Int.emod_nonneg _ (by decide)), rfl⟩⟩
      refine (exB_next ((ev_ite hg (t := true) rfl).trans ((if_pos rfl).trans ?_))).trans exB_nil
      refine (exB_next (ev_app (ds := r.map .int) (y := .int (c % 1000)) rfl ((ev_2 (ev_1 (ev_var (d := .int c) rfl) |>.trans rfl) ev_cst).trans (o2_mod (by decide))) hz')).trans ?_
      rw [snoc_int]
      exact (exB_next (ev_asg (d := .int (c / 1000)) ((ev_2 (ev_var (d := .int c) rfl) ev_cst).trans (o2_fdiv (by decide) (by decide))))).trans exB_nil
    · rw [decide_eq_false hp] at hg
      refine ⟨[intsD ns, natD many, .int c, intsD r, natD k], [intsD ns, natD many, .int c, intsD (r ++ [mx k]), natD k], rfl, ?_, ⟨_, _, _, hc0, by rw [List.length_append, h1]; rfl, snoc_all h2 (h0 k), rfl⟩⟩
      refine (exB_next ((ev_ite hg (t := false) rfl).trans ((if_neg Bool.false_ne_true).trans ?_))).trans exB_nil
      refine (exB_next (ev_app (ds := r.map .int) (y := .int (mx k)) rfl ((ev_call (evs_cons (ev_var (d := intsD ns) rfl) (evs_cons (ev_var (d := natD k) rfl) evs_nil))).trans (hm k)) hz')).trans ?_
      rw [snoc_int]
      exact exB_nil
  obtain ⟨ρ', f1, f2⟩ := for_inv (Φ := Φ) (enc := natD) (t := .one 4) (w := .rng (.var 1)) (bd := .cons (.ite (.o2 .gt (.var 2) (.cst (.int (0)))) (.cons (.app 3 (.o2 .mod (.o1 .int (.var 2)) (.cst (.int (1000))))) (.cons (.asg (.one 2) (.o2 .fdiv (.var 2) (.cst (.int (1000))))) .nil)) (.cons (.app 3 (.call jm (.cons (.var 0) (.cons (.var 4) .nil)))) .nil)) .nil)
    (st := [.sh, .sh, .sh, .own, .dead]) (R := RowR ns many) (ρ := [intsD ns, natD many, .int c, intsD [], .none]) (List.range many) (evW_rng (ev_var rfl) (by omega)) ⟨c, [], .none, c0, rfl, (fun _ h => nomatch h), rfl⟩ hs
  obtain ⟨c', r, d, _, h1, h2, rfl⟩ := f2
  rw [List.length_range] at h1
  refine ⟨r, h1, h2, call_of (r := .ret (intsD r)) rfl ?_⟩
  show exB Φ (.cons (.asg (.one 2) (.cst (.int 0))) _) [intsD ns, natD many, .none, .none, .none] = _
  rw [exB_next (ev_asg ev_cst)]
  refine (hc _).trans ?_
  exact (exB_next (ev_asg (d := intsD []) (by rw [evX, evXs]; rfl))).trans ((exB_next f1).trans ((exB_next (by rw [exS])).trans (exB_ret (ev_retS (ev_var rfl)))))
end Orp

/-! Plain law, part 3: what is like itself. -/
namespace Orp
open PySem (PyData)
variable {Φ : Nat → List D → Option D}
def fIsInt : Fn := ⟨1, 1, (.cons (.ret (.and (.o1 .tInt (.var 0)) (.not (.o1 .tBool (.var 0))))) .nil)⟩
def bLike (jl ji : Nat) : Bk := (.cons (.ite (.o1 .isN (.var 1)) (.cons (.ret (.o1 .isN (.var 0))) .nil) .nil) (.cons (.ite (.o1 .tBool (.var 1)) (.cons (.ret (.and (.o1 .tBool (.var 0)) (.o2 .eq (.var 0) (.var 1)))) .nil) .nil) (.cons (.ite (.o1 .tTuple (.var 1)) (.cons (.ite (.or (.not (.o1 .tTuple (.var 0))) (.o2 .ne (.o1 .len (.var 0)) (.o1 .len (.var 1)))) (.cons (.ret (.cst (.bool false))) .nil) .nil) (.cons (.ret (.o1 .all (.comp [2] (.call jl (.cons (.o2 .idx (.var 0) (.var 2)) (.cons (.o2 .idx (.var 1) (.var 2)) .nil))) (.cons (.one 2) (.rng (.o1 .len (.var 1))) (.cst (.bool true)) .nil)))) .nil)) .nil) (.cons (.ite (.o1 .tStr (.var 1)) (.cons (.ret (.and (.o1 .tStr (.var 0)) (.o2 .eq (.var 0) (.var 1)))) .nil) .nil) (.cons (.ret (.and (.call ji (.cons (.var 0) .nil)) (.o2 .eq (.var 0) (.var 1)))) .nil)))))
def fLike (jl ji : Nat) : Fn := ⟨2, 3, bLike jl ji⟩
/-- data that can be like itself, nested n deep -/
def Lk : Nat → D → Prop
  | _, .none => True
  | _, .bool _ => True
  | _, .int _ => True
  | n + 1, .tuple ds => ds.length ≤ 8000000 ∧ ∀ d ∈ ds, Lk n d
  | _, _ => False
theorem ite_no {c : Ep} {a b : Bk} {ρ : Rho} {r : Bk} (h : evX Φ c ρ = some (.bool false)) (hb : exB Φ b ρ = some (.next ρ)) : exB Φ (.cons (.ite c a b) r) ρ = exB Φ r ρ :=
  exB_next ((ev_ite h (t := false) rfl).trans ((if_neg Bool.false_ne_true).trans hb))
theorem ite_ret {c : Ep} {a b : Bk} {ρ : Rho} {r : Bk} {d : D} (h : evX Φ c ρ = some (.bool true)) (ha : exB Φ a ρ = some (.ret d)) : exB Φ (.cons (.ite c a b) r) ρ = some (.ret d) :=
  exB_ret ((ev_ite h (t := true) rfl).trans ((if_pos rfl).trans ha))
theorem isInt_ok (i : Int) : callF Φ fIsInt [.int i] = some (.bool true) := by
  refine call_of (r := .ret (.bool true)) rfl (exB_ret (ev_retS ?_))
  rw [ev_and (t := true) ((ev_1 (ev_var (d := .int i) rfl)).trans rfl), if_pos rfl, evX, ev_1 (ev_var (d := .int i) rfl)]
  rfl
theorem boolsOf_all {α : Type} : ∀ l : List α, boolsOf (l.map fun _ => PyData.bool true) = some (l.map fun _ => true)
  | [] => rfl
  | a :: l => by
    rw [List.map_cons, boolsOf, boolsOf_all l]
    rfl
theorem all_true {α : Type} (l : List α) : o1F .all (.list (l.map fun _ => PyData.bool true)) = some (.bool true) := by
  show (boolsOf _).map _ = _
  rw [boolsOf_all]
  show some (PyData.bool ((l.map fun _ => true).all id)) = _
  rw [show (l.map fun _ => true).all id = true by simp]
theorem eq_int (i : Int) : o2F .eq (.int i) (.int i) = some (.bool true) := by
  show (eqF (.int i) (.int i)).map PyData.bool = _
  rw [eqF, if_pos ⟨rfl, rfl⟩]
  show some (PyData.bool (i == i)) = _
  rw [beq_self_eq_true]
theorem ne_int (i : Int) : o2F .ne (.int i) (.int i) = some (.bool false) := by
  show (eqF (.int i) (.int i)).map (fun t => PyData.bool (!t)) = _
  rw [eqF, if_pos ⟨rfl, rfl⟩]
  show some (PyData.bool (!(i == i))) = _
  rw [beq_self_eq_true]
  rfl
theorem like_base {P : List Fn} {jl ji : Nat} (hl : P[jl]? = some (fLike jl ji)) (hi : P[ji]? = some fIsInt) (d : D) (h : d = .none ∨ (∃ b, d = .bool b) ∨ ∃ i, d = .int i) (m : Nat) : run P (m + 2) jl [d, d] = some (.bool true) := by
  rw [run_succ _ _ _ _ _ hl]
  rcases h with rfl | ⟨b, rfl⟩ | ⟨i, rfl⟩
  · exact call_of (r := .ret (.bool true)) rfl (ite_ret ((ev_1 (ev_var rfl)).trans rfl) (exB_ret (ev_retS ((ev_1 (ev_var rfl)).trans rfl))))
  · refine call_of (r := .ret (.bool true)) rfl ((ite_no ((ev_1 (ev_var rfl)).trans rfl) exB_nil).trans (ite_ret ((ev_1 (ev_var rfl)).trans rfl) (exB_ret (ev_retS ?_))))
    rw [ev_and (t := true) ((ev_1 (ev_var (d := .bool b) rfl)).trans rfl), if_pos rfl, ev_2 (ev_var (d := .bool b) rfl) (ev_var (d := .bool b) rfl)]
    cases b <;> rfl
  · refine call_of (r := .ret (.bool true)) rfl ((ite_no ((ev_1 (ev_var rfl)).trans rfl) exB_nil).trans ((ite_no ((ev_1 (ev_var rfl)).trans rfl) exB_nil).trans ((ite_no ((ev_1 (ev_var rfl)).trans rfl) exB_nil).trans ((ite_no ((ev_1 (ev_var rfl)).trans rfl) exB_nil).trans (exB_ret (ev_retS ?_))))))
    rw [ev_and (t := true) ((ev_call (evs_cons (ev_var (d := .int i) rfl) evs_nil)).trans ((run_succ _ _ _ _ _ hi).trans (isInt_ok i))), if_pos rfl, ev_2 (ev_var (d := .int i) rfl) (ev_var (d := .int i) rfl)]
    exact eq_int i
theorem ev_or {a b : Ep} {ρ : Rho} {t : Bool} (h : evX Φ a ρ = some (.bool t)) : evX Φ (.or a b) ρ = if t = true then some (.bool true) else evX Φ b ρ := by
  rw [evX, h]
  rfl
theorem ev_not {a : Ep} {ρ : Rho} {t : Bool} (h : evX Φ a ρ = some (.bool t)) : evX Φ (.not a) ρ = some (.bool (!t)) := by
  rw [evX, h]
  rfl
theorem like_ok {P : List Fn} {jl ji : Nat} (hl : P[jl]? = some (fLike jl ji)) (hi : P[ji]? = some fIsInt) : ∀ (n : Nat) (d : D), Lk n d → ∀ m, n + 2 ≤ m → run P m jl [d, d] = some (.bool true) := by
  intro n
  induction n with
  | zero =>
    intro d h m hm
    obtain ⟨m, rfl⟩ : ∃ k, m = k + 2 := ⟨m - 2, by omega⟩
    cases d with
    | none => exact like_base hl hi _ (.inl rfl) m
    | bool b => exact like_base hl hi _ (.inr (.inl ⟨b, rfl⟩)) m
    | int i => exact like_base hl hi _ (.inr (.inr ⟨i, rfl⟩)) m
    | str _ => exact h.elim
    | list _ => exact h.elim
    | tuple _ => exact h.elim
    | dict _ => exact h.elim
  | succ n ih =>
    intro d h m hm
    obtain ⟨m, rfl⟩ : ∃ k, m = k + 2 := ⟨m - 2, by omega⟩
    cases d with
    | none => exact like_base hl hi _ (.inl rfl) m
    | bool b => exact like_base hl hi _ (.inr (.inl ⟨b, rfl⟩)) m
    | int i => exact like_base hl hi _ (.inr (.inr ⟨i, rfl⟩)) m
    | str _ => exact h.elim
    | list _ => exact h.elim
    | dict _ => exact h.elim
    | tuple ds =>
      obtain ⟨hz, hd⟩ := h
      rw [run_succ _ _ _ _ _ hl]
      refine call_of (r := .ret (.bool true)) rfl ((ite_no ((ev_1 (ev_var rfl)).trans rfl) exB_nil).trans ((ite_no ((ev_1 (ev_var rfl)).trans rfl) exB_nil).trans (ite_ret ((ev_1 (ev_var rfl)).trans rfl) ?_)))
      have e1 : evX (run P (m + 1)) (.or (.not (.o1 .tTuple (.var 0))) (.o2 .ne (.o1 .len (.var 0)) (.o1 .len (.var 1)))) [.tuple ds, .tuple ds, .none] = some (.bool false) := by
        rw [ev_or (ev_not ((ev_1 (ev_var (d := .tuple ds) rfl)).trans rfl))]
        refine (if_neg Bool.false_ne_true).trans ?_
        rw [ev_2 ((ev_1 (ev_var (d := .tuple ds) rfl)).trans (show o1F .len (.tuple ds) = some (.int ds.length) from rfl)) ((ev_1 (ev_var (d := .tuple ds) rfl)).trans (show o1F .len (.tuple ds) = some (.int ds.length) from rfl))]
        exact ne_int _
      refine (ite_no e1 exB_nil).trans (exB_ret (ev_retS ?_))
      have e2 := comp1_ok (Φ := run P (m + 1)) (enc := natD) (l := List.range ds.length) (own := [2]) (elt := .call jl (.cons (.o2 .idx (.var 0) (.var 2)) (.cons (.o2 .idx (.var 1) (.var 2)) .nil))) (q := .cst (.bool true)) (t := .one 2) (w := .rng (.o1 .len (.var 1))) (ρ := [.tuple ds, .tuple ds, .none]) (b := fun _ => true) (e := fun _ => .bool true)
        (evW_rng ((ev_1 (ev_var (d := .tuple ds) rfl)).trans rfl) hz) (fun k hk => ?_) (by rw [List.length_range]; unfold BIG; omega)
      · rw [ev_1 e2, List.filter_eq_self.mpr fun _ _ => rfl]
        exact all_true _
      · have hlt : k < ds.length := List.mem_range.mp hk
        have hat : o2F .idx (.tuple ds) (natD k) = some ds[k] := atD_nat (List.getElem?_eq_getElem hlt)
        refine ⟨[.tuple ds, .tuple ds, natD k], rfl, ⟨_, ev_cst, rfl⟩, fun _ => ?_⟩
        refine (ev_call (evs_cons ((ev_2 (ev_var (d := .tuple ds) rfl) (ev_var (d := natD k) rfl)).trans hat) (evs_cons ((ev_2 (ev_var (d := .tuple ds) rfl) (ev_var (d := natD k) rfl)).trans hat) evs_nil))).trans ?_
        exact ih _ (hd _ (List.getElem_mem hlt)) _ (by omega)
end Orp

/-! Plain law, part 4: sorting of typed data. -/
namespace Orp
open PySem (PyData)
/-! ### ordered types and their data -/
structure OrdE {α : Type} [DecidableEq α] (enc : α → D) (lt : α → α → Bool) : Prop where
  halk : ∀ a b, alk (enc a) (enc b) = true
  hlt : ∀ a b, ltD (enc a) (enc b) = lt a b
  heqv : ∀ a b, PyData.eqv (enc a) (enc b) = decide (a = b)
  irr : ∀ a, lt a a = false
  trans : ∀ a b c, lt a b = true → lt b c = true → lt a c = true
  total : ∀ a b, lt a b = false → lt b a = false → a = b
section
variable {α β : Type} [DecidableEq α] [DecidableEq β]
def insO (lt : α → α → Bool) (x : α) : List α → List α
  | [] => [x]
  | y :: r => if (!lt y x) = true then x :: y :: r else y :: insO lt x r
def sortO (lt : α → α → Bool) (l : List α) : List α := l.foldr (insO lt) []
variable {enc : α → D} {lt : α → α → Bool} {enc' : β → D} {lt' : β → β → Bool}
theorem insD_map (O : OrdE enc lt) (x : α) : ∀ l : List α, insD (enc x) (l.map enc) = (insO lt x l).map enc
  | [] => rfl
  | y :: r => by
    rw [List.map_cons, insD, insO, leD, O.hlt]
    split
    · rfl
    · rw [List.map_cons, insD_map O x r]
theorem sortD_map (O : OrdE enc lt) : ∀ l : List α, sortD (l.map enc) = (sortO lt l).map enc
  | [] => rfl
  | x :: l => by
    show insD (enc x) (sortD (l.map enc)) = _
    rw [sortD_map O l]
    exact insD_map O x _
theorem insO_perm (x : α) : ∀ l : List α, (insO lt x l).Perm (x :: l)
  | [] => .refl _
  | y :: r => by
    rw [insO]
    split
    · exact .refl _
    · exact ((insO_perm x r).cons y).trans (.swap x y r)
theorem sortO_perm : ∀ l : List α, (sortO lt l).Perm l
  | [] => .nil
  | x :: l => (insO_perm x _).trans ((sortO_perm l).cons x)
theorem le_trans' (O : OrdE enc lt) {a b c : α} (h : lt b a = false) (h2 : lt c b = false) : lt c a = false := by
  cases q : lt c a with
  | false => rfl
  | true =>
    cases r : lt a b with
    | true => rw [O.trans c a b q r] at h2; cases h2
    | false =>
      have e := O.total a b r h
      subst e
      rw [q] at h2
      cases h2
theorem insO_srt (O : OrdE enc lt) (x : α) : ∀ {l : List α}, l.Pairwise (fun a b => lt b a = false) → (insO lt x l).Pairwise (fun a b => lt b a = false)
  | [], _ => List.pairwise_singleton _ _
  | y :: r, h => by
    rw [insO]
    obtain ⟨h1, h2⟩ := List.pairwise_cons.mp h
    split
    · rename_i c
      have c : lt y x = false := by simpa using c
      refine List.pairwise_cons.mpr ⟨fun z hz => ?_, h⟩
      rcases List.mem_cons.mp hz with rfl | hz
      · exact c
      · exact le_trans' O c (h1 z hz)
    · rename_i c
      have c : lt y x = true := by simpa using c
      refine List.pairwise_cons.mpr ⟨fun z hz => ?_, insO_srt O x h2⟩
      rcases List.mem_cons.mp ((insO_perm x r).mem_iff.mp hz) with rfl | hz
      · cases q : lt z y with
        | false => rfl
        | true => exact absurd (O.irr z) (by rw [O.trans _ _ _ q c]; decide)
      · exact h1 z hz
theorem sortO_srt (O : OrdE enc lt) : ∀ l : List α, (sortO lt l).Pairwise (fun a b => lt b a = false)
  | [] => .nil
  | x :: l => insO_srt O x (sortO_srt O l)
/-- strictly in order -/
theorem strict_of (O : OrdE enc lt) {l : List α} (h : l.Pairwise (fun a b => lt b a = false)) (n : l.Nodup) : l.Pairwise (fun a b => lt a b = true) := by
  refine (h.and n).imp fun {a b} ⟨h1, h2⟩ => ?_
  cases q : lt a b with
  | true => rfl
  | false => exact absurd (O.total a b q h1) h2
theorem nodup_of_strict (O : OrdE enc lt) {l : List α} (h : l.Pairwise (fun a b => lt a b = true)) : l.Nodup :=
  h.imp fun {a b} h e => by subst e; rw [O.irr] at h; cases h
/-- there is just one list in strict order of given members -/
theorem strict_uniq (O : OrdE enc lt) : ∀ {l m : List α}, l.Pairwise (fun a b => lt a b = true) → m.Pairwise (fun a b => lt a b = true) → (∀ x, x ∈ l ↔ x ∈ m) → l = m
  | [], [], _, _, _ => rfl
  | [], y :: m, _, _, h => nomatch (h y).mpr List.mem_cons_self
  | x :: l, [], _, _, h => nomatch (h x).mp List.mem_cons_self
  | x :: l, y :: m, hl, hm, h => by
    obtain ⟨l1, l2⟩ := List.pairwise_cons.mp hl
    obtain ⟨m1, m2⟩ := List.pairwise_cons.mp hm
    have e : x = y := by
      rcases List.mem_cons.mp ((h x).mp List.mem_cons_self) with e | hx
      · exact e
      · rcases List.mem_cons.mp ((h y).mpr List.mem_cons_self) with e | hy
        · exact e.symm
        · have := O.trans _ _ _ (l1 y hy) (m1 x hx)
          rw [O.irr] at this
          cases this
    subst e
    refine congrArg (x :: ·) (strict_uniq O l2 m2 fun z => ?_)
    constructor
    · intro hz
      rcases List.mem_cons.mp ((h z).mp (List.mem_cons_of_mem _ hz)) with e | hz'
      · have := l1 z hz
        rw [e, O.irr] at this
        cases this
      · exact hz'
    · intro hz
      rcases List.mem_cons.mp ((h z).mpr (List.mem_cons_of_mem _ hz)) with e | hz'
      · have := m1 z hz
        rw [e, O.irr] at this
        cases this
      · exact hz'
/-- a list in strict order is its own sorting -/
theorem sortO_eq (O : OrdE enc lt) {l m : List α} (hm : m.Pairwise (fun a b => lt a b = true)) (nl : l.Nodup) (h : ∀ x, x ∈ l ↔ x ∈ m) : sortO lt l = m :=
  strict_uniq O (strict_of O (sortO_srt O l) ((sortO_perm l).nodup_iff.mpr nl)) hm fun x => (sortO_perm l).mem_iff.trans (h x)
/-! ### ints, places, lists, pairs -/
theorem ordI : OrdE (fun i : Int => PyData.int i) (fun a b => decide (a < b)) where
  halk _ _ := rfl
  hlt _ _ := rfl
  heqv a b := by
    show (a == b) = _
    rw [Bool.eq_iff_iff]
    simp
  irr a := by simp
  trans a b c h1 h2 := by simp only [decide_eq_true_eq] at *; omega
  total a b h1 h2 := by simp only [decide_eq_false_iff_not] at *; omega
theorem ordN : OrdE natD (fun a b => decide (a < b)) where
  halk _ _ := rfl
  hlt a b := by
    show decide ((a : Int) < b) = _
    rw [Bool.eq_iff_iff]
    simp
  heqv a b := by
    show ((a : Int) == b) = _
    rw [Bool.eq_iff_iff, beq_iff_eq, decide_eq_true_eq]
    omega
  irr a := by simp
  trans a b c h1 h2 := by simp only [decide_eq_true_eq] at *; omega
  total a b h1 h2 := by simp only [decide_eq_false_iff_not] at *; omega
def lexL (lt : α → α → Bool) : List α → List α → Bool
  | [], [] => false
  | [], _ :: _ => true
  | _ :: _, [] => false
  | x :: xs, y :: ys => if x = y then lexL lt xs ys else lt x y
def tupE (enc : α → D) (l : List α) : D := .tuple (l.map enc)
theorem alkAll_map (O : OrdE enc lt) : ∀ a b : List α, alkAll (a.map enc) (b.map enc) = true
  | [], _ => by simp [alkAll]
  | _ :: _, [] => by simp [alkAll]
  | x :: a, y :: b => by rw [List.map_cons, List.map_cons, alkAll, alkAll_map O a b, O.halk]; rfl
theorem eqvAll_map (O : OrdE enc lt) : ∀ a b : List α, PyData.eqvAll (a.map enc) (b.map enc) = decide (a = b)
  | [], [] => by simp [PyData.eqvAll]
  | [], y :: b => by simp [PyData.eqvAll]
  | x :: a, [] => by simp [PyData.eqvAll]
  | x :: a, y :: b => by
    rw [List.map_cons, List.map_cons, PyData.eqvAll, eqvAll_map O a b, O.heqv, ← Bool.decide_and, Bool.eq_iff_iff]
    simp
theorem ltAll_map (O : OrdE enc lt) : ∀ a b : List α, ltAll (a.map enc) (b.map enc) = lexL lt a b
  | [], [] => rfl
  | [], y :: b => rfl
  | x :: a, [] => rfl
  | x :: a, y :: b => by
    rw [List.map_cons, List.map_cons, ltAll, lexL, ltAll_map O a b, O.heqv, O.hlt]
    by_cases h : x = y <;> simp [h]
theorem lexL_irr (O : OrdE enc lt) : ∀ a : List α, lexL lt a a = false
  | [] => rfl
  | x :: a => by rw [lexL, if_pos rfl, lexL_irr O a]
theorem lexL_trans (O : OrdE enc lt) : ∀ a b c : List α, lexL lt a b = true → lexL lt b c = true → lexL lt a c = true
  | [], _, [], _, h => by rename_i b _; cases b <;> simp [lexL] at h
  | [], _, _ :: _, _, _ => rfl
  | _ :: _, [], _, h, _ => by simp [lexL] at h
  | _ :: _, _ :: _, [], _, h => by simp [lexL] at h
  | x :: a, y :: b, z :: c, h, h2 => by
    rw [lexL] at h h2 ⊢
    by_cases e : x = y
    · subst e
      rw [if_pos rfl] at h
      by_cases e2 : x = z
      · subst e2
        rw [if_pos rfl] at h2 ⊢
        exact lexL_trans O a b c h h2
      · rw [if_neg e2] at h2 ⊢
        exact h2
    · rw [if_neg e] at h
      by_cases e2 : y = z
      · subst e2
        rw [if_neg e]
        exact h
      · rw [if_neg e2] at h2
        have h3 := O.trans _ _ _ h h2
        rw [if_neg fun e3 => by rw [e3, O.irr] at h3; cases h3]
        exact h3
theorem lexL_total (O : OrdE enc lt) : ∀ a b : List α, lexL lt a b = false → lexL lt b a = false → a = b
  | [], [], _, _ => rfl
  | [], _ :: _, h, _ => by simp [lexL] at h
  | _ :: _, [], _, h => by simp [lexL] at h
  | x :: a, y :: b, h, h2 => by
    rw [lexL] at h h2
    by_cases e : x = y
    · subst e
      rw [if_pos rfl] at h h2
      rw [lexL_total O a b h h2]
    · rw [if_neg e] at h
      rw [if_neg fun z => e z.symm] at h2
      exact absurd (O.total x y h h2) e
theorem ordL (O : OrdE enc lt) : OrdE (tupE enc) (lexL lt) where
  halk a b := by unfold tupE; rw [alk]; exact alkAll_map O a b
  hlt a b := by unfold tupE; rw [ltD]; exact ltAll_map O a b
  heqv a b := by unfold tupE; rw [PyData.eqv]; exact eqvAll_map O a b
  irr := lexL_irr O
  trans := lexL_trans O
  total := lexL_total O
def lexP (lt : α → α → Bool) (lt' : β → β → Bool) (p q : α × β) : Bool := if p.1 = q.1 then lt' p.2 q.2 else lt p.1 q.1
def pairE (enc : α → D) (enc' : β → D) (p : α × β) : D := .tuple [enc p.1, enc' p.2]
theorem ordP (O : OrdE enc lt) (O' : OrdE enc' lt') : OrdE (pairE enc enc') (lexP lt lt') where
  halk a b := by
    unfold pairE
    simp [alk, alkAll, O.halk, O'.halk]
  hlt a b := by
    unfold pairE lexP
    rw [ltD, ltAll, ltAll, ltAll, O.heqv, O'.heqv, O.hlt, O'.hlt]
    by_cases h : a.1 = b.1
    · by_cases h2 : a.2 = b.2
      · simp [h, h2, O'.irr]
      · simp [h, h2]
    · simp [h]
  heqv a b := by
    unfold pairE
    rw [PyData.eqv, PyData.eqvAll, PyData.eqvAll, PyData.eqvAll, O.heqv, O'.heqv, Bool.and_true, ← Bool.decide_and, Bool.eq_iff_iff, decide_eq_true_eq, decide_eq_true_eq]
    exact ⟨fun h => Prod.ext h.1 h.2, fun h => by rw [h]; exact ⟨rfl, rfl⟩⟩
  irr a := by rw [lexP, if_pos rfl, O'.irr]
  trans a b c h h2 := by
    rw [lexP] at h h2 ⊢
    by_cases e : a.1 = b.1
    · rw [if_pos e] at h
      by_cases e2 : b.1 = c.1
      · rw [if_pos e2] at h2
        rw [if_pos (e.trans e2)]
        exact O'.trans _ _ _ h h2
      · rw [if_neg e2] at h2
        rw [if_neg (e ▸ e2), e]
        exact h2
    · rw [if_neg e] at h
      by_cases e2 : b.1 = c.1
      · rw [← e2, if_neg e]
        exact h
      · rw [if_neg e2] at h2
        have h3 := O.trans _ _ _ h h2
        rw [if_neg fun e3 => by rw [e3, O.irr] at h3; cases h3]
        exact h3
  total a b h h2 := by
    rw [lexP] at h h2
    by_cases e : a.1 = b.1
    · rw [if_pos e] at h
      rw [if_pos e.symm] at h2
      exact Prod.ext e (O'.total _ _ h h2)
    · rw [if_neg e] at h
      rw [if_neg fun z => e z.symm] at h2
      exact absurd (O.total _ _ h h2) e
end
end Orp

/-! The defs of the laws, with the places of the defs that they call as parameters (printed by par.py). -/
namespace Orp
/-- contains: 0 row 1 marks 2 mark -/
def F_contains : Fn := ⟨2, 3, (.cons (.ret (.o1 .all (.comp [2] (.o2 .isIn (.var 2) (.var 0)) (.cons (.one 2) (.dat (.var 1)) (.cst (.bool true)) .nil)))) .nil)⟩
/-- holds: 0 table 1 rule 2 row -/
def F_holds (j_contains : Nat) : Fn := ⟨2, 3, (.cons (.ret (.o1 .all (.comp [2] (.call j_contains (.cons (.var 2) (.cons (.o2 .idx (.var 1) (.cst (natD 1))) .nil))) (.cons (.one 2) (.dat (.var 0)) (.call j_contains (.cons (.var 2) (.cons (.o2 .idx (.var 1) (.cst (natD 0))) .nil))) .nil)))) .nil)⟩
/-- grown: 0 rules 1 marks 2 found 3 more 4 left 5 right -/
def F_grown (j_contains : Nat) : Fn := ⟨2, 6, (.cons (.asg (.one 2) (.o1 .tuple (.o1 .sset (.var 1)))) (.cons (.while_ (.cst (.bool true)) (.cons (.asg (.one 3) (.var 2)) (.cons (.for_ (.tup [4, 5]) (.dat (.var 0)) (.cons (.ite (.call j_contains (.cons (.var 3) (.cons (.var 4) .nil))) (.cons (.asg (.one 3) (.o1 .tuple (.o1 .sset (.o2 .add (.var 3) (.var 5))))) .nil) .nil) .nil) [.sh, .sh, .sh, .sh, .dead, .dead]) (.cons (.ite (.o2 .eq (.var 3) (.var 2)) (.cons (.ret (.var 2)) .nil) .nil) (.cons (.asg (.one 2) (.var 3)) .nil)))) [.sh, .sh, .sh, .dead, .dead, .dead]) .nil))⟩
/-- follows: 0 rules 1 rule -/
def F_follows (j_contains j_grown : Nat) : Fn := ⟨2, 2, (.cons (.ret (.call j_contains (.cons (.call j_grown (.cons (.var 0) (.cons (.o2 .idx (.var 1) (.cst (natD 0))) .nil))) (.cons (.o2 .idx (.var 1) (.cst (natD 1))) .nil)))) .nil)⟩
/-- _law_mixed: 0 script 1 k 2 cell 3 first 4 second 5 third -/
def F__law_mixed : Fn := ⟨2, 6, (.cons (.asg (.one 2) (.cst (natD 0))) (.cons (.ite (.o2 .gt (.o1 .len (.var 0)) (.cst (natD 0))) (.cons (.asg (.one 2) (.o2 .idx (.var 0) (.o2 .mod (.var 1) (.o1 .len (.var 0))))) .nil) .nil) (.cons (.asg (.one 3) (.o2 .mod (.o1 .int (.o2 .add (.o2 .add (.o2 .mul (.var 2) (.cst (natD 48271))) (.o2 .mul (.var 1) (.cst (natD 69621)))) (.cst (natD 8191)))) (.cst (natD 2147483647)))) (.cons (.asg (.one 4) (.o2 .mod (.o1 .int (.o2 .add (.o2 .add (.o2 .mul (.var 3) (.var 3)) (.o2 .fdiv (.var 3) (.cst (natD 7)))) (.o2 .mul (.var 1) (.cst (natD 16807))))) (.cst (natD 2147483629)))) (.cons (.asg (.one 5) (.o2 .mod (.o1 .int (.o2 .add (.o2 .add (.o2 .mul (.var 4) (.var 4)) (.o2 .fdiv (.var 4) (.cst (natD 11)))) (.cst (natD 40692)))) (.cst (natD 2147483563)))) (.cons (.ret (.o2 .mod (.o2 .fdiv (.var 5) (.cst (natD 5))) (.cst (natD 1000003)))) .nil))))))⟩
/-- _law_row: 0 script 1 many 2 big 3 row 4 k -/
def F__law_row (j__law_mixed : Nat) : Fn := ⟨2, 5, (.cons (.asg (.one 2) (.cst (natD 0))) (.cons (.ite (.and (.o2 .gt (.o1 .len (.var 0)) (.cst (natD 0))) (.o2 .ge (.o2 .idx (.var 0) (.cst (natD 0))) (.o2 .pow (.cst (natD 10)) (.cst (natD 18))))) (.cons (.asg (.one 2) (.o2 .idx (.var 0) (.cst (natD 0)))) .nil) .nil) (.cons (.asg (.one 3) (.lst .nil)) (.cons (.for_ (.one 4) (.rng (.var 1)) (.cons (.ite (.o2 .gt (.var 2) (.cst (natD 0))) (.cons (.app 3 (.o2 .mod (.o1 .int (.var 2)) (.cst (natD 1000)))) (.cons (.asg (.one 2) (.o2 .fdiv (.var 2) (.cst (natD 1000)))) .nil)) (.cons (.app 3 (.call j__law_mixed (.cons (.var 0) (.cons (.var 4) .nil)))) .nil)) .nil) [.sh, .sh, .sh, .own, .dead]) (.cons (.frz 3) (.cons (.ret (.var 3)) .nil))))))⟩
/-- _law_is_int: 0 value -/
def F__law_is_int : Fn := ⟨1, 1, (.cons (.ret (.and (.o1 .tInt (.var 0)) (.not (.o1 .tBool (.var 0))))) .nil)⟩
/-- _law_like: 0 value 1 due 2 k -/
def F__law_like (j__law_like j__law_is_int : Nat) : Fn := ⟨2, 3, (.cons (.ite (.o1 .isN (.var 1)) (.cons (.ret (.o1 .isN (.var 0))) .nil) .nil) (.cons (.ite (.o1 .tBool (.var 1)) (.cons (.ret (.and (.o1 .tBool (.var 0)) (.o2 .eq (.var 0) (.var 1)))) .nil) .nil) (.cons (.ite (.o1 .tTuple (.var 1)) (.cons (.ite (.or (.not (.o1 .tTuple (.var 0))) (.o2 .ne (.o1 .len (.var 0)) (.o1 .len (.var 1)))) (.cons (.ret (.cst (.bool false))) .nil) .nil) (.cons (.ret (.o1 .all (.comp [2] (.call j__law_like (.cons (.o2 .idx (.var 0) (.var 2)) (.cons (.o2 .idx (.var 1) (.var 2)) .nil))) (.cons (.one 2) (.rng (.o1 .len (.var 1))) (.cst (.bool true)) .nil)))) .nil)) .nil) (.cons (.ite (.o1 .tStr (.var 1)) (.cons (.ret (.and (.o1 .tStr (.var 0)) (.o2 .eq (.var 0) (.var 1)))) .nil) .nil) (.cons (.ret (.and (.call j__law_is_int (.cons (.var 0) .nil)) (.o2 .eq (.var 0) (.var 1)))) .nil)))))⟩
/-- _law_sets: 0 n 1 bits 2 k -/
def F__law_sets : Fn := ⟨1, 3, (.cons (.ret (.comp [1] (.o1 .tuple (.comp [2] (.var 2) (.cons (.one 2) (.rng (.var 0)) (.o2 .eq (.o2 .band (.o2 .shr (.var 1) (.var 2)) (.cst (natD 1))) (.cst (natD 1))) .nil))) (.cons (.one 1) (.rng (.o2 .shl (.cst (natD 1)) (.var 0))) (.cst (.bool true)) .nil))) .nil)⟩
/-- _law_table: 0 row 1 at 2 found 3 k 4 mark -/
def F__law_table : Fn := ⟨2, 5, (.cons (.asg (.one 2) (.lst .nil)) (.cons (.for_ (.one 3) (.rng (.o2 .add (.cst (natD 1)) (.o2 .mod (.o1 .int (.o2 .idx (.var 0) (.var 1))) (.cst (natD 6))))) (.cons (.app 2 (.o1 .tuple (.comp [4] (.var 4) (.cons (.one 4) (.rng (.cst (natD 6))) (.o2 .gt (.o2 .mod (.o2 .fdiv (.o1 .int (.o2 .idx (.var 0) (.o2 .add (.o2 .add (.var 1) (.cst (natD 1))) (.var 3)))) (.o2 .shl (.cst (natD 1)) (.var 4))) (.o2 .add (.cst (natD 2)) (.o2 .mod (.o1 .int (.o2 .idx (.var 0) (.o2 .add (.var 1) (.cst (natD 7))))) (.cst (natD 2))))) (.cst (natD 0))) .nil)))) .nil) [.sh, .sh, .own, .dead, .dead]) (.cons (.ret (.o1 .tuple (.var 2))) .nil)))⟩
/-- _law_common: 0 table 1 places 2 mark 3 k -/
def F__law_common : Fn := ⟨2, 4, (.cons (.ret (.o1 .tuple (.comp [2] (.var 2) (.cons (.one 2) (.rng (.cst (natD 6))) (.o1 .all (.comp [3] (.o2 .isIn (.var 2) (.o2 .idx (.var 0) (.var 3))) (.cons (.one 3) (.dat (.var 1)) (.cst (.bool true)) .nil))) .nil)))) .nil)⟩
/-- _law_closure: 0 table 1 marks 2 k 3 mark -/
def F__law_closure (j__law_common : Nat) : Fn := ⟨2, 4, (.cons (.ret (.call j__law_common (.cons (.var 0) (.cons (.comp [2] (.var 2) (.cons (.one 2) (.rng (.o1 .len (.var 0))) (.o1 .all (.comp [3] (.o2 .isIn (.var 3) (.o2 .idx (.var 0) (.var 2))) (.cons (.one 3) (.dat (.var 1)) (.cst (.bool true)) .nil))) .nil)) .nil)))) .nil)⟩
/-- _law_keeps: 0 line 1 rule 2 mark -/
def F__law_keeps : Fn := ⟨2, 3, (.cons (.ret (.or (.not (.o1 .all (.comp [2] (.o2 .isIn (.var 2) (.var 0)) (.cons (.one 2) (.dat (.o2 .idx (.var 1) (.cst (natD 0)))) (.cst (.bool true)) .nil)))) (.o1 .all (.comp [2] (.o2 .isIn (.var 2) (.var 0)) (.cons (.one 2) (.dat (.o2 .idx (.var 1) (.cst (natD 1)))) (.cst (.bool true)) .nil))))) .nil)⟩
/-- _law_grown: 0 rules 1 marks 2 found 3 turn 4 left 5 right 6 mark -/
def F__law_grown : Fn := ⟨2, 7, (.cons (.asg (.one 2) (.o1 .sset (.var 1))) (.cons (.for_ (.one 3) (.rng (.cst (natD 7))) (.cons (.for_ (.tup [4, 5]) (.dat (.var 0)) (.cons (.ite (.o1 .all (.comp [6] (.o2 .isIn (.var 6) (.var 2)) (.cons (.one 6) (.dat (.var 4)) (.cst (.bool true)) .nil))) (.cons (.asg (.one 2) (.o1 .sset (.o2 .add (.var 2) (.o1 .list (.var 5))))) .nil) .nil) .nil) [.sh, .sh, .own, .sh, .dead, .dead, .dead]) .nil) [.sh, .sh, .own, .dead, .dead, .dead, .dead]) (.cons (.ret (.o1 .tuple (.var 2))) .nil)))⟩
/-- law: 0 script 1 row 2 table 3 sets 4 rules 5 k 6 left 7 rule 8 one 9 due 10 within 11 whole 12 lines 13 mark 14 line -/
def F_law_k20 (j__law_row j__law_table j__law_sets j__law_grown j__law_keeps j__law_closure j__law_like j_holds j_grown j_follows : Nat) : Fn := ⟨1, 15, (.cons (.asg (.one 1) (.call j__law_row (.cons (.var 0) (.cons (.cst (natD 60)) .nil)))) (.cons (.asg (.one 2) (.call j__law_table (.cons (.var 1) (.cons (.cst (natD 0)) .nil)))) (.cons (.asg (.one 3) (.call j__law_sets (.cons (.cst (natD 6)) .nil))) (.cons (.asg (.one 4) (.lst .nil)) (.cons (.for_ (.one 5) (.rng (.o2 .mod (.o1 .int (.o2 .idx (.var 1) (.cst (natD 10)))) (.cst (natD 5)))) (.cons (.asg (.one 6) (.o1 .tuple (.comp [13] (.var 13) (.cons (.one 13) (.dat (.o2 .idx (.var 3) (.o2 .mod (.o1 .int (.o2 .idx (.var 1) (.o2 .add (.cst (natD 11)) (.o2 .mul (.cst (natD 2)) (.var 5))))) (.cst (natD 64))))) (.o2 .eq (.o2 .mod (.o2 .fdiv (.o1 .int (.o2 .idx (.var 1) (.cst (natD 20)))) (.o2 .shl (.cst (natD 1)) (.o2 .add (.var 13) (.var 5)))) (.cst (natD 2))) (.cst (natD 1))) .nil)))) (.cons (.app 4 (.tup (.cons (.var 6) (.cons (.o2 .idx (.var 3) (.o2 .mod (.o1 .int (.o2 .idx (.var 1) (.o2 .add (.cst (natD 12)) (.o2 .mul (.cst (natD 2)) (.var 5))))) (.cst (natD 64)))) .nil)))) .nil)) [.sh, .sh, .sh, .sh, .own, .dead, .dead, .dead, .dead, .dead, .dead, .dead, .dead, .dead, .dead]) (.cons (.asg (.one 7) (.tup (.cons (.o2 .idx (.var 3) (.o2 .mod (.o1 .int (.o2 .idx (.var 1) (.cst (natD 30)))) (.cst (natD 64)))) (.cons (.o2 .idx (.var 3) (.o2 .mod (.o1 .int (.o2 .idx (.var 1) (.cst (natD 31)))) (.cst (natD 64)))) .nil)))) (.cons (.ite (.o2 .eq (.o2 .mod (.o2 .idx (.var 1) (.cst (natD 32))) (.cst (natD 2))) (.cst (natD 1))) (.cons (.frz 4) (.cons (.asg (.one 7) (.tup (.cons (.o2 .idx (.var 7) (.cst (natD 0))) (.cons (.o2 .from_ (.call j__law_grown (.cons (.var 4) (.cons (.o2 .idx (.var 7) (.cst (natD 0))) .nil))) (.o2 .mod (.o1 .int (.o2 .idx (.var 1) (.cst (natD 33)))) (.cst (natD 3)))) .nil)))) .nil)) (.cons (.frz 4) .nil)) (.cons (.for_ (.one 8) (.dat (.o2 .add (.var 4) (.lst (.cons (.var 7) .nil)))) (.cons (.asg (.one 9) (.o1 .all (.comp [14] (.call j__law_keeps (.cons (.var 14) (.cons (.var 8) .nil))) (.cons (.one 14) (.dat (.var 2)) (.cst (.bool true)) .nil)))) (.cons (.asg (.one 10) (.o1 .all (.comp [13] (.o2 .isIn (.var 13) (.call j__law_closure (.cons (.var 2) (.cons (.o2 .idx (.var 8) (.cst (natD 0))) .nil)))) (.cons (.one 13) (.dat (.o2 .idx (.var 8) (.cst (natD 1)))) (.cst (.bool true)) .nil)))) (.cons (.ite (.or (.o2 .ne (.var 9) (.var 10)) (.not (.call j__law_like (.cons (.call j_holds (.cons (.var 2) (.cons (.var 8) .nil))) (.cons (.var 9) .nil))))) (.cons (.ret (.cst (.bool false))) .nil) .nil) .nil))) [.sh, .sh, .sh, .sh, .sh, .dead, .dead, .sh, .dead, .dead, .dead, .dead, .dead, .dead, .dead]) (.cons (.asg (.one 11) (.call j__law_grown (.cons (.var 4) (.cons (.o2 .idx (.var 7) (.cst (natD 0))) .nil)))) (.cons (.ite (.not (.call j__law_like (.cons (.call j_grown (.cons (.o1 .tuple (.var 4)) (.cons (.o2 .idx (.var 7) (.cst (natD 0))) .nil))) (.cons (.var 11) .nil)))) (.cons (.ret (.cst (.bool false))) .nil) .nil) (.cons (.asg (.one 9) (.o1 .all (.comp [13] (.o2 .isIn (.var 13) (.var 11)) (.cons (.one 13) (.dat (.o2 .idx (.var 7) (.cst (natD 1)))) (.cst (.bool true)) .nil)))) (.cons (.ite (.not (.call j__law_like (.cons (.call j_follows (.cons (.o1 .tuple (.var 4)) (.cons (.var 7) .nil))) (.cons (.var 9) .nil)))) (.cons (.ret (.cst (.bool false))) .nil) .nil) (.cons (.ite (.not (.var 9)) (.cons (.ret (.and (.o1 .isF (.call j_holds (.cons (.tup (.cons (.var 11) .nil)) (.cons (.var 7) .nil)))) (.o1 .all (.comp [8] (.o1 .isT (.call j_holds (.cons (.tup (.cons (.var 11) .nil)) (.cons (.var 8) .nil)))) (.cons (.one 8) (.dat (.var 4)) (.cst (.bool true)) .nil))))) .nil) .nil) (.cons (.asg (.one 12) (.comp [5] (.call j__law_grown (.cons (.var 4) (.cons (.o2 .idx (.var 3) (.o2 .mod (.o1 .int (.o2 .idx (.var 1) (.o2 .add (.cst (natD 40)) (.var 5)))) (.cst (natD 64)))) .nil))) (.cons (.one 5) (.rng (.cst (natD 6))) (.cst (.bool true)) .nil))) (.cons (.ret (.o1 .isT (.call j_holds (.cons (.o1 .tuple (.var 12)) (.cons (.var 7) .nil))))) .nil)))))))))))))))⟩
/-- is_before: 0 order 1 first 2 second -/
def F_is_before : Fn := ⟨3, 3, (.cons (.ret (.o2 .isIn (.tup (.cons (.var 1) (.cons (.var 2) .nil))) (.o2 .idx (.var 0) (.cst (natD 1))))) .nil)⟩
/-- is_at_most: 0 order 1 first 2 second -/
def F_is_at_most (j_is_before : Nat) : Fn := ⟨3, 3, (.cons (.ret (.or (.o2 .eq (.var 1) (.var 2)) (.call j_is_before (.cons (.var 0) (.cons (.var 1) (.cons (.var 2) .nil)))))) .nil)⟩
/-- join: 0 order 1 first 2 second 3 above 4 least 5 thing 6 other -/
def F_join (j_is_at_most : Nat) : Fn := ⟨3, 7, (.cons (.asg (.one 3) (.comp [5] (.var 5) (.cons (.one 5) (.rng (.o2 .idx (.var 0) (.cst (natD 0)))) (.and (.call j_is_at_most (.cons (.var 0) (.cons (.var 1) (.cons (.var 5) .nil)))) (.call j_is_at_most (.cons (.var 0) (.cons (.var 2) (.cons (.var 5) .nil))))) .nil))) (.cons (.asg (.one 4) (.comp [5] (.var 5) (.cons (.one 5) (.dat (.var 3)) (.o1 .all (.comp [6] (.call j_is_at_most (.cons (.var 0) (.cons (.var 5) (.cons (.var 6) .nil)))) (.cons (.one 6) (.dat (.var 3)) (.cst (.bool true)) .nil))) .nil))) (.cons (.ret (.ite (.var 4) (.o2 .idx (.var 4) (.cst (natD 0))) (.cst (.none)))) .nil)))⟩
/-- meet: 0 order 1 first 2 second 3 below 4 greatest 5 thing 6 other -/
def F_meet (j_is_at_most : Nat) : Fn := ⟨3, 7, (.cons (.asg (.one 3) (.comp [5] (.var 5) (.cons (.one 5) (.rng (.o2 .idx (.var 0) (.cst (natD 0)))) (.and (.call j_is_at_most (.cons (.var 0) (.cons (.var 5) (.cons (.var 1) .nil)))) (.call j_is_at_most (.cons (.var 0) (.cons (.var 5) (.cons (.var 2) .nil))))) .nil))) (.cons (.asg (.one 4) (.comp [5] (.var 5) (.cons (.one 5) (.dat (.var 3)) (.o1 .all (.comp [6] (.call j_is_at_most (.cons (.var 0) (.cons (.var 6) (.cons (.var 5) .nil)))) (.cons (.one 6) (.dat (.var 3)) (.cst (.bool true)) .nil))) .nil))) (.cons (.ret (.ite (.var 4) (.o2 .idx (.var 4) (.cst (natD 0))) (.cst (.none)))) .nil)))⟩
/-- is_lattice: 0 order 1 one 2 other -/
def F_is_lattice (j_join j_meet : Nat) : Fn := ⟨1, 3, (.cons (.ret (.o1 .all (.comp [1, 2] (.and (.o1 .notN (.call j_join (.cons (.var 0) (.cons (.var 1) (.cons (.var 2) .nil))))) (.o1 .notN (.call j_meet (.cons (.var 0) (.cons (.var 1) (.cons (.var 2) .nil)))))) (.cons (.one 1) (.rng (.o2 .idx (.var 0) (.cst (natD 0)))) (.cst (.bool true)) (.cons (.one 2) (.rng (.var 1)) (.cst (.bool true)) .nil))))) .nil)⟩
/-- _law_closed: 0 n 1 pairs 2 known 3 middle 4 lower 5 upper 6 x 7 y -/
def F__law_closed : Fn := ⟨2, 8, (.cons (.asg (.one 2) (.comp [6, 7] (.tup (.cons (.var 6) (.cons (.var 7) .nil))) (.cons (.tup [6, 7]) (.dat (.var 1)) (.cst (.bool true)) .nil))) (.cons (.for_ (.one 3) (.rng (.var 0)) (.cons (.asg (.one 4) (.comp [6, 7] (.var 6) (.cons (.tup [6, 7]) (.dat (.var 2)) (.o2 .eq (.var 7) (.var 3)) .nil))) (.cons (.asg (.one 5) (.comp [6, 7] (.var 7) (.cons (.tup [6, 7]) (.dat (.var 2)) (.o2 .eq (.var 6) (.var 3)) .nil))) (.cons (.for_ (.one 6) (.dat (.var 4)) (.cons (.ext 2 (.comp [7] (.tup (.cons (.var 6) (.cons (.var 7) .nil))) (.cons (.one 7) (.dat (.var 5)) (.o2 .notIn (.tup (.cons (.var 6) (.cons (.var 7) .nil))) (.var 2)) .nil))) .nil) [.sh, .sh, .own, .sh, .lck, .own, .dead, .dead]) .nil))) [.sh, .sh, .own, .dead, .dead, .dead, .dead, .dead]) (.cons (.ret (.o1 .tuple (.o1 .sset (.var 2)))) .nil)))⟩
/-- _law_order: 0 row 1 at 2 things 3 n 4 names 5 left 6 k 7 name 8 many 9 pairs 10 one 11 j -/
def F__law_order (j__law_closed : Nat) : Fn := ⟨3, 12, (.cons (.asg (.one 3) (.o2 .add (.cst (natD 1)) (.o2 .mod (.o1 .int (.o2 .idx (.var 0) (.var 1))) (.var 2)))) (.cons (.asg (.one 4) (.lst .nil)) (.cons (.asg (.one 5) (.rgl false (.cst (.int 0)) (.var 3))) (.cons (.for_ (.one 6) (.rng (.var 3)) (.cons (.asg (.one 7) (.o2 .idx (.var 5) (.o2 .mod (.o1 .int (.o2 .idx (.var 0) (.o2 .add (.o2 .add (.var 1) (.cst (natD 1))) (.var 6)))) (.o1 .len (.var 5))))) (.cons (.app 4 (.var 7)) (.cons (.asg (.one 5) (.comp [10] (.var 10) (.cons (.one 10) (.dat (.var 5)) (.o2 .ne (.var 10) (.var 7)) .nil))) .nil))) [.sh, .sh, .sh, .sh, .own, .own, .dead, .dead, .dead, .dead, .dead, .dead]) (.cons (.asg (.one 8) (.o2 .idx (.tup (.cons (.cst (natD 6)) (.cons (.cst (natD 4)) (.cons (.cst (natD 3)) (.cons (.cst (natD 2)) (.cons (.cst (natD 9)) .nil)))))) (.o2 .mod (.o1 .int (.o2 .idx (.var 0) (.o2 .add (.var 1) (.cst (natD 8))))) (.cst (natD 5))))) (.cons (.asg (.one 9) (.lst .nil)) (.cons (.for_ (.one 6) (.rng (.var 3)) (.cons (.ext 9 (.comp [11] (.tup (.cons (.o2 .idx (.var 4) (.var 6)) (.cons (.o2 .idx (.var 4) (.var 11)) .nil))) (.cons (.one 11) (.rng2 (.o2 .add (.var 6) (.cst (natD 1))) (.var 3)) (.o2 .eq (.o2 .mod (.o2 .fdiv (.o1 .int (.o2 .idx (.var 0) (.o2 .add (.o2 .add (.var 1) (.cst (natD 9))) (.var 6)))) (.o2 .shl (.cst (natD 1)) (.o2 .mul (.cst (natD 2)) (.o2 .sub (.var 11) (.var 6))))) (.var 8)) (.cst (natD 0))) .nil))) .nil) [.sh, .sh, .sh, .sh, .own, .own, .dead, .dead, .sh, .own, .dead, .dead]) (.cons (.frz 9) (.cons (.ret (.tup (.cons (.var 3) (.cons (.call j__law_closed (.cons (.var 3) (.cons (.var 9) .nil))) .nil)))) .nil)))))))))⟩
/-- _law_join: 0 order 1 x 2 y 3 above 4 least 5 z 6 one -/
def F__law_join : Fn := ⟨3, 7, (.cons (.asg (.one 3) (.comp [5] (.var 5) (.cons (.one 5) (.rng (.o2 .idx (.var 0) (.cst (natD 0)))) (.and (.or (.o2 .eq (.var 5) (.var 1)) (.o2 .isIn (.tup (.cons (.var 1) (.cons (.var 5) .nil))) (.o2 .idx (.var 0) (.cst (natD 1))))) (.or (.o2 .eq (.var 5) (.var 2)) (.o2 .isIn (.tup (.cons (.var 2) (.cons (.var 5) .nil))) (.o2 .idx (.var 0) (.cst (natD 1)))))) .nil))) (.cons (.asg (.one 4) (.comp [5] (.var 5) (.cons (.one 5) (.dat (.var 3)) (.o1 .all (.comp [6] (.or (.o2 .eq (.var 6) (.var 5)) (.o2 .isIn (.tup (.cons (.var 5) (.cons (.var 6) .nil))) (.o2 .idx (.var 0) (.cst (natD 1))))) (.cons (.one 6) (.dat (.var 3)) (.cst (.bool true)) .nil))) .nil))) (.cons (.ite (.o2 .eq (.o1 .len (.var 4)) (.cst (natD 0))) (.cons (.ret (.cst (.none))) .nil) .nil) (.cons (.ret (.o2 .idx (.var 4) (.cst (natD 0)))) .nil))))⟩
/-- _law_meet: 0 order 1 x 2 y 3 below 4 most 5 z 6 one -/
def F__law_meet : Fn := ⟨3, 7, (.cons (.asg (.one 3) (.comp [5] (.var 5) (.cons (.one 5) (.rng (.o2 .idx (.var 0) (.cst (natD 0)))) (.and (.or (.o2 .eq (.var 5) (.var 1)) (.o2 .isIn (.tup (.cons (.var 5) (.cons (.var 1) .nil))) (.o2 .idx (.var 0) (.cst (natD 1))))) (.or (.o2 .eq (.var 5) (.var 2)) (.o2 .isIn (.tup (.cons (.var 5) (.cons (.var 2) .nil))) (.o2 .idx (.var 0) (.cst (natD 1)))))) .nil))) (.cons (.asg (.one 4) (.comp [5] (.var 5) (.cons (.one 5) (.dat (.var 3)) (.o1 .all (.comp [6] (.or (.o2 .eq (.var 6) (.var 5)) (.o2 .isIn (.tup (.cons (.var 6) (.cons (.var 5) .nil))) (.o2 .idx (.var 0) (.cst (natD 1))))) (.cons (.one 6) (.dat (.var 3)) (.cst (.bool true)) .nil))) .nil))) (.cons (.ite (.o2 .eq (.o1 .len (.var 4)) (.cst (natD 0))) (.cons (.ret (.cst (.none))) .nil) .nil) (.cons (.ret (.o2 .idx (.var 4) (.cst (natD 0)))) .nil))))⟩
/-- _law_is_lattice: 0 order 1 x 2 y -/
def F__law_is_lattice (j__law_join j__law_meet : Nat) : Fn := ⟨1, 3, (.cons (.for_ (.one 1) (.rng (.o2 .idx (.var 0) (.cst (natD 0)))) (.cons (.for_ (.one 2) (.rng (.var 1)) (.cons (.ite (.or (.o1 .isN (.call j__law_join (.cons (.var 0) (.cons (.var 1) (.cons (.var 2) .nil))))) (.o1 .isN (.call j__law_meet (.cons (.var 0) (.cons (.var 1) (.cons (.var 2) .nil)))))) (.cons (.ret (.cst (.bool false))) .nil) .nil) .nil) [.sh, .sh, .dead]) .nil) [.sh, .dead, .dead]) (.cons (.ret (.cst (.bool true))) .nil))⟩
/-- _law_lattice: 0 row 1 at 2 kinds 3 pairs 4 n 5 names 6 left 7 k 8 name 9 x 10 y 11 one -/
def F__law_lattice (j__law_closed : Nat) : Fn := ⟨2, 12, (.cons (.asg (.one 2) (.tup (.cons (.tup (.cons (.tup (.cons (.cst (natD 0)) (.cons (.cst (natD 1)) .nil))) (.cons (.tup (.cons (.cst (natD 1)) (.cons (.cst (natD 2)) .nil))) .nil))) (.cons (.tup (.cons (.tup (.cons (.cst (natD 0)) (.cons (.cst (natD 1)) .nil))) (.cons (.tup (.cons (.cst (natD 0)) (.cons (.cst (natD 2)) .nil))) (.cons (.tup (.cons (.cst (natD 1)) (.cons (.cst (natD 3)) .nil))) (.cons (.tup (.cons (.cst (natD 2)) (.cons (.cst (natD 3)) .nil))) .nil))))) (.cons (.tup (.cons (.tup (.cons (.cst (natD 0)) (.cons (.cst (natD 1)) .nil))) (.cons (.tup (.cons (.cst (natD 0)) (.cons (.cst (natD 2)) .nil))) (.cons (.tup (.cons (.cst (natD 0)) (.cons (.cst (natD 3)) .nil))) (.cons (.tup (.cons (.cst (natD 1)) (.cons (.cst (natD 4)) .nil))) (.cons (.tup (.cons (.cst (natD 2)) (.cons (.cst (natD 4)) .nil))) (.cons (.tup (.cons (.cst (natD 3)) (.cons (.cst (natD 4)) .nil))) .nil))))))) (.cons (.tup (.cons (.tup (.cons (.cst (natD 0)) (.cons (.cst (natD 1)) .nil))) (.cons (.tup (.cons (.cst (natD 1)) (.cons (.cst (natD 2)) .nil))) (.cons (.tup (.cons (.cst (natD 0)) (.cons (.cst (natD 3)) .nil))) (.cons (.tup (.cons (.cst (natD 2)) (.cons (.cst (natD 4)) .nil))) (.cons (.tup (.cons (.cst (natD 3)) (.cons (.cst (natD 4)) .nil))) .nil)))))) (.cons (.tup (.cons (.tup (.cons (.cst (natD 0)) (.cons (.cst (natD 1)) .nil))) (.cons (.tup (.cons (.cst (natD 0)) (.cons (.cst (natD 2)) .nil))) (.cons (.tup (.cons (.cst (natD 1)) (.cons (.cst (natD 3)) .nil))) (.cons (.tup (.cons (.cst (natD 2)) (.cons (.cst (natD 3)) .nil))) (.cons (.tup (.cons (.cst (natD 3)) (.cons (.cst (natD 4)) .nil))) .nil)))))) (.cons (.tup (.cons (.tup (.cons (.cst (natD 0)) (.cons (.cst (natD 1)) .nil))) (.cons (.tup (.cons (.cst (natD 1)) (.cons (.cst (natD 2)) .nil))) (.cons (.tup (.cons (.cst (natD 1)) (.cons (.cst (natD 3)) .nil))) (.cons (.tup (.cons (.cst (natD 2)) (.cons (.cst (natD 4)) .nil))) (.cons (.tup (.cons (.cst (natD 3)) (.cons (.cst (natD 4)) .nil))) .nil)))))) (.cons (.tup (.cons (.tup (.cons (.cst (natD 0)) (.cons (.cst (natD 1)) .nil))) (.cons (.tup (.cons (.cst (natD 0)) (.cons (.cst (natD 2)) .nil))) (.cons (.tup (.cons (.cst (natD 1)) (.cons (.cst (natD 3)) .nil))) (.cons (.tup (.cons (.cst (natD 2)) (.cons (.cst (natD 3)) .nil))) (.cons (.tup (.cons (.cst (natD 3)) (.cons (.cst (natD 4)) .nil))) (.cons (.tup (.cons (.cst (natD 3)) (.cons (.cst (natD 5)) .nil))) (.cons (.tup (.cons (.cst (natD 4)) (.cons (.cst (natD 6)) .nil))) (.cons (.tup (.cons (.cst (natD 5)) (.cons (.cst (natD 6)) .nil))) .nil))))))))) (.cons (.tup (.cons (.tup (.cons (.cst (natD 0)) (.cons (.cst (natD 1)) .nil))) (.cons (.tup (.cons (.cst (natD 0)) (.cons (.cst (natD 2)) .nil))) (.cons (.tup (.cons (.cst (natD 1)) (.cons (.cst (natD 3)) .nil))) (.cons (.tup (.cons (.cst (natD 2)) (.cons (.cst (natD 3)) .nil))) (.cons (.tup (.cons (.cst (natD 2)) (.cons (.cst (natD 4)) .nil))) (.cons (.tup (.cons (.cst (natD 3)) (.cons (.cst (natD 5)) .nil))) (.cons (.tup (.cons (.cst (natD 4)) (.cons (.cst (natD 5)) .nil))) .nil)))))))) (.cons (.tup (.cons (.tup (.cons (.cst (natD 0)) (.cons (.cst (natD 1)) .nil))) (.cons (.tup (.cons (.cst (natD 0)) (.cons (.cst (natD 2)) .nil))) (.cons (.tup (.cons (.cst (natD 0)) (.cons (.cst (natD 3)) .nil))) (.cons (.tup (.cons (.cst (natD 1)) (.cons (.cst (natD 4)) .nil))) (.cons (.tup (.cons (.cst (natD 2)) (.cons (.cst (natD 4)) .nil))) (.cons (.tup (.cons (.cst (natD 3)) (.cons (.cst (natD 5)) .nil))) (.cons (.tup (.cons (.cst (natD 4)) (.cons (.cst (natD 5)) .nil))) .nil)))))))) (.cons (.tup (.cons (.tup (.cons (.cst (natD 0)) (.cons (.cst (natD 1)) .nil))) (.cons (.tup (.cons (.cst (natD 0)) (.cons (.cst (natD 2)) .nil))) (.cons (.tup (.cons (.cst (natD 1)) (.cons (.cst (natD 3)) .nil))) (.cons (.tup (.cons (.cst (natD 1)) (.cons (.cst (natD 4)) .nil))) (.cons (.tup (.cons (.cst (natD 2)) (.cons (.cst (natD 4)) .nil))) (.cons (.tup (.cons (.cst (natD 3)) (.cons (.cst (natD 5)) .nil))) (.cons (.tup (.cons (.cst (natD 4)) (.cons (.cst (natD 5)) .nil))) .nil)))))))) (.cons (.tup (.cons (.tup (.cons (.cst (natD 0)) (.cons (.cst (natD 1)) .nil))) (.cons (.tup (.cons (.cst (natD 0)) (.cons (.cst (natD 2)) .nil))) (.cons (.tup (.cons (.cst (natD 0)) (.cons (.cst (natD 3)) .nil))) (.cons (.tup (.cons (.cst (natD 0)) (.cons (.cst (natD 4)) .nil))) (.cons (.tup (.cons (.cst (natD 1)) (.cons (.cst (natD 5)) .nil))) (.cons (.tup (.cons (.cst (natD 2)) (.cons (.cst (natD 5)) .nil))) (.cons (.tup (.cons (.cst (natD 3)) (.cons (.cst (natD 5)) .nil))) (.cons (.tup (.cons (.cst (natD 4)) (.cons (.cst (natD 5)) .nil))) .nil))))))))) (.cons (.tup (.cons (.tup (.cons (.cst (natD 0)) (.cons (.cst (natD 1)) .nil))) .nil)) (.cons (.tup (.cons (.tup (.cons (.cst (natD 0)) (.cons (.cst (natD 1)) .nil))) (.cons (.tup (.cons (.cst (natD 0)) (.cons (.cst (natD 2)) .nil))) (.cons (.tup (.cons (.cst (natD 0)) (.cons (.cst (natD 3)) .nil))) (.cons (.tup (.cons (.cst (natD 1)) (.cons (.cst (natD 4)) .nil))) (.cons (.tup (.cons (.cst (natD 2)) (.cons (.cst (natD 4)) .nil))) (.cons (.tup (.cons (.cst (natD 3)) (.cons (.cst (natD 4)) .nil))) (.cons (.tup (.cons (.cst (natD 4)) (.cons (.cst (natD 5)) .nil))) .nil)))))))) (.cons (.tup (.cons (.tup (.cons (.cst (natD 0)) (.cons (.cst (natD 1)) .nil))) (.cons (.tup (.cons (.cst (natD 1)) (.cons (.cst (natD 2)) .nil))) (.cons (.tup (.cons (.cst (natD 2)) (.cons (.cst (natD 3)) .nil))) (.cons (.tup (.cons (.cst (natD 0)) (.cons (.cst (natD 4)) .nil))) (.cons (.tup (.cons (.cst (natD 3)) (.cons (.cst (natD 5)) .nil))) (.cons (.tup (.cons (.cst (natD 4)) (.cons (.cst (natD 5)) .nil))) .nil))))))) (.cons (.tup (.cons (.tup (.cons (.cst (natD 0)) (.cons (.cst (natD 1)) .nil))) (.cons (.tup (.cons (.cst (natD 1)) (.cons (.cst (natD 2)) .nil))) (.cons (.tup (.cons (.cst (natD 2)) (.cons (.cst (natD 3)) .nil))) (.cons (.tup (.cons (.cst (natD 3)) (.cons (.cst (natD 4)) .nil))) (.cons (.tup (.cons (.cst (natD 4)) (.cons (.cst (natD 5)) .nil))) (.cons (.tup (.cons (.cst (natD 5)) (.cons (.cst (natD 6)) .nil))) .nil))))))) (.cons (.tup (.cons (.tup (.cons (.cst (natD 0)) (.cons (.cst (natD 1)) .nil))) (.cons (.tup (.cons (.cst (natD 0)) (.cons (.cst (natD 2)) .nil))) (.cons (.tup (.cons (.cst (natD 0)) (.cons (.cst (natD 3)) .nil))) (.cons (.tup (.cons (.cst (natD 1)) (.cons (.cst (natD 4)) .nil))) (.cons (.tup (.cons (.cst (natD 2)) (.cons (.cst (natD 4)) .nil))) (.cons (.tup (.cons (.cst (natD 2)) (.cons (.cst (natD 5)) .nil))) (.cons (.tup (.cons (.cst (natD 3)) (.cons (.cst (natD 5)) .nil))) (.cons (.tup (.cons (.cst (natD 4)) (.cons (.cst (natD 6)) .nil))) (.cons (.tup (.cons (.cst (natD 5)) (.cons (.cst (natD 6)) .nil))) .nil)))))))))) .nil)))))))))))))))))) (.cons (.asg (.one 3) (.o2 .idx (.var 2) (.o2 .mod (.o1 .int (.o2 .idx (.var 0) (.var 1))) (.cst (natD 16))))) (.cons (.asg (.one 4) (.o2 .add (.cst (natD 1)) (.o1 .max (.comp [9, 10] (.var 10) (.cons (.tup [9, 10]) (.dat (.var 3)) (.cst (.bool true)) .nil))))) (.cons (.asg (.one 5) (.lst .nil)) (.cons (.asg (.one 6) (.rgl false (.cst (.int 0)) (.var 4))) (.cons (.for_ (.one 7) (.rng (.var 4)) (.cons (.asg (.one 8) (.o2 .idx (.var 6) (.o2 .mod (.o1 .int (.o2 .idx (.var 0) (.o2 .add (.o2 .add (.var 1) (.cst (natD 1))) (.var 7)))) (.o1 .len (.var 6))))) (.cons (.app 5 (.var 8)) (.cons (.asg (.one 6) (.comp [11] (.var 11) (.cons (.one 11) (.dat (.var 6)) (.o2 .ne (.var 11) (.var 8)) .nil))) .nil))) [.sh, .sh, .sh, .sh, .sh, .own, .own, .dead, .dead, .dead, .dead, .dead]) (.cons (.ret (.tup (.cons (.var 4) (.cons (.call j__law_closed (.cons (.var 4) (.cons (.comp [9, 10] (.tup (.cons (.o2 .idx (.var 5) (.var 9)) (.cons (.o2 .idx (.var 5) (.var 10)) .nil))) (.cons (.tup [9, 10]) (.dat (.var 3)) (.cst (.bool true)) .nil)) .nil))) .nil)))) .nil)))))))⟩
/-- law: 0 script 1 row 2 order 3 n 4 k 5 x 6 y -/
def F_law_k15 (j__law_row j__law_order j__law_lattice j__law_like j_join j__law_join j_meet j__law_meet j_is_lattice j__law_is_lattice : Nat) : Fn := ⟨1, 7, (.cons (.asg (.one 1) (.call j__law_row (.cons (.var 0) (.cons (.cst (natD 30)) .nil)))) (.cons (.asg (.one 2) (.call j__law_order (.cons (.var 1) (.cons (.cst (natD 0)) (.cons (.cst (natD 7)) .nil))))) (.cons (.ite (.o2 .eq (.o2 .mod (.o2 .idx (.var 1) (.cst (natD 20))) (.cst (natD 2))) (.cst (natD 1))) (.cons (.asg (.one 2) (.call j__law_lattice (.cons (.var 1) (.cons (.cst (natD 0)) .nil)))) .nil) .nil) (.cons (.asg (.one 3) (.o2 .idx (.var 2) (.cst (natD 0)))) (.cons (.for_ (.one 4) (.rng (.cst (natD 4))) (.cons (.par [5, 6] (.cons (.o2 .mod (.o1 .int (.o2 .idx (.var 1) (.o2 .add (.cst (natD 21)) (.var 4)))) (.var 3)) (.cons (.o2 .mod (.o1 .int (.o2 .idx (.var 1) (.o2 .add (.cst (natD 25)) (.var 4)))) (.var 3)) .nil))) (.cons (.ite (.not (.call j__law_like (.cons (.call j_join (.cons (.var 2) (.cons (.var 5) (.cons (.var 6) .nil)))) (.cons (.call j__law_join (.cons (.var 2) (.cons (.var 5) (.cons (.var 6) .nil)))) .nil)))) (.cons (.ret (.cst (.bool false))) .nil) .nil) (.cons (.ite (.not (.call j__law_like (.cons (.call j_meet (.cons (.var 2) (.cons (.var 5) (.cons (.var 6) .nil)))) (.cons (.call j__law_meet (.cons (.var 2) (.cons (.var 5) (.cons (.var 6) .nil)))) .nil)))) (.cons (.ret (.cst (.bool false))) .nil) .nil) .nil))) [.sh, .sh, .sh, .sh, .dead, .dead, .dead]) (.cons (.ret (.call j__law_like (.cons (.call j_is_lattice (.cons (.var 2) .nil)) (.cons (.call j__law_is_lattice (.cons (.var 2) .nil)) .nil)))) .nil))))))⟩
/-- parts_of: 0 members 1 parts 2 member 3 part -/
def F_parts_of : Fn := ⟨1, 4, (.cons (.asg (.one 1) (.lst (.cons (.tup .nil) .nil))) (.cons (.frz 1) (.cons (.for_ (.one 2) (.dat (.var 0)) (.cons (.asg (.one 1) (.o2 .add (.var 1) (.comp [3] (.o2 .add (.var 3) (.tup (.cons (.var 2) .nil))) (.cons (.one 3) (.dat (.var 1)) (.cst (.bool true)) .nil)))) .nil) [.sh, .sh, .dead, .dead]) (.cons (.ret (.o1 .sorted (.var 1))) .nil))))⟩
/-- before_set: 0 order 1 thing 2 first 3 second -/
def F_before_set : Fn := ⟨2, 4, (.cons (.ret (.o1 .tuple (.comp [2, 3] (.var 2) (.cons (.tup [2, 3]) (.dat (.o2 .idx (.var 0) (.cst (natD 1)))) (.o2 .eq (.var 3) (.var 1)) .nil)))) .nil)⟩
/-- down_sets: 0 order 1 part 2 thing 3 other -/
def F_down_sets (j_parts_of j_before_set : Nat) : Fn := ⟨1, 4, (.cons (.ret (.o1 .tuple (.comp [1] (.var 1) (.cons (.one 1) (.dat (.call j_parts_of (.cons (.rgl true (.cst (.int 0)) (.o2 .idx (.var 0) (.cst (natD 0)))) .nil))) (.o1 .all (.comp [2, 3] (.o2 .isIn (.var 3) (.var 1)) (.cons (.one 2) (.dat (.var 1)) (.cst (.bool true)) (.cons (.one 3) (.dat (.call j_before_set (.cons (.var 0) (.cons (.var 2) .nil)))) (.cst (.bool true)) .nil)))) .nil)))) .nil)⟩
/-- tops_of: 0 order 1 down_set 2 thing 3 other -/
def F_tops_of (j_is_before : Nat) : Fn := ⟨2, 4, (.cons (.ret (.o1 .tuple (.comp [2] (.var 2) (.cons (.one 2) (.dat (.var 1)) (.not (.o1 .any (.comp [3] (.call j_is_before (.cons (.var 0) (.cons (.var 2) (.cons (.var 3) .nil)))) (.cons (.one 3) (.dat (.var 1)) (.cst (.bool true)) .nil)))) .nil)))) .nil)⟩
/-- _law_apart: 0 order 1 x 2 y -/
def F__law_apart : Fn := ⟨3, 3, (.cons (.ret (.and (.o2 .ne (.var 1) (.var 2)) (.and (.o2 .notIn (.tup (.cons (.var 1) (.cons (.var 2) .nil))) (.o2 .idx (.var 0) (.cst (natD 1)))) (.o2 .notIn (.tup (.cons (.var 2) (.cons (.var 1) .nil))) (.o2 .idx (.var 0) (.cst (natD 1))))))) .nil)⟩
/-- law: 0 script 1 row 2 order 3 pairs 4 due 5 tops 6 one 7 top 8 levels 9 x 10 y -/
def F_law_k05 (j__law_row j__law_order j__law_sets j__law_like j_down_sets j_tops_of : Nat) : Fn := ⟨1, 11, (.cons (.asg (.one 1) (.call j__law_row (.cons (.var 0) (.cons (.cst (natD 20)) .nil)))) (.cons (.asg (.one 2) (.call j__law_order (.cons (.var 1) (.cons (.cst (natD 0)) (.cons (.cst (natD 7)) .nil))))) (.cons (.asg (.one 3) (.o2 .idx (.var 2) (.cst (natD 1)))) (.cons (.asg (.one 4) (.comp [6] (.var 6) (.cons (.one 6) (.dat (.call j__law_sets (.cons (.o2 .idx (.var 2) (.cst (natD 0))) .nil))) (.o1 .all (.comp [9, 10] (.o2 .isIn (.var 9) (.var 6)) (.cons (.tup [9, 10]) (.dat (.var 3)) (.o2 .isIn (.var 10) (.var 6)) .nil))) .nil))) (.cons (.ite (.not (.call j__law_like (.cons (.call j_down_sets (.cons (.var 2) .nil)) (.cons (.o1 .tuple (.o1 .sorted (.var 4))) .nil)))) (.cons (.ret (.cst (.bool false))) .nil) .nil) (.cons (.asg (.one 5) (.lst .nil)) (.cons (.for_ (.one 6) (.dat (.var 4)) (.cons (.asg (.one 7) (.o1 .tuple (.comp [9] (.var 9) (.cons (.one 9) (.dat (.var 6)) (.not (.o1 .any (.comp [10] (.o2 .isIn (.tup (.cons (.var 9) (.cons (.var 10) .nil))) (.var 3)) (.cons (.one 10) (.dat (.var 6)) (.cst (.bool true)) .nil)))) .nil)))) (.cons (.ite (.not (.call j__law_like (.cons (.call j_tops_of (.cons (.var 2) (.cons (.var 6) .nil))) (.cons (.var 7) .nil)))) (.cons (.ret (.cst (.bool false))) .nil) .nil) (.cons (.app 5 (.var 7)) .nil))) [.sh, .sh, .sh, .sh, .lck, .own, .dead, .dead, .dead, .dead, .dead]) (.cons (.asg (.one 8) (.lst .nil)) (.cons (.for_ (.one 6) (.dat (.call j__law_sets (.cons (.o2 .idx (.var 2) (.cst (natD 0))) .nil))) (.cons (.ite (.not (.o1 .any (.comp [9, 10] (.and (.o2 .isIn (.var 9) (.var 6)) (.o2 .isIn (.var 10) (.var 6))) (.cons (.tup [9, 10]) (.dat (.var 3)) (.cst (.bool true)) .nil)))) (.cons (.app 8 (.var 6)) .nil) .nil) .nil) [.sh, .sh, .sh, .sh, .own, .own, .dead, .dead, .own, .dead, .dead]) (.cons (.ret (.o2 .eq (.o1 .sorted (.var 5)) (.o1 .sorted (.var 8)))) .nil))))))))))⟩
/-- order_of: 0 n 1 pairs 2 known 3 middle 4 first 5 second 6 pair -/
def F_order_of : Fn := ⟨2, 7, (.cons (.asg (.one 2) (.dcomp [6] true (.var 6) (.cst (.bool true)) (.cons (.one 6) (.dat (.var 1)) (.cst (.bool true)) .nil))) (.cons (.for_ (.one 3) (.rng (.var 0)) (.cons (.for_ (.one 4) (.rng (.var 0)) (.cons (.for_ (.one 5) (.rng (.var 0)) (.cons (.ite (.and (.o2 .isIn (.tup (.cons (.var 4) (.cons (.var 3) .nil))) (.var 2)) (.o2 .isIn (.tup (.cons (.var 3) (.cons (.var 5) .nil))) (.var 2))) (.cons (.set 2 (.tup (.cons (.var 4) (.cons (.var 5) .nil))) (.cst (.bool true))) .nil) .nil) .nil) [.sh, .sh, .dT, .sh, .sh, .dead, .dead]) .nil) [.sh, .sh, .dT, .sh, .dead, .dead, .dead]) .nil) [.sh, .sh, .dT, .dead, .dead, .dead, .dead]) (.cons (.ite (.o1 .any (.comp [4, 5] (.o2 .eq (.var 4) (.var 5)) (.cons (.tup [4, 5]) (.dat (.var 2)) (.cst (.bool true)) .nil))) (.cons (.ret (.cst (.none))) .nil) .nil) (.cons (.ret (.tup (.cons (.var 0) (.cons (.o1 .tuple (.o1 .sorted (.var 2))) .nil)))) .nil))))⟩
/-- _law_grown: 0 n 1 pairs 2 known 3 turn 4 more 5 x 6 y 7 one 8 z -/
def F__law_grown_k01 : Fn := ⟨2, 9, (.cons (.asg (.one 2) (.o1 .sset (.var 1))) (.cons (.for_ (.one 3) (.rng (.o2 .mul (.var 0) (.var 0))) (.cons (.asg (.one 4) (.lst .nil)) (.cons (.for_ (.tup [5, 6]) (.dat (.var 2)) (.cons (.ext 4 (.comp [7, 8] (.tup (.cons (.var 5) (.cons (.var 8) .nil))) (.cons (.tup [7, 8]) (.dat (.var 2)) (.and (.o2 .eq (.var 7) (.var 6)) (.o2 .notIn (.tup (.cons (.var 5) (.cons (.var 8) .nil))) (.var 2))) .nil))) .nil) [.sh, .sh, .lck, .sh, .own, .dead, .dead, .dead, .dead]) (.cons (.asg (.one 2) (.o1 .sset (.o2 .add (.var 2) (.var 4)))) .nil))) [.sh, .sh, .own, .dead, .dead, .dead, .dead, .dead, .dead]) (.cons (.ite (.o1 .any (.comp [5, 6] (.o2 .eq (.var 5) (.var 6)) (.cons (.tup [5, 6]) (.dat (.var 2)) (.cst (.bool true)) .nil))) (.cons (.ret (.cst (.none))) .nil) .nil) (.cons (.ret (.tup (.cons (.var 0) (.cons (.o1 .tuple (.var 2)) .nil)))) .nil))))⟩
/-- law: 0 script 1 row 2 n 3 pairs 4 k 5 x 6 y -/
def F_law_k01 (j__law_row j__law_like j_order_of j__law_grown : Nat) : Fn := ⟨1, 7, (.cons (.asg (.one 1) (.call j__law_row (.cons (.var 0) (.cons (.cst (natD 30)) .nil)))) (.cons (.asg (.one 2) (.o2 .add (.cst (natD 1)) (.o2 .mod (.o1 .int (.o2 .idx (.var 1) (.cst (natD 0)))) (.cst (natD 7))))) (.cons (.asg (.one 3) (.lst .nil)) (.cons (.for_ (.one 4) (.rng (.o2 .mul (.o2 .mod (.o1 .int (.o2 .idx (.var 1) (.cst (natD 1)))) (.cst (natD 9))) (.o1 .int (.o2 .gt (.var 2) (.cst (natD 1)))))) (.cons (.asg (.one 5) (.o2 .mod (.o1 .int (.o2 .idx (.var 1) (.o2 .add (.cst (natD 2)) (.o2 .mul (.cst (natD 2)) (.var 4))))) (.var 2))) (.cons (.asg (.one 6) (.o2 .mod (.o1 .int (.o2 .add (.o2 .add (.var 5) (.cst (natD 1))) (.o2 .mod (.o1 .int (.o2 .idx (.var 1) (.o2 .add (.cst (natD 3)) (.o2 .mul (.cst (natD 2)) (.var 4))))) (.o2 .max2 (.cst (natD 1)) (.o2 .sub (.var 2) (.cst (natD 1))))))) (.var 2))) (.cons (.ite (.and (.o2 .eq (.o2 .mod (.o2 .idx (.var 1) (.cst (natD 20))) (.cst (natD 2))) (.cst (natD 1))) (.o2 .gt (.o2 .mod (.o2 .add (.o2 .mul (.var 5) (.cst (natD 3))) (.o1 .int (.o2 .idx (.var 1) (.cst (natD 21))))) (.cst (natD 7))) (.o2 .mod (.o2 .add (.o2 .mul (.var 6) (.cst (natD 3))) (.o1 .int (.o2 .idx (.var 1) (.cst (natD 21))))) (.cst (natD 7))))) (.cons (.par [5, 6] (.cons (.var 6) (.cons (.var 5) .nil))) .nil) .nil) (.cons (.app 3 (.tup (.cons (.var 5) (.cons (.var 6) .nil)))) .nil)))) [.sh, .sh, .sh, .own, .dead, .dead, .dead]) (.cons (.frz 3) (.cons (.ret (.call j__law_like (.cons (.call j_order_of (.cons (.var 2) (.cons (.o1 .tuple (.var 3)) .nil))) (.cons (.call j__law_grown (.cons (.var 2) (.cons (.var 3) .nil))) .nil)))) .nil))))))⟩
/-- steps: 0 order 1 n 2 pairs 3 first 4 second 5 middle -/
def F_steps : Fn := ⟨1, 6, (.cons (.asg (.tup [1, 2]) (.var 0)) (.cons (.ret (.o1 .tuple (.comp [3, 4] (.tup (.cons (.var 3) (.cons (.var 4) .nil))) (.cons (.tup [3, 4]) (.dat (.var 2)) (.not (.o1 .any (.comp [5] (.and (.o2 .isIn (.tup (.cons (.var 3) (.cons (.var 5) .nil))) (.var 2)) (.o2 .isIn (.tup (.cons (.var 5) (.cons (.var 4) .nil))) (.var 2))) (.cons (.one 5) (.rng (.var 1)) (.cst (.bool true)) .nil)))) .nil)))) .nil))⟩
/-- turned: 0 order 1 first 2 second -/
def F_turned : Fn := ⟨1, 3, (.cons (.ret (.tup (.cons (.o2 .idx (.var 0) (.cst (natD 0))) (.cons (.o1 .tuple (.o1 .sorted (.comp [1, 2] (.tup (.cons (.var 2) (.cons (.var 1) .nil))) (.cons (.tup [1, 2]) (.dat (.o2 .idx (.var 0) (.cst (natD 1)))) (.cst (.bool true)) .nil)))) .nil)))) .nil)⟩
/-- part_of: 0 order 1 things 2 names 3 pairs 4 name 5 thing 6 first 7 second -/
def F_part_of : Fn := ⟨2, 8, (.cons (.asg (.one 2) (.dcomp [4, 5] false (.var 5) (.var 4) (.cons (.tup [4, 5]) (.enu (.var 1)) (.cst (.bool true)) .nil))) (.cons (.asg (.one 3) (.comp [6, 7] (.tup (.cons (.o2 .idx (.var 2) (.var 6)) (.cons (.o2 .idx (.var 2) (.var 7)) .nil))) (.cons (.tup [6, 7]) (.dat (.o2 .idx (.var 0) (.cst (natD 1)))) (.and (.o2 .isIn (.var 6) (.var 2)) (.o2 .isIn (.var 7) (.var 2))) .nil))) (.cons (.ret (.tup (.cons (.o1 .len (.var 1)) (.cons (.o1 .tuple (.o1 .sorted (.var 3))) .nil)))) .nil)))⟩
/-- law: 0 script 1 row 2 order 3 n 4 pairs 5 due 6 x 7 y 8 found 9 things 10 inner 11 z -/
def F_law_k02 (j__law_row j__law_order j_steps j__law_like j__law_closed j_order_of j_turned j_part_of : Nat) : Fn := ⟨1, 12, (.cons (.asg (.one 1) (.call j__law_row (.cons (.var 0) (.cons (.cst (natD 30)) .nil)))) (.cons (.asg (.one 2) (.call j__law_order (.cons (.var 1) (.cons (.cst (natD 0)) (.cons (.cst (natD 7)) .nil))))) (.cons (.asg (.tup [3, 4]) (.var 2)) (.cons (.asg (.one 5) (.lst .nil)) (.cons (.for_ (.tup [6, 7]) (.dat (.var 4)) (.cons (.ite (.o2 .eq (.o1 .len (.comp [11] (.var 11) (.cons (.one 11) (.rng (.var 3)) (.and (.o2 .isIn (.tup (.cons (.var 6) (.cons (.var 11) .nil))) (.var 4)) (.o2 .isIn (.tup (.cons (.var 11) (.cons (.var 7) .nil))) (.var 4))) .nil))) (.cst (natD 0))) (.cons (.app 5 (.tup (.cons (.var 6) (.cons (.var 7) .nil)))) .nil) .nil) .nil) [.sh, .sh, .sh, .sh, .sh, .own, .dead, .dead, .dead, .dead, .dead, .dead]) (.cons (.asg (.one 8) (.call j_steps (.cons (.var 2) .nil))) (.cons (.frz 5) (.cons (.ite (.or (.not (.call j__law_like (.cons (.var 8) (.cons (.o1 .tuple (.var 5)) .nil)))) (.or (.o2 .ne (.call j__law_closed (.cons (.var 3) (.cons (.var 5) .nil))) (.var 4)) (.not (.call j__law_like (.cons (.call j_order_of (.cons (.var 3) (.cons (.var 8) .nil))) (.cons (.var 2) .nil)))))) (.cons (.ret (.cst (.bool false))) .nil) .nil) (.cons (.ite (.not (.call j__law_like (.cons (.call j_turned (.cons (.var 2) .nil)) (.cons (.tup (.cons (.var 3) (.cons (.o1 .tuple (.o1 .sorted (.comp [6, 7] (.tup (.cons (.var 7) (.cons (.var 6) .nil))) (.cons (.tup [6, 7]) (.dat (.var 4)) (.cst (.bool true)) .nil)))) .nil))) .nil)))) (.cons (.ret (.cst (.bool false))) .nil) .nil) (.cons (.asg (.one 9) (.o1 .tuple (.comp [6] (.var 6) (.cons (.one 6) (.rng (.var 3)) (.o2 .gt (.o2 .mod (.o2 .fdiv (.o1 .int (.o2 .idx (.var 1) (.cst (natD 20)))) (.o2 .shl (.cst (natD 1)) (.var 6))) (.cst (natD 3))) (.cst (natD 0))) .nil)))) (.cons (.ite (.o2 .eq (.o1 .len (.var 9)) (.cst (natD 0))) (.cons (.asg (.one 9) (.tup (.cons (.o2 .mod (.o1 .int (.o2 .idx (.var 1) (.cst (natD 21)))) (.var 3)) .nil))) .nil) .nil) (.cons (.asg (.one 10) (.comp [6, 7] (.tup (.cons (.o2 .index (.var 9) (.var 6)) (.cons (.o2 .index (.var 9) (.var 7)) .nil))) (.cons (.tup [6, 7]) (.dat (.var 4)) (.and (.o2 .isIn (.var 6) (.var 9)) (.o2 .isIn (.var 7) (.var 9))) .nil))) (.cons (.ret (.call j__law_like (.cons (.call j_part_of (.cons (.var 2) (.cons (.var 9) .nil))) (.cons (.tup (.cons (.o1 .len (.var 9)) (.cons (.o1 .tuple (.o1 .sorted (.var 10))) .nil))) .nil)))) .nil)))))))))))))⟩
/-- fixed: 0 order 1 f 2 thing -/
def F_fixed : Fn := ⟨2, 3, (.cons (.ret (.o1 .tuple (.comp [2] (.var 2) (.cons (.one 2) (.rng (.o2 .idx (.var 0) (.cst (natD 0)))) (.o2 .eq (.o2 .idx (.var 1) (.var 2)) (.var 2)) .nil)))) .nil)⟩
/-- least_fixed: 0 order 1 f 2 found 3 thing -/
def F_least_fixed (j_is_at_most j_meet : Nat) : Fn := ⟨2, 4, (.cons (.asg (.one 2) (.cst (.none))) (.cons (.for_ (.one 3) (.rng (.o2 .idx (.var 0) (.cst (natD 0)))) (.cons (.ite (.call j_is_at_most (.cons (.var 0) (.cons (.o2 .idx (.var 1) (.var 3)) (.cons (.var 3) .nil)))) (.cons (.asg (.one 2) (.ite (.o1 .isN (.var 2)) (.var 3) (.call j_meet (.cons (.var 0) (.cons (.var 2) (.cons (.var 3) .nil)))))) .nil) .nil) .nil) [.sh, .sh, .sh, .dead]) (.cons (.ret (.var 2)) .nil)))⟩
/-- law: 0 script 1 row 2 order 3 n 4 pairs 5 f 6 k 7 other 8 due 9 least 10 one 11 x 12 y -/
def F_law_k18 (j__law_row j__law_lattice j__law_join j__law_meet j__law_like j_fixed j_least_fixed : Nat) : Fn := ⟨1, 13, (.cons (.asg (.one 1) (.call j__law_row (.cons (.var 0) (.cons (.cst (natD 20)) .nil)))) (.cons (.asg (.one 2) (.call j__law_lattice (.cons (.var 1) (.cons (.cst (natD 0)) .nil)))) (.cons (.asg (.tup [3, 4]) (.var 2)) (.cons (.asg (.one 5) (.rgl true (.cst (.int 0)) (.var 3))) (.cons (.for_ (.one 6) (.rng (.o2 .mod (.o1 .int (.o2 .idx (.var 1) (.cst (natD 10)))) (.cst (natD 4)))) (.cons (.asg (.one 7) (.o2 .mod (.o1 .int (.o2 .idx (.var 1) (.o2 .add (.cst (natD 11)) (.var 6)))) (.var 3))) (.cons (.ite (.o2 .eq (.o2 .mod (.o2 .fdiv (.o1 .int (.o2 .idx (.var 1) (.o2 .add (.cst (natD 11)) (.var 6)))) (.cst (natD 7))) (.cst (natD 2))) (.cst (natD 1))) (.cons (.asg (.one 5) (.o1 .tuple (.comp [10] (.call j__law_join (.cons (.var 2) (.cons (.var 10) (.cons (.var 7) .nil)))) (.cons (.one 10) (.dat (.var 5)) (.cst (.bool true)) .nil)))) .nil) (.cons (.asg (.one 5) (.o1 .tuple (.comp [10] (.call j__law_meet (.cons (.var 2) (.cons (.var 10) (.cons (.var 7) .nil)))) (.cons (.one 10) (.dat (.var 5)) (.cst (.bool true)) .nil)))) .nil)) .nil)) [.sh, .sh, .sh, .sh, .sh, .sh, .dead, .dead, .dead, .dead, .dead, .dead, .dead]) (.cons (.ite (.o2 .eq (.o2 .mod (.o2 .idx (.var 1) (.cst (natD 16))) (.cst (natD 4))) (.cst (natD 1))) (.cons (.asg (.one 5) (.o1 .tuple (.comp [10] (.o2 .idx (.var 5) (.var 10)) (.cons (.one 10) (.dat (.var 5)) (.cst (.bool true)) .nil)))) .nil) .nil) (.cons (.asg (.one 8) (.o1 .tuple (.comp [11] (.var 11) (.cons (.one 11) (.rng (.var 3)) (.o2 .eq (.o2 .idx (.var 5) (.var 11)) (.var 11)) .nil)))) (.cons (.asg (.one 9) (.comp [11] (.var 11) (.cons (.one 11) (.dat (.var 8)) (.o1 .all (.comp [12] (.or (.o2 .eq (.var 11) (.var 12)) (.o2 .isIn (.tup (.cons (.var 11) (.cons (.var 12) .nil))) (.var 4))) (.cons (.one 12) (.dat (.var 8)) (.cst (.bool true)) .nil))) .nil))) (.cons (.ret (.and (.call j__law_like (.cons (.call j_fixed (.cons (.var 2) (.cons (.var 5) .nil))) (.cons (.var 8) .nil))) (.and (.o2 .eq (.o1 .len (.var 9)) (.cst (natD 1))) (.call j__law_like (.cons (.call j_least_fixed (.cons (.var 2) (.cons (.var 5) .nil))) (.cons (.o2 .idx (.var 9) (.cst (natD 0))) .nil)))))) .nil)))))))))⟩
/-- count_ways: 0 order 1 first 2 second 3 middle -/
def F_count_ways (j_is_before j_count_ways : Nat) : Fn := ⟨3, 4, (.cons (.ite (.o2 .eq (.var 1) (.var 2)) (.cons (.ret (.cst (natD 1))) .nil) .nil) (.cons (.ite (.not (.call j_is_before (.cons (.var 0) (.cons (.var 1) (.cons (.var 2) .nil))))) (.cons (.ret (.cst (natD 0))) .nil) .nil) (.cons (.ret (.o1 .sum (.comp [3] (.call j_count_ways (.cons (.var 0) (.cons (.var 1) (.cons (.var 3) .nil)))) (.cons (.one 3) (.rng (.o2 .idx (.var 0) (.cst (natD 0)))) (.and (.call j_is_before (.cons (.var 0) (.cons (.var 3) (.cons (.var 2) .nil)))) (.or (.o2 .eq (.var 3) (.var 1)) (.call j_is_before (.cons (.var 0) (.cons (.var 1) (.cons (.var 3) .nil)))))) .nil)))) .nil)))⟩
/-- mu: 0 order 1 first 2 second 3 middle -/
def F_mu (j_is_before j_mu : Nat) : Fn := ⟨3, 4, (.cons (.ite (.o2 .eq (.var 1) (.var 2)) (.cons (.ret (.cst (natD 1))) .nil) .nil) (.cons (.ite (.not (.call j_is_before (.cons (.var 0) (.cons (.var 1) (.cons (.var 2) .nil))))) (.cons (.ret (.cst (natD 0))) .nil) .nil) (.cons (.ret (.o1 .neg (.o1 .sum (.comp [3] (.call j_mu (.cons (.var 0) (.cons (.var 1) (.cons (.var 3) .nil)))) (.cons (.one 3) (.rng (.o2 .idx (.var 0) (.cst (natD 0)))) (.and (.call j_is_before (.cons (.var 0) (.cons (.var 3) (.cons (.var 2) .nil)))) (.or (.o2 .eq (.var 3) (.var 1)) (.call j_is_before (.cons (.var 0) (.cons (.var 1) (.cons (.var 3) .nil)))))) .nil))))) .nil)))⟩
/-- summed: 0 order 1 values 2 thing 3 value 4 other -/
def F_summed (j_is_before : Nat) : Fn := ⟨2, 5, (.cons (.ret (.o1 .tuple (.comp [2, 3] (.o2 .add (.var 3) (.o1 .sum (.comp [4] (.o2 .idx (.var 1) (.var 4)) (.cons (.one 4) (.rng (.o2 .idx (.var 0) (.cst (natD 0)))) (.call j_is_before (.cons (.var 0) (.cons (.var 4) (.cons (.var 2) .nil)))) .nil)))) (.cons (.tup [2, 3]) (.enu (.var 1)) (.cst (.bool true)) .nil)))) .nil)⟩
/-- unsummed: 0 order 1 sums 2 thing 3 other -/
def F_unsummed (j_mu : Nat) : Fn := ⟨2, 4, (.cons (.ret (.o1 .tuple (.comp [2] (.o1 .sum (.comp [3] (.o2 .mul (.call j_mu (.cons (.var 0) (.cons (.var 3) (.cons (.var 2) .nil)))) (.o2 .idx (.var 1) (.var 3))) (.cons (.one 3) (.rng (.o2 .idx (.var 0) (.cst (natD 0)))) (.cst (.bool true)) .nil))) (.cons (.one 2) (.rng (.o2 .idx (.var 0) (.cst (natD 0)))) (.cst (.bool true)) .nil)))) .nil)⟩
/-- _law_chains: 0 pairs 1 x 2 y 3 found 4 layer 5 grown 6 row 7 last 8 a 9 b -/
def F__law_chains : Fn := ⟨3, 10, (.cons (.asg (.one 3) (.lst .nil)) (.cons (.asg (.one 4) (.lst (.cons (.tup (.cons (.var 1) .nil)) .nil))) (.cons (.frz 4) (.cons (.while_ (.o2 .gt (.o1 .len (.var 4)) (.cst (natD 0))) (.cons (.ext 3 (.comp [6] (.var 6) (.cons (.one 6) (.dat (.var 4)) (.o2 .eq (.o2 .idx (.var 6) (.o2 .sub (.o1 .len (.var 6)) (.cst (natD 1)))) (.var 2)) .nil))) (.cons (.asg (.one 5) (.lst .nil)) (.cons (.for_ (.one 6) (.dat (.var 4)) (.cons (.asg (.one 7) (.o2 .idx (.var 6) (.o2 .sub (.o1 .len (.var 6)) (.cst (natD 1))))) (.cons (.ite (.o2 .ne (.var 7) (.var 2)) (.cons (.ext 5 (.comp [8, 9] (.o2 .add (.var 6) (.tup (.cons (.var 9) .nil))) (.cons (.tup [8, 9]) (.dat (.var 0)) (.and (.o2 .eq (.var 8) (.var 7)) (.or (.o2 .eq (.var 9) (.var 2)) (.o2 .isIn (.tup (.cons (.var 9) (.cons (.var 2) .nil))) (.var 0)))) .nil))) .nil) .nil) .nil)) [.sh, .sh, .sh, .own, .sh, .own, .dead, .dead, .dead, .dead]) (.cons (.frz 5) (.cons (.asg (.one 4) (.var 5)) .nil))))) [.sh, .sh, .sh, .own, .sh, .dead, .dead, .dead, .dead, .dead]) (.cons (.frz 3) (.cons (.ret (.var 3)) .nil))))))⟩
/-- law: 0 script 1 row 2 order 3 n 4 pairs 5 table 6 x 7 line 8 y 9 chains 10 odd 11 k 12 values 13 sums 14 due 15 one -/
def F_law_k14 (j__law_row j__law_order j__law_chains j__law_like j_count_ways j_mu j_summed j_unsummed : Nat) : Fn := ⟨1, 16, (.cons (.asg (.one 1) (.call j__law_row (.cons (.var 0) (.cons (.cst (natD 40)) .nil)))) (.cons (.asg (.one 2) (.call j__law_order (.cons (.var 1) (.cons (.cst (natD 0)) (.cons (.cst (natD 7)) .nil))))) (.cons (.asg (.tup [3, 4]) (.var 2)) (.cons (.asg (.one 5) (.lst .nil)) (.cons (.for_ (.one 6) (.rng (.var 3)) (.cons (.asg (.one 7) (.lst .nil)) (.cons (.for_ (.one 8) (.rng (.var 3)) (.cons (.asg (.one 9) (.call j__law_chains (.cons (.var 4) (.cons (.var 6) (.cons (.var 8) .nil))))) (.cons (.asg (.one 10) (.o1 .len (.comp [15] (.cst (natD 1)) (.cons (.one 15) (.dat (.var 9)) (.o2 .eq (.o2 .mod (.o1 .int (.o1 .len (.var 15))) (.cst (natD 2))) (.cst (natD 1))) .nil)))) (.cons (.app 7 (.tup (.cons (.o1 .len (.var 9)) (.cons (.o2 .sub (.o2 .mul (.cst (natD 2)) (.var 10)) (.o1 .len (.var 9))) .nil)))) .nil))) [.sh, .sh, .sh, .sh, .sh, .own, .sh, .own, .dead, .dead, .dead, .dead, .dead, .dead, .dead, .dead]) (.cons (.frz 7) (.cons (.app 5 (.var 7)) .nil)))) [.sh, .sh, .sh, .sh, .sh, .own, .dead, .dead, .dead, .dead, .dead, .dead, .dead, .dead, .dead, .dead]) (.cons (.for_ (.one 11) (.rng (.cst (natD 6))) (.cons (.par [6, 8] (.cons (.o2 .mod (.o1 .int (.o2 .idx (.var 1) (.o2 .add (.cst (natD 20)) (.var 11)))) (.var 3)) (.cons (.o2 .mod (.o1 .int (.o2 .idx (.var 1) (.o2 .add (.cst (natD 26)) (.var 11)))) (.var 3)) .nil))) (.cons (.ite (.or (.not (.call j__law_like (.cons (.call j_count_ways (.cons (.var 2) (.cons (.var 6) (.cons (.var 8) .nil)))) (.cons (.o2 .idx (.o2 .idx (.o2 .idx (.var 5) (.var 6)) (.var 8)) (.cst (natD 0))) .nil)))) (.not (.call j__law_like (.cons (.call j_mu (.cons (.var 2) (.cons (.var 6) (.cons (.var 8) .nil)))) (.cons (.o2 .idx (.o2 .idx (.o2 .idx (.var 5) (.var 6)) (.var 8)) (.cst (natD 1))) .nil))))) (.cons (.ret (.cst (.bool false))) .nil) .nil) .nil)) [.sh, .sh, .sh, .sh, .sh, .own, .dead, .dead, .dead, .dead, .dead, .dead, .dead, .dead, .dead, .dead]) (.cons (.asg (.one 12) (.o1 .tuple (.comp [11] (.o2 .sub (.o2 .mod (.o1 .int (.o2 .idx (.var 1) (.o2 .add (.cst (natD 32)) (.var 11)))) (.cst (natD 19))) (.cst (natD 9))) (.cons (.one 11) (.rng (.var 3)) (.cst (.bool true)) .nil)))) (.cons (.asg (.one 13) (.o1 .tuple (.comp [8] (.o2 .add (.o2 .idx (.var 12) (.var 8)) (.o1 .sum (.comp [6] (.o2 .idx (.var 12) (.var 6)) (.cons (.one 6) (.rng (.var 3)) (.o2 .isIn (.tup (.cons (.var 6) (.cons (.var 8) .nil))) (.var 4)) .nil)))) (.cons (.one 8) (.rng (.var 3)) (.cst (.bool true)) .nil)))) (.cons (.ite (.or (.not (.call j__law_like (.cons (.call j_summed (.cons (.var 2) (.cons (.var 12) .nil))) (.cons (.var 13) .nil)))) (.not (.call j__law_like (.cons (.call j_unsummed (.cons (.var 2) (.cons (.var 13) .nil))) (.cons (.var 12) .nil))))) (.cons (.ret (.cst (.bool false))) .nil) .nil) (.cons (.asg (.one 14) (.o1 .tuple (.comp [8] (.o1 .sum (.comp [6] (.o2 .mul (.o2 .idx (.o2 .idx (.o2 .idx (.var 5) (.var 6)) (.var 8)) (.cst (natD 1))) (.o2 .idx (.var 12) (.var 6))) (.cons (.one 6) (.rng (.var 3)) (.cst (.bool true)) .nil))) (.cons (.one 8) (.rng (.var 3)) (.cst (.bool true)) .nil)))) (.cons (.ret (.call j__law_like (.cons (.call j_unsummed (.cons (.var 2) (.cons (.var 12) .nil))) (.cons (.var 14) .nil)))) .nil)))))))))))⟩
/-- orders_of: 0 members 1 rows 2 _ 3 row 4 member -/
def F_orders_of : Fn := ⟨1, 5, (.cons (.asg (.one 1) (.lst (.cons (.tup .nil) .nil))) (.cons (.for_ (.one 2) (.dat (.var 0)) (.cons (.asg (.one 1) (.comp [3, 4] (.o2 .add (.var 3) (.tup (.cons (.var 4) .nil))) (.cons (.one 3) (.dat (.var 1)) (.cst (.bool true)) (.cons (.one 4) (.dat (.var 0)) (.o2 .notIn (.var 4) (.var 3)) .nil)))) .nil) [.sh, .own, .dead, .dead, .dead]) (.cons (.frz 1) (.cons (.ret (.var 1)) .nil))))⟩
/-- renamed: 0 order 1 names 2 first 3 second -/
def F_renamed : Fn := ⟨2, 4, (.cons (.ret (.tup (.cons (.o2 .idx (.var 0) (.cst (natD 0))) (.cons (.o1 .tuple (.o1 .sorted (.comp [2, 3] (.tup (.cons (.o2 .idx (.var 1) (.var 2)) (.cons (.o2 .idx (.var 1) (.var 3)) .nil))) (.cons (.tup [2, 3]) (.dat (.o2 .idx (.var 0) (.cst (natD 1)))) (.cst (.bool true)) .nil)))) .nil)))) .nil)⟩
/-- normal: 0 order 1 names -/
def F_normal (j_renamed j_orders_of : Nat) : Fn := ⟨1, 2, (.cons (.ret (.o1 .min (.comp [1] (.call j_renamed (.cons (.var 0) (.cons (.var 1) .nil))) (.cons (.one 1) (.dat (.call j_orders_of (.cons (.rgl false (.cst (.int 0)) (.o2 .idx (.var 0) (.cst (natD 0)))) .nil))) (.cst (.bool true)) .nil)))) .nil)⟩
/-- count_alike: 0 order 1 names -/
def F_count_alike (j_orders_of j_renamed : Nat) : Fn := ⟨1, 2, (.cons (.ret (.o1 .len (.comp [1] (.var 1) (.cons (.one 1) (.dat (.call j_orders_of (.cons (.rgl false (.cst (.int 0)) (.o2 .idx (.var 0) (.cst (natD 0)))) .nil))) (.o2 .eq (.call j_renamed (.cons (.var 0) (.cons (.var 1) .nil))) (.var 0)) .nil)))) .nil)⟩
/-- _law_orders: 0 count 1 rows 2 turn 3 grown 4 row 5 one -/
def F__law_orders : Fn := ⟨1, 6, (.cons (.asg (.one 1) (.lst (.cons (.tup .nil) .nil))) (.cons (.frz 1) (.cons (.for_ (.one 2) (.rng (.var 0)) (.cons (.asg (.one 3) (.lst .nil)) (.cons (.for_ (.one 4) (.dat (.var 1)) (.cons (.ext 3 (.comp [5] (.o2 .add (.var 4) (.tup (.cons (.var 5) .nil))) (.cons (.one 5) (.rng (.var 0)) (.o2 .notIn (.var 5) (.var 4)) .nil))) .nil) [.sh, .sh, .sh, .own, .dead, .dead]) (.cons (.frz 3) (.cons (.asg (.one 1) (.var 3)) .nil)))) [.sh, .sh, .dead, .dead, .dead, .dead]) (.cons (.ret (.var 1)) .nil))))⟩
/-- law: 0 script 1 row 2 order 3 n 4 pairs 5 forms 6 names 7 other 8 x 9 y 10 form -/
def F_law_k03 (j__law_row j__law_order j__law_orders j__law_like j_normal j_count_alike : Nat) : Fn := ⟨1, 11, (.cons (.asg (.one 1) (.call j__law_row (.cons (.var 0) (.cons (.cst (natD 50)) .nil)))) (.cons (.asg (.one 2) (.call j__law_order (.cons (.var 1) (.cons (.cst (natD 0)) (.cons (.cst (natD 5)) .nil))))) (.cons (.asg (.tup [3, 4]) (.var 2)) (.cons (.asg (.one 5) (.lst .nil)) (.cons (.for_ (.one 6) (.dat (.call j__law_orders (.cons (.var 3) .nil))) (.cons (.app 5 (.o1 .tuple (.o1 .sorted (.comp [8, 9] (.tup (.cons (.o2 .idx (.var 6) (.var 8)) (.cons (.o2 .idx (.var 6) (.var 9)) .nil))) (.cons (.tup [8, 9]) (.dat (.var 4)) (.cst (.bool true)) .nil))))) .nil) [.sh, .sh, .sh, .sh, .sh, .own, .dead, .dead, .dead, .dead, .dead]) (.cons (.ite (.not (.call j__law_like (.cons (.call j_normal (.cons (.var 2) .nil)) (.cons (.tup (.cons (.var 3) (.cons (.o1 .min (.var 5)) .nil))) .nil)))) (.cons (.ret (.cst (.bool false))) .nil) .nil) (.cons (.ite (.not (.call j__law_like (.cons (.call j_count_alike (.cons (.var 2) .nil)) (.cons (.o1 .len (.comp [10] (.cst (natD 1)) (.cons (.one 10) (.dat (.var 5)) (.o2 .eq (.var 10) (.var 4)) .nil))) .nil)))) (.cons (.ret (.cst (.bool false))) .nil) .nil) (.cons (.ite (.not (.call j__law_like (.cons (.call j_normal (.cons (.tup (.cons (.var 3) (.cons (.o2 .idx (.var 5) (.o2 .mod (.o1 .int (.o2 .idx (.var 1) (.cst (natD 20)))) (.o1 .len (.var 5)))) .nil))) .nil)) (.cons (.tup (.cons (.var 3) (.cons (.o1 .min (.var 5)) .nil))) .nil)))) (.cons (.ret (.cst (.bool false))) .nil) .nil) (.cons (.asg (.one 7) (.call j__law_order (.cons (.o2 .add (.lst (.cons (.o1 .int (.o2 .idx (.var 1) (.cst (natD 22)))) .nil)) (.o2 .from_ (.var 1) (.cst (natD 23)))) (.cons (.cst (natD 0)) (.cons (.cst (natD 5)) .nil))))) (.cons (.ite (.o2 .ne (.o2 .idx (.var 7) (.cst (natD 0))) (.var 3)) (.cons (.asg (.one 7) (.tup (.cons (.var 3) (.cons (.o2 .upto (.var 4) (.cst (natD 0))) .nil)))) .nil) .nil) (.cons (.ret (.o2 .eq (.o2 .eq (.call j_normal (.cons (.var 7) .nil)) (.call j_normal (.cons (.var 2) .nil))) (.o2 .isIn (.o2 .idx (.var 7) (.cst (natD 1))) (.var 5)))) .nil)))))))))))⟩
/-- ready: 0 order 1 placed 2 thing 3 other -/
def F_ready (j_before_set : Nat) : Fn := ⟨2, 4, (.cons (.ret (.comp [2] (.var 2) (.cons (.one 2) (.rng (.o2 .idx (.var 0) (.cst (natD 0)))) (.and (.o2 .notIn (.var 2) (.var 1)) (.o1 .all (.comp [3] (.o2 .isIn (.var 3) (.var 1)) (.cons (.one 3) (.dat (.call j_before_set (.cons (.var 0) (.cons (.var 2) .nil)))) (.cst (.bool true)) .nil)))) .nil))) .nil)⟩
/-- all_rows: 0 order 1 rows 2 _ 3 row 4 thing -/
def F_all_rows (j_ready : Nat) : Fn := ⟨1, 5, (.cons (.asg (.one 1) (.lst (.cons (.tup .nil) .nil))) (.cons (.for_ (.one 2) (.rng (.o2 .idx (.var 0) (.cst (natD 0)))) (.cons (.asg (.one 1) (.comp [3, 4] (.o2 .add (.var 3) (.tup (.cons (.var 4) .nil))) (.cons (.one 3) (.dat (.var 1)) (.cst (.bool true)) (.cons (.one 4) (.dat (.call j_ready (.cons (.var 0) (.cons (.var 3) .nil)))) (.cst (.bool true)) .nil)))) .nil) [.sh, .own, .dead, .dead, .dead]) (.cons (.ret (.o1 .tuple (.var 1))) .nil)))⟩
/-- count_between: 0 order 1 first 2 second 3 counts 4 _ 5 grown 6 placed 7 thing 8 after -/
def F_count_between (j_ready : Nat) : Fn := ⟨3, 9, (.cons (.asg (.one 3) (.done true (.tup .nil) (.cst (natD 1)))) (.cons (.for_ (.one 4) (.rng (.o2 .idx (.var 0) (.cst (natD 0)))) (.cons (.asg (.one 5) (.dnew true)) (.cons (.for_ (.one 6) (.dat (.var 3)) (.cons (.for_ (.one 7) (.dat (.call j_ready (.cons (.var 0) (.cons (.var 6) .nil)))) (.cons (.ite (.or (.o2 .eq (.var 1) (.var 2)) (.or (.o2 .ne (.var 7) (.var 2)) (.o2 .isIn (.var 1) (.var 6)))) (.cons (.asg (.one 8) (.o1 .tuple (.o1 .sorted (.o2 .add (.var 6) (.tup (.cons (.var 7) .nil)))))) (.cons (.set 5 (.var 8) (.o2 .add (.o3 .dget (.var 5) (.var 8) (.cst (natD 0))) (.o2 .idx (.var 3) (.var 6)))) .nil)) .nil) .nil) [.sh, .sh, .sh, .dTl, .sh, .dT, .sh, .dead, .dead]) .nil) [.sh, .sh, .sh, .dTl, .sh, .dT, .dead, .dead, .dead]) (.cons (.mov 3 5) .nil))) [.sh, .sh, .sh, .dT, .dead, .dead, .dead, .dead, .dead]) (.cons (.ret (.o1 .sum (.comp [6] (.o2 .idx (.var 3) (.var 6)) (.cons (.one 6) (.dat (.var 3)) (.cst (.bool true)) .nil)))) .nil)))⟩
/-- count_rows: 0 order -/
def F_count_rows (j_count_between : Nat) : Fn := ⟨1, 1, (.cons (.ret (.call j_count_between (.cons (.var 0) (.cons (.cst (natD 0)) (.cons (.cst (natD 0)) .nil))))) .nil)⟩
/-- least_row: 0 order 1 row -/
def F_least_row (j_ready : Nat) : Fn := ⟨1, 2, (.cons (.asg (.one 1) (.tup .nil)) (.cons (.while_ (.o2 .lt (.o1 .len (.var 1)) (.o2 .idx (.var 0) (.cst (natD 0)))) (.cons (.asg (.one 1) (.o2 .add (.var 1) (.tup (.cons (.o2 .idx (.call j_ready (.cons (.var 0) (.cons (.var 1) .nil))) (.cst (natD 0))) .nil)))) .nil) [.sh, .sh]) (.cons (.ret (.var 1)) .nil)))⟩
/-- share: 0 order 1 first 2 second -/
def F_share (j_count_between : Nat) : Fn := ⟨3, 3, (.cons (.ret (.call j_count_between (.cons (.var 0) (.cons (.var 1) (.cons (.var 2) .nil))))) .nil)⟩
/-- _law_rows: 0 order 1 rows 2 turn 3 grown 4 row 5 free 6 x 7 y -/
def F__law_rows : Fn := ⟨1, 8, (.cons (.asg (.one 1) (.lst (.cons (.tup .nil) .nil))) (.cons (.frz 1) (.cons (.for_ (.one 2) (.rng (.o2 .idx (.var 0) (.cst (natD 0)))) (.cons (.asg (.one 3) (.lst .nil)) (.cons (.for_ (.one 4) (.dat (.var 1)) (.cons (.asg (.one 5) (.comp [6] (.var 6) (.cons (.one 6) (.rng (.o2 .idx (.var 0) (.cst (natD 0)))) (.o2 .notIn (.var 6) (.var 4)) .nil))) (.cons (.ext 3 (.comp [6] (.o2 .add (.var 4) (.tup (.cons (.var 6) .nil))) (.cons (.one 6) (.dat (.var 5)) (.not (.o1 .any (.comp [7] (.o2 .isIn (.tup (.cons (.var 7) (.cons (.var 6) .nil))) (.o2 .idx (.var 0) (.cst (natD 1)))) (.cons (.one 7) (.dat (.var 5)) (.cst (.bool true)) .nil)))) .nil))) .nil)) [.sh, .sh, .sh, .own, .dead, .dead, .dead, .dead]) (.cons (.frz 3) (.cons (.asg (.one 1) (.var 3)) .nil)))) [.sh, .sh, .dead, .dead, .dead, .dead, .dead, .dead]) (.cons (.ret (.var 1)) .nil))))⟩
/-- law: 0 script 1 row 2 order 3 n 4 rows 5 x 6 y 7 one -/
def F_law_k04 (j__law_row j__law_order j__law_rows j__law_like j_all_rows j_count_rows j_least_row j_share : Nat) : Fn := ⟨1, 8, (.cons (.asg (.one 1) (.call j__law_row (.cons (.var 0) (.cons (.cst (natD 30)) .nil)))) (.cons (.asg (.one 2) (.call j__law_order (.cons (.var 1) (.cons (.cst (natD 0)) (.cons (.cst (natD 6)) .nil))))) (.cons (.asg (.one 3) (.o2 .idx (.var 2) (.cst (natD 0)))) (.cons (.asg (.one 4) (.call j__law_rows (.cons (.var 2) .nil))) (.cons (.ite (.or (.not (.call j__law_like (.cons (.call j_all_rows (.cons (.var 2) .nil)) (.cons (.o1 .tuple (.var 4)) .nil)))) (.not (.call j__law_like (.cons (.call j_count_rows (.cons (.var 2) .nil)) (.cons (.o1 .len (.var 4)) .nil))))) (.cons (.ret (.cst (.bool false))) .nil) .nil) (.cons (.ite (.not (.call j__law_like (.cons (.call j_least_row (.cons (.var 2) .nil)) (.cons (.o1 .min (.var 4)) .nil)))) (.cons (.ret (.cst (.bool false))) .nil) .nil) (.cons (.ite (.o2 .eq (.var 3) (.cst (natD 1))) (.cons (.ret (.cst (.bool true))) .nil) .nil) (.cons (.asg (.one 5) (.o2 .mod (.o1 .int (.o2 .idx (.var 1) (.cst (natD 20)))) (.var 3))) (.cons (.asg (.one 6) (.o2 .mod (.o1 .int (.o2 .add (.o2 .add (.var 5) (.cst (natD 1))) (.o2 .mod (.o1 .int (.o2 .idx (.var 1) (.cst (natD 21)))) (.o2 .sub (.var 3) (.cst (natD 1)))))) (.var 3))) (.cons (.ret (.call j__law_like (.cons (.call j_share (.cons (.var 2) (.cons (.var 5) (.cons (.var 6) .nil)))) (.cons (.o1 .len (.comp [7] (.cst (natD 1)) (.cons (.one 7) (.dat (.var 4)) (.o2 .lt (.o2 .index (.var 7) (.var 5)) (.o2 .index (.var 7) (.var 6))) .nil))) .nil)))) .nil))))))))))⟩
/-- are_apart: 0 order 1 first 2 second -/
def F_are_apart (j_is_before : Nat) : Fn := ⟨3, 3, (.cons (.ret (.and (.o2 .ne (.var 1) (.var 2)) (.and (.not (.call j_is_before (.cons (.var 0) (.cons (.var 1) (.cons (.var 2) .nil))))) (.not (.call j_is_before (.cons (.var 0) (.cons (.var 2) (.cons (.var 1) .nil)))))))) .nil)⟩
/-- is_level: 0 order 1 things 2 place 3 one 4 other -/
def F_is_level (j_are_apart : Nat) : Fn := ⟨2, 5, (.cons (.ret (.o1 .all (.comp [2, 3, 4] (.call j_are_apart (.cons (.var 0) (.cons (.var 3) (.cons (.var 4) .nil)))) (.cons (.tup [2, 3]) (.enu (.var 1)) (.cst (.bool true)) (.cons (.one 4) (.dat (.o2 .upto (.var 1) (.var 2))) (.cst (.bool true)) .nil))))) .nil)⟩
/-- is_chain: 0 order 1 things 2 place 3 one 4 other -/
def F_is_chain (j_are_apart : Nat) : Fn := ⟨2, 5, (.cons (.ret (.not (.o1 .any (.comp [2, 3, 4] (.call j_are_apart (.cons (.var 0) (.cons (.var 3) (.cons (.var 4) .nil)))) (.cons (.tup [2, 3]) (.enu (.var 1)) (.cst (.bool true)) (.cons (.one 4) (.dat (.o2 .upto (.var 1) (.var 2))) (.cst (.bool true)) .nil)))))) .nil)⟩
/-- sets_of: 0 order -/
def F_sets_of (j_parts_of : Nat) : Fn := ⟨1, 1, (.cons (.ret (.call j_parts_of (.cons (.rgl true (.cst (.int 0)) (.o2 .idx (.var 0) (.cst (natD 0)))) .nil))) .nil)⟩
/-- levels: 0 order 1 things -/
def F_levels (j_sets_of j_is_level : Nat) : Fn := ⟨1, 2, (.cons (.ret (.o1 .tuple (.comp [1] (.var 1) (.cons (.one 1) (.dat (.call j_sets_of (.cons (.var 0) .nil))) (.call j_is_level (.cons (.var 0) (.cons (.var 1) .nil))) .nil)))) .nil)⟩
/-- all_chains: 0 order 1 things -/
def F_all_chains (j_sets_of j_is_chain : Nat) : Fn := ⟨1, 2, (.cons (.ret (.o1 .tuple (.comp [1] (.var 1) (.cons (.one 1) (.dat (.call j_sets_of (.cons (.var 0) .nil))) (.call j_is_chain (.cons (.var 0) (.cons (.var 1) .nil))) .nil)))) .nil)⟩
/-- largest: 0 sets 1 most 2 things -/
def F_largest : Fn := ⟨1, 3, (.cons (.asg (.one 1) (.o1 .max (.comp [2] (.o1 .len (.var 2)) (.cons (.one 2) (.dat (.var 0)) (.cst (.bool true)) .nil)))) (.cons (.ret (.o1 .min (.comp [2] (.var 2) (.cons (.one 2) (.dat (.var 0)) (.o2 .eq (.o1 .len (.var 2)) (.var 1)) .nil)))) .nil))⟩
/-- widest: 0 order -/
def F_widest (j_largest j_levels : Nat) : Fn := ⟨1, 1, (.cons (.ret (.call j_largest (.cons (.call j_levels (.cons (.var 0) .nil)) .nil))) .nil)⟩
/-- longest: 0 order -/
def F_longest (j_largest j_all_chains : Nat) : Fn := ⟨1, 1, (.cons (.ret (.call j_largest (.cons (.call j_all_chains (.cons (.var 0) .nil)) .nil))) .nil)⟩
/-- width: 0 order -/
def F_width (j_widest : Nat) : Fn := ⟨1, 1, (.cons (.ret (.o1 .len (.call j_widest (.cons (.var 0) .nil)))) .nil)⟩
/-- height: 0 order -/
def F_height (j_longest : Nat) : Fn := ⟨1, 1, (.cons (.ret (.o1 .len (.call j_longest (.cons (.var 0) .nil)))) .nil)⟩
/-- rank_of: 0 order 1 thing 2 other -/
def F_rank_of (j_rank_of j_is_before : Nat) : Fn := ⟨2, 3, (.cons (.ret (.o2 .add (.cst (natD 1)) (.o1 .max (.o2 .add (.lst (.cons (.cst (natD 0)) .nil)) (.comp [2] (.call j_rank_of (.cons (.var 0) (.cons (.var 2) .nil))) (.cons (.one 2) (.rng (.o2 .idx (.var 0) (.cst (natD 0)))) (.call j_is_before (.cons (.var 0) (.cons (.var 2) (.cons (.var 1) .nil)))) .nil)))))) .nil)⟩
/-- level_division: 0 order 1 ranks 2 thing 3 rank -/
def F_level_division (j_rank_of : Nat) : Fn := ⟨1, 4, (.cons (.asg (.one 1) (.comp [2] (.call j_rank_of (.cons (.var 0) (.cons (.var 2) .nil))) (.cons (.one 2) (.rng (.o2 .idx (.var 0) (.cst (natD 0)))) (.cst (.bool true)) .nil))) (.cons (.ret (.o1 .tuple (.comp [3] (.o1 .tuple (.comp [2] (.var 2) (.cons (.one 2) (.rng (.o2 .idx (.var 0) (.cst (natD 0)))) (.o2 .eq (.o2 .idx (.var 1) (.var 2)) (.var 3)) .nil))) (.cons (.one 3) (.rng2 (.cst (natD 1)) (.o2 .add (.o1 .max (.var 1)) (.cst (natD 1)))) (.cst (.bool true)) .nil)))) .nil))⟩
/-- law: 0 script 1 row 2 order 3 n 4 pairs 5 flat 6 steep 7 one 8 within 9 wide 10 high 11 ranks 12 x 13 due 14 y 15 rank -/
def F_law_k07 (j__law_row j__law_order j__law_sets j__law_like j_levels j_width j_height j_widest j_longest j_level_division : Nat) : Fn := ⟨1, 16, (.cons (.asg (.one 1) (.call j__law_row (.cons (.var 0) (.cons (.cst (natD 20)) .nil)))) (.cons (.asg (.one 2) (.call j__law_order (.cons (.var 1) (.cons (.cst (natD 0)) (.cons (.cst (natD 7)) .nil))))) (.cons (.asg (.tup [3, 4]) (.var 2)) (.cons (.par [5, 6] (.cons (.lst .nil) (.cons (.lst .nil) .nil))) (.cons (.for_ (.one 7) (.dat (.call j__law_sets (.cons (.var 3) .nil))) (.cons (.asg (.one 8) (.o1 .len (.comp [12, 14] (.cst (natD 1)) (.cons (.tup [12, 14]) (.dat (.var 4)) (.and (.o2 .isIn (.var 12) (.var 7)) (.o2 .isIn (.var 14) (.var 7))) .nil)))) (.cons (.ite (.o2 .eq (.var 8) (.cst (natD 0))) (.cons (.app 5 (.var 7)) .nil) .nil) (.cons (.ite (.o2 .eq (.o2 .mul (.cst (natD 2)) (.var 8)) (.o2 .mul (.o1 .len (.var 7)) (.o2 .sub (.o1 .len (.var 7)) (.cst (natD 1))))) (.cons (.app 6 (.var 7)) .nil) .nil) .nil))) [.sh, .sh, .sh, .sh, .sh, .own, .own, .dead, .dead, .dead, .dead, .dead, .dead, .dead, .dead, .dead]) (.cons (.ite (.not (.call j__law_like (.cons (.call j_levels (.cons (.var 2) .nil)) (.cons (.o1 .tuple (.o1 .sorted (.var 5))) .nil)))) (.cons (.ret (.cst (.bool false))) .nil) .nil) (.cons (.asg (.tup [9, 10]) (.tup (.cons (.o1 .max (.comp [7] (.o1 .len (.var 7)) (.cons (.one 7) (.dat (.var 5)) (.cst (.bool true)) .nil))) (.cons (.o1 .max (.comp [7] (.o1 .len (.var 7)) (.cons (.one 7) (.dat (.var 6)) (.cst (.bool true)) .nil))) .nil)))) (.cons (.ite (.or (.not (.call j__law_like (.cons (.call j_width (.cons (.var 2) .nil)) (.cons (.var 9) .nil)))) (.not (.call j__law_like (.cons (.call j_height (.cons (.var 2) .nil)) (.cons (.var 10) .nil))))) (.cons (.ret (.cst (.bool false))) .nil) .nil) (.cons (.ite (.not (.call j__law_like (.cons (.call j_widest (.cons (.var 2) .nil)) (.cons (.o1 .min (.comp [7] (.var 7) (.cons (.one 7) (.dat (.var 5)) (.o2 .eq (.o1 .len (.var 7)) (.var 9)) .nil))) .nil)))) (.cons (.ret (.cst (.bool false))) .nil) .nil) (.cons (.ite (.not (.call j__law_like (.cons (.call j_longest (.cons (.var 2) .nil)) (.cons (.o1 .min (.comp [7] (.var 7) (.cons (.one 7) (.dat (.var 6)) (.o2 .eq (.o1 .len (.var 7)) (.var 10)) .nil))) .nil)))) (.cons (.ret (.cst (.bool false))) .nil) .nil) (.cons (.asg (.one 11) (.lst .nil)) (.cons (.for_ (.one 12) (.rng (.var 3)) (.cons (.app 11 (.o1 .max (.comp [7] (.o1 .len (.var 7)) (.cons (.one 7) (.dat (.var 6)) (.and (.o2 .isIn (.var 12) (.var 7)) (.not (.o1 .any (.comp [14] (.o2 .isIn (.tup (.cons (.var 12) (.cons (.var 14) .nil))) (.var 4)) (.cons (.one 14) (.dat (.var 7)) (.cst (.bool true)) .nil))))) .nil)))) .nil) [.sh, .sh, .sh, .sh, .sh, .own, .own, .dead, .dead, .sh, .sh, .own, .dead, .dead, .dead, .dead]) (.cons (.asg (.one 13) (.o1 .tuple (.comp [15] (.o1 .tuple (.comp [12] (.var 12) (.cons (.one 12) (.rng (.var 3)) (.o2 .eq (.o2 .idx (.var 11) (.var 12)) (.var 15)) .nil))) (.cons (.one 15) (.rng2 (.cst (natD 1)) (.o2 .add (.var 10) (.cst (natD 1)))) (.cst (.bool true)) .nil)))) (.cons (.ret (.call j__law_like (.cons (.call j_level_division (.cons (.var 2) .nil)) (.cons (.var 13) .nil)))) .nil))))))))))))))⟩
/-- put_with_place: 0 rows 1 number 2 found 3 place 4 row 5 greater 6 at 7 other -/
def F_put_with_place : Fn := ⟨2, 8, (.cons (.asg (.one 2) (.o1 .list (.var 0))) (.cons (.for_ (.tup [3, 4]) (.enu (.var 0)) (.cons (.asg (.one 5) (.comp [6, 7] (.var 6) (.cons (.tup [6, 7]) (.enu (.var 4)) (.o2 .gt (.var 7) (.var 1)) .nil))) (.cons (.ite (.not (.var 5)) (.cons (.set 2 (.var 3) (.o2 .add (.var 4) (.tup (.cons (.var 1) .nil)))) (.cons (.ret (.tup (.cons (.o1 .tuple (.var 2)) (.cons (.var 3) .nil)))) .nil)) .nil) (.cons (.asg (.one 6) (.o2 .idx (.var 5) (.cst (natD 0)))) (.cons (.set 2 (.var 3) (.o2 .add (.o2 .add (.o2 .upto (.var 4) (.var 6)) (.tup (.cons (.var 1) .nil))) (.o2 .from_ (.var 4) (.o2 .add (.var 6) (.cst (natD 1)))))) (.cons (.asg (.one 1) (.o2 .idx (.var 4) (.var 6))) .nil))))) [.sh, .sh, .own, .dead, .dead, .dead, .dead, .dead]) (.cons (.ret (.tup (.cons (.o2 .add (.o1 .tuple (.var 2)) (.tup (.cons (.tup (.cons (.var 1) .nil)) .nil))) (.cons (.o1 .len (.var 0)) .nil)))) .nil)))⟩
/-- put_in: 0 rows 1 number -/
def F_put_in (j_put_with_place : Nat) : Fn := ⟨2, 2, (.cons (.ret (.o2 .idx (.call j_put_with_place (.cons (.var 0) (.cons (.var 1) .nil))) (.cst (natD 0)))) .nil)⟩
/-- both: 0 numbers 1 rows 2 places 3 turn 4 number 5 grown -/
def F_both (j_put_with_place : Nat) : Fn := ⟨1, 6, (.cons (.asg (.tup [1, 2]) (.tup (.cons (.tup .nil) (.cons (.tup .nil) .nil)))) (.cons (.for_ (.tup [3, 4]) (.enu (.var 0)) (.cons (.asg (.tup [1, 5]) (.call j_put_with_place (.cons (.var 1) (.cons (.var 4) .nil)))) (.cons (.ite (.o2 .eq (.var 5) (.o1 .len (.var 2))) (.cons (.asg (.one 2) (.o2 .add (.var 2) (.tup (.cons (.tup .nil) .nil)))) .nil) .nil) (.cons (.asg (.one 2) (.o2 .add (.o2 .add (.o2 .upto (.var 2) (.var 5)) (.tup (.cons (.o2 .add (.o2 .idx (.var 2) (.var 5)) (.tup (.cons (.o2 .add (.var 3) (.cst (natD 1))) .nil))) .nil))) (.o2 .from_ (.var 2) (.o2 .add (.var 5) (.cst (natD 1)))))) .nil))) [.sh, .sh, .sh, .dead, .dead, .dead]) (.cons (.ret (.tup (.cons (.var 1) (.cons (.var 2) .nil)))) .nil)))⟩
/-- tableau: 0 numbers -/
def F_tableau (j_both : Nat) : Fn := ⟨1, 1, (.cons (.ret (.o2 .idx (.call j_both (.cons (.var 0) .nil)) (.cst (natD 0)))) .nil)⟩
/-- places_told: 0 numbers -/
def F_places_told (j_both : Nat) : Fn := ⟨1, 1, (.cons (.ret (.o2 .idx (.call j_both (.cons (.var 0) .nil)) (.cst (natD 1)))) .nil)⟩
/-- _law_put: 0 rows 1 number 2 k 3 later 4 old 5 j -/
def F__law_put : Fn := ⟨2, 6, (.cons (.asg (.one 0) (.o1 .list (.var 0))) (.cons (.for_ (.one 2) (.rng (.o1 .len (.var 0))) (.cons (.asg (.one 3) (.comp [5] (.var 5) (.cons (.one 5) (.rng (.o1 .len (.o2 .idx (.var 0) (.var 2)))) (.o2 .gt (.o2 .idx (.o2 .idx (.var 0) (.var 2)) (.var 5)) (.var 1)) .nil))) (.cons (.ite (.o2 .eq (.o1 .len (.var 3)) (.cst (natD 0))) (.cons (.set 0 (.var 2) (.o2 .add (.o2 .idx (.var 0) (.var 2)) (.tup (.cons (.var 1) .nil)))) (.cons (.ret (.tup (.cons (.o1 .tuple (.var 0)) (.cons (.var 2) .nil)))) .nil)) .nil) (.cons (.asg (.one 4) (.o2 .idx (.o2 .idx (.var 0) (.var 2)) (.o2 .idx (.var 3) (.cst (natD 0))))) (.cons (.set 0 (.var 2) (.o2 .add (.o2 .add (.o2 .upto (.o2 .idx (.var 0) (.var 2)) (.o2 .idx (.var 3) (.cst (natD 0)))) (.tup (.cons (.var 1) .nil))) (.o2 .from_ (.o2 .idx (.var 0) (.var 2)) (.o2 .add (.o2 .idx (.var 3) (.cst (natD 0))) (.cst (natD 1)))))) (.cons (.asg (.one 1) (.var 4)) .nil))))) [.own, .sh, .dead, .dead, .dead, .dead]) (.cons (.ret (.tup (.cons (.o2 .add (.o1 .tuple (.var 0)) (.tup (.cons (.tup (.cons (.var 1) .nil)) .nil))) (.cons (.o1 .len (.var 0)) .nil)))) .nil)))⟩
/-- _law_both: 0 numbers 1 rows 2 places 3 turn 4 k -/
def F__law_both (j__law_put : Nat) : Fn := ⟨1, 5, (.cons (.par [1, 2] (.cons (.tup .nil) (.cons (.lst .nil) .nil))) (.cons (.for_ (.one 3) (.rng (.o1 .len (.var 0))) (.cons (.asg (.tup [1, 4]) (.call j__law_put (.cons (.var 1) (.cons (.o2 .idx (.var 0) (.var 3)) .nil)))) (.cons (.ite (.o2 .eq (.var 4) (.o1 .len (.var 2))) (.cons (.app 2 (.tup .nil)) .nil) .nil) (.cons (.set 2 (.var 4) (.o2 .add (.o2 .idx (.var 2) (.var 4)) (.tup (.cons (.o2 .add (.var 3) (.cst (natD 1))) .nil)))) .nil))) [.sh, .sh, .own, .dead, .dead]) (.cons (.ret (.tup (.cons (.var 1) (.cons (.o1 .tuple (.var 2)) .nil)))) .nil)))⟩
/-- _law_numbers: 0 row 1 at 2 most 3 top 4 k -/
def F__law_numbers : Fn := ⟨3, 5, (.cons (.asg (.one 3) (.o2 .idx (.tup (.cons (.cst (natD 2)) (.cons (.cst (natD 4)) (.cons (.cst (natD 8)) (.cons (.cst (natD 30)) .nil))))) (.o2 .mod (.o1 .int (.o2 .idx (.var 0) (.o2 .add (.var 1) (.cst (natD 1))))) (.cst (natD 4))))) (.cons (.ret (.o1 .tuple (.comp [4] (.o2 .sub (.o2 .mod (.o1 .int (.o2 .idx (.var 0) (.o2 .add (.o2 .add (.var 1) (.cst (natD 2))) (.var 4)))) (.var 3)) (.cst (natD 2))) (.cons (.one 4) (.rng (.o2 .mod (.o1 .int (.o2 .idx (.var 0) (.var 1))) (.o2 .add (.var 2) (.cst (natD 1))))) (.cst (.bool true)) .nil)))) .nil))⟩
/-- law: 0 script 1 row 2 numbers 3 rows 4 places 5 k 6 j -/
def F_law_k22 (j__law_row j__law_numbers j__law_both j__law_like j_tableau j_places_told j_put_in j__law_put : Nat) : Fn := ⟨1, 7, (.cons (.asg (.one 1) (.call j__law_row (.cons (.var 0) (.cons (.cst (natD 14)) .nil)))) (.cons (.asg (.one 2) (.call j__law_numbers (.cons (.var 1) (.cons (.cst (natD 0)) (.cons (.cst (natD 8)) .nil))))) (.cons (.asg (.tup [3, 4]) (.call j__law_both (.cons (.var 2) .nil))) (.cons (.ite (.or (.not (.call j__law_like (.cons (.call j_tableau (.cons (.var 2) .nil)) (.cons (.var 3) .nil)))) (.not (.call j__law_like (.cons (.call j_places_told (.cons (.var 2) .nil)) (.cons (.var 4) .nil))))) (.cons (.ret (.cst (.bool false))) .nil) .nil) (.cons (.ite (.not (.call j__law_like (.cons (.call j_put_in (.cons (.var 3) (.cons (.o2 .sub (.o2 .mod (.o1 .int (.o2 .idx (.var 1) (.cst (natD 12)))) (.cst (natD 9))) (.cst (natD 2))) .nil))) (.cons (.o2 .idx (.call j__law_put (.cons (.var 3) (.cons (.o2 .sub (.o2 .mod (.o1 .int (.o2 .idx (.var 1) (.cst (natD 12)))) (.cst (natD 9))) (.cst (natD 2))) .nil))) (.cst (natD 0))) .nil)))) (.cons (.ret (.cst (.bool false))) .nil) .nil) (.cons (.for_ (.one 5) (.rng (.o1 .len (.var 3))) (.cons (.ite (.not (.o1 .all (.comp [6] (.o2 .le (.o2 .idx (.o2 .idx (.var 3) (.var 5)) (.var 6)) (.o2 .idx (.o2 .idx (.var 3) (.var 5)) (.o2 .add (.var 6) (.cst (natD 1))))) (.cons (.one 6) (.rng (.o2 .sub (.o1 .len (.o2 .idx (.var 3) (.var 5))) (.cst (natD 1)))) (.cst (.bool true)) .nil)))) (.cons (.ret (.cst (.bool false))) .nil) .nil) (.cons (.ite (.and (.o2 .gt (.var 5) (.cst (natD 0))) (.or (.o2 .gt (.o1 .len (.o2 .idx (.var 3) (.var 5))) (.o1 .len (.o2 .idx (.var 3) (.o2 .sub (.var 5) (.cst (natD 1)))))) (.not (.o1 .all (.comp [6] (.o2 .lt (.o2 .idx (.o2 .idx (.var 3) (.o2 .sub (.var 5) (.cst (natD 1)))) (.var 6)) (.o2 .idx (.o2 .idx (.var 3) (.var 5)) (.var 6))) (.cons (.one 6) (.rng (.o1 .len (.o2 .idx (.var 3) (.var 5)))) (.cst (.bool true)) .nil)))))) (.cons (.ret (.cst (.bool false))) .nil) .nil) .nil)) [.sh, .sh, .sh, .sh, .sh, .dead, .dead]) (.cons (.ret (.cst (.bool true))) .nil)))))))⟩
/-- fours: 0 order 1 things 2 w 3 x 4 y 5 z -/
def F_fours : Fn := ⟨1, 6, (.cons (.asg (.one 1) (.rgl false (.cst (.int 0)) (.o2 .idx (.var 0) (.cst (natD 0))))) (.cons (.ret (.comp [2, 3, 4, 5] (.tup (.cons (.var 2) (.cons (.var 3) (.cons (.var 4) (.cons (.var 5) .nil))))) (.cons (.one 2) (.dat (.var 1)) (.cst (.bool true)) (.cons (.one 3) (.dat (.var 1)) (.cst (.bool true)) (.cons (.one 4) (.dat (.var 1)) (.cst (.bool true)) (.cons (.one 5) (.dat (.var 1)) (.o2 .eq (.o1 .lset (.tup (.cons (.var 2) (.cons (.var 3) (.cons (.var 4) (.cons (.var 5) .nil)))))) (.cst (natD 4))) .nil)))))) .nil))⟩
/-- two_and_two: 0 order 1 w 2 x 3 y 4 z -/
def F_two_and_two (j_fours j_is_before j_are_apart : Nat) : Fn := ⟨1, 5, (.cons (.for_ (.tup [1, 2, 3, 4]) (.dat (.call j_fours (.cons (.var 0) .nil))) (.cons (.ite (.and (.o2 .lt (.var 1) (.var 3)) (.and (.call j_is_before (.cons (.var 0) (.cons (.var 1) (.cons (.var 2) .nil)))) (.call j_is_before (.cons (.var 0) (.cons (.var 3) (.cons (.var 4) .nil)))))) (.cons (.ite (.and (.call j_are_apart (.cons (.var 0) (.cons (.var 1) (.cons (.var 4) .nil)))) (.call j_are_apart (.cons (.var 0) (.cons (.var 3) (.cons (.var 2) .nil))))) (.cons (.ret (.tup (.cons (.var 1) (.cons (.var 2) (.cons (.var 3) (.cons (.var 4) .nil)))))) .nil) .nil) .nil) .nil) .nil) [.sh, .dead, .dead, .dead, .dead]) (.cons (.ret (.cst (.none))) .nil))⟩
/-- spans: 0 order 1 own 2 sets 3 thing 4 one -/
def F_spans (j_two_and_two j_before_set : Nat) : Fn := ⟨1, 5, (.cons (.ite (.o1 .notN (.call j_two_and_two (.cons (.var 0) .nil))) (.cons (.ret (.cst (.none))) .nil) .nil) (.cons (.asg (.one 1) (.comp [3] (.call j_before_set (.cons (.var 0) (.cons (.var 3) .nil))) (.cons (.one 3) (.rng (.o2 .idx (.var 0) (.cst (natD 0)))) (.cst (.bool true)) .nil))) (.cons (.asg (.one 2) (.o1 .sset (.var 1))) (.cons (.ret (.o1 .tuple (.comp [3] (.tup (.cons (.o1 .len (.comp [4] (.var 4) (.cons (.one 4) (.dat (.var 2)) (.o2 .lt (.o1 .len (.var 4)) (.o1 .len (.o2 .idx (.var 1) (.var 3)))) .nil))) (.cons (.o2 .sub (.o1 .len (.comp [4] (.var 4) (.cons (.one 4) (.dat (.var 2)) (.o2 .notIn (.var 3) (.var 4)) .nil))) (.cst (natD 1))) .nil))) (.cons (.one 3) (.rng (.o2 .idx (.var 0) (.cst (natD 0)))) (.cst (.bool true)) .nil)))) .nil))))⟩
/-- _law_tuples: 0 n 1 size 2 rows 3 turn 4 grown 5 row 6 x -/
def F__law_tuples : Fn := ⟨2, 7, (.cons (.asg (.one 2) (.lst (.cons (.tup .nil) .nil))) (.cons (.frz 2) (.cons (.for_ (.one 3) (.rng (.var 1)) (.cons (.asg (.one 4) (.lst .nil)) (.cons (.for_ (.one 5) (.dat (.var 2)) (.cons (.ext 4 (.comp [6] (.o2 .add (.var 5) (.tup (.cons (.var 6) .nil))) (.cons (.one 6) (.rng (.var 0)) (.o2 .notIn (.var 6) (.var 5)) .nil))) .nil) [.sh, .sh, .sh, .sh, .own, .dead, .dead]) (.cons (.frz 4) (.cons (.asg (.one 2) (.var 4)) .nil)))) [.sh, .sh, .sh, .dead, .dead, .dead, .dead]) (.cons (.ret (.var 2)) .nil))))⟩
/-- law: 0 script 1 row 2 order 3 n 4 ends 5 pairs 6 x 7 due 8 w 9 y 10 z 11 before 12 sets 13 told 14 a 15 k 16 one -/
def F_law_k10 (j__law_row j__law_order j__law_tuples j__law_apart j__law_like j_two_and_two j_spans : Nat) : Fn := ⟨1, 17, (.cons (.asg (.one 1) (.call j__law_row (.cons (.var 0) (.cons (.cst (natD 40)) .nil)))) (.cons (.asg (.one 2) (.call j__law_order (.cons (.var 1) (.cons (.cst (natD 0)) (.cons (.cst (natD 7)) .nil))))) (.cons (.asg (.one 3) (.o2 .idx (.var 2) (.cst (natD 0)))) (.cons (.ite (.o2 .eq (.o2 .mod (.o2 .idx (.var 1) (.cst (natD 20))) (.cst (natD 2))) (.cst (natD 1))) (.cons (.asg (.one 4) (.comp [15] (.tup (.cons (.o2 .mod (.o1 .int (.o2 .idx (.var 1) (.o2 .add (.cst (natD 21)) (.var 15)))) (.cst (natD 8))) (.cons (.o2 .add (.o2 .mod (.o1 .int (.o2 .idx (.var 1) (.o2 .add (.cst (natD 21)) (.var 15)))) (.cst (natD 8))) (.o2 .mod (.o1 .int (.o2 .idx (.var 1) (.o2 .add (.cst (natD 28)) (.var 15)))) (.cst (natD 4)))) .nil))) (.cons (.one 15) (.rng (.var 3)) (.cst (.bool true)) .nil))) (.cons (.asg (.one 5) (.lst .nil)) (.cons (.for_ (.one 6) (.rng (.var 3)) (.cons (.ext 5 (.comp [9] (.tup (.cons (.var 6) (.cons (.var 9) .nil))) (.cons (.one 9) (.rng (.var 3)) (.o2 .lt (.o2 .idx (.o2 .idx (.var 4) (.var 6)) (.cst (natD 1))) (.o2 .idx (.o2 .idx (.var 4) (.var 9)) (.cst (natD 0)))) .nil))) .nil) [.sh, .sh, .sh, .sh, .own, .own, .dead, .dead, .dead, .dead, .dead, .dead, .dead, .dead, .dead, .dead, .dead]) (.cons (.asg (.one 2) (.tup (.cons (.var 3) (.cons (.o1 .tuple (.o1 .sorted (.var 5))) .nil)))) .nil)))) .nil) (.cons (.asg (.one 5) (.o2 .idx (.var 2) (.cst (natD 1)))) (.cons (.asg (.one 7) (.cst (.none))) (.cons (.for_ (.tup [8, 6, 9, 10]) (.dat (.call j__law_tuples (.cons (.var 3) (.cons (.cst (natD 4)) .nil)))) (.cons (.ite (.and (.o1 .isN (.var 7)) (.and (.o2 .lt (.var 8) (.var 9)) (.and (.o2 .isIn (.tup (.cons (.var 8) (.cons (.var 6) .nil))) (.var 5)) (.o2 .isIn (.tup (.cons (.var 9) (.cons (.var 10) .nil))) (.var 5))))) (.cons (.ite (.and (.call j__law_apart (.cons (.var 2) (.cons (.var 8) (.cons (.var 10) .nil)))) (.call j__law_apart (.cons (.var 2) (.cons (.var 9) (.cons (.var 6) .nil))))) (.cons (.asg (.one 7) (.tup (.cons (.var 8) (.cons (.var 6) (.cons (.var 9) (.cons (.var 10) .nil)))))) .nil) .nil) .nil) .nil) .nil) [.sh, .sh, .sh, .sh, .dead, .sh, .dead, .sh, .dead, .dead, .dead, .dead, .dead, .dead, .dead, .dead, .dead]) (.cons (.ite (.not (.call j__law_like (.cons (.call j_two_and_two (.cons (.var 2) .nil)) (.cons (.var 7) .nil)))) (.cons (.ret (.cst (.bool false))) .nil) .nil) (.cons (.ite (.o1 .notN (.var 7)) (.cons (.ret (.o1 .isN (.call j_spans (.cons (.var 2) .nil)))) .nil) .nil) (.cons (.asg (.one 11) (.comp [9] (.o1 .tuple (.comp [6] (.var 6) (.cons (.one 6) (.rng (.var 3)) (.o2 .isIn (.tup (.cons (.var 6) (.cons (.var 9) .nil))) (.var 5)) .nil))) (.cons (.one 9) (.rng (.var 3)) (.cst (.bool true)) .nil))) (.cons (.asg (.one 12) (.o1 .sset (.var 11))) (.cons (.asg (.one 13) (.lst .nil)) (.cons (.for_ (.one 6) (.rng (.var 3)) (.cons (.asg (.one 14) (.o1 .len (.comp [16] (.var 16) (.cons (.one 16) (.dat (.var 12)) (.and (.o2 .lt (.o1 .len (.var 16)) (.o1 .len (.o2 .idx (.var 11) (.var 6)))) (.o1 .all (.comp [10] (.o2 .isIn (.var 10) (.o2 .idx (.var 11) (.var 6))) (.cons (.one 10) (.dat (.var 16)) (.cst (.bool true)) .nil)))) .nil)))) (.cons (.app 13 (.tup (.cons (.var 14) (.cons (.o2 .sub (.o1 .len (.comp [16] (.var 16) (.cons (.one 16) (.dat (.var 12)) (.o2 .notIn (.var 6) (.var 16)) .nil))) (.cst (natD 1))) .nil)))) .nil)) [.sh, .sh, .sh, .sh, .dead, .sh, .dead, .sh, .dead, .dead, .dead, .own, .own, .own, .dead, .dead, .dead]) (.cons (.ite (.not (.call j__law_like (.cons (.call j_spans (.cons (.var 2) .nil)) (.cons (.o1 .tuple (.var 13)) .nil)))) (.cons (.ret (.cst (.bool false))) .nil) .nil) (.cons (.for_ (.one 6) (.rng (.var 3)) (.cons (.ite (.not (.o1 .all (.comp [9] (.o2 .eq (.o2 .lt (.o2 .idx (.o2 .idx (.var 13) (.var 6)) (.cst (natD 1))) (.o2 .idx (.o2 .idx (.var 13) (.var 9)) (.cst (natD 0)))) (.o2 .isIn (.tup (.cons (.var 6) (.cons (.var 9) .nil))) (.var 5))) (.cons (.one 9) (.rng (.var 3)) (.cst (.bool true)) .nil)))) (.cons (.ret (.cst (.bool false))) .nil) .nil) .nil) [.sh, .sh, .sh, .sh, .dead, .sh, .dead, .sh, .dead, .dead, .dead, .own, .own, .own, .dead, .dead, .dead]) (.cons (.ret (.cst (.bool true))) .nil))))))))))))))))⟩
/-- divisions: 0 members 1 rows 2 member 3 grown 4 row 5 place 6 part -/
def F_divisions : Fn := ⟨1, 7, (.cons (.asg (.one 1) (.lst (.cons (.tup .nil) .nil))) (.cons (.frz 1) (.cons (.for_ (.one 2) (.dat (.var 0)) (.cons (.asg (.one 3) (.lst .nil)) (.cons (.for_ (.one 4) (.dat (.var 1)) (.cons (.app 3 (.o2 .add (.var 4) (.tup (.cons (.tup (.cons (.var 2) .nil)) .nil)))) (.cons (.for_ (.tup [5, 6]) (.enu (.var 4)) (.cons (.app 3 (.o2 .add (.o2 .add (.o2 .upto (.var 4) (.var 5)) (.tup (.cons (.o2 .add (.var 6) (.tup (.cons (.var 2) .nil))) .nil))) (.o2 .from_ (.var 4) (.o2 .add (.var 5) (.cst (natD 1)))))) .nil) [.sh, .sh, .sh, .own, .sh, .dead, .dead]) .nil)) [.sh, .sh, .sh, .own, .dead, .dead, .dead]) (.cons (.frz 3) (.cons (.asg (.one 1) (.var 3)) .nil)))) [.sh, .sh, .dead, .dead, .dead, .dead, .dead]) (.cons (.ret (.var 1)) .nil))))⟩
/-- chains: 0 order 1 count 2 sets 3 things -/
def F_chains (j_width j_divisions j_is_chain : Nat) : Fn := ⟨1, 4, (.cons (.asg (.one 1) (.call j_width (.cons (.var 0) .nil))) (.cons (.ret (.o1 .min (.comp [2] (.var 2) (.cons (.one 2) (.dat (.call j_divisions (.cons (.rgl true (.cst (.int 0)) (.o2 .idx (.var 0) (.cst (natD 0)))) .nil))) (.and (.o2 .eq (.o1 .len (.var 2)) (.var 1)) (.o1 .all (.comp [3] (.call j_is_chain (.cons (.var 0) (.cons (.var 3) .nil))) (.cons (.one 3) (.dat (.var 2)) (.cst (.bool true)) .nil)))) .nil)))) .nil))⟩
/-- _law_divisions: 0 n 1 rows 2 point 3 grown 4 row 5 k -/
def F__law_divisions : Fn := ⟨1, 6, (.cons (.asg (.one 1) (.lst (.cons (.tup (.cons (.tup (.cons (.cst (natD 0)) .nil)) .nil)) .nil))) (.cons (.frz 1) (.cons (.for_ (.one 2) (.rng2 (.cst (natD 1)) (.var 0)) (.cons (.asg (.one 3) (.lst .nil)) (.cons (.for_ (.one 4) (.dat (.var 1)) (.cons (.for_ (.one 5) (.rng (.o1 .len (.var 4))) (.cons (.app 3 (.o2 .add (.o2 .add (.o2 .upto (.var 4) (.var 5)) (.tup (.cons (.o2 .add (.o2 .idx (.var 4) (.var 5)) (.tup (.cons (.var 2) .nil))) .nil))) (.o2 .from_ (.var 4) (.o2 .add (.var 5) (.cst (natD 1)))))) .nil) [.sh, .sh, .sh, .own, .sh, .dead]) (.cons (.app 3 (.o2 .add (.var 4) (.tup (.cons (.tup (.cons (.var 2) .nil)) .nil)))) .nil)) [.sh, .sh, .sh, .own, .dead, .dead]) (.cons (.frz 3) (.cons (.asg (.one 1) (.var 3)) .nil)))) [.sh, .sh, .dead, .dead, .dead, .dead]) (.cons (.ret (.var 1)) .nil))))⟩
/-- law: 0 script 1 row 2 order 3 n 4 pairs 5 good 6 sets 7 within 8 least 9 due 10 x 11 y 12 one -/
def F_law_k08 (j__law_row j__law_order j__law_divisions j__law_like j_chains j_width : Nat) : Fn := ⟨1, 13, (.cons (.asg (.one 1) (.call j__law_row (.cons (.var 0) (.cons (.cst (natD 20)) .nil)))) (.cons (.asg (.one 2) (.call j__law_order (.cons (.var 1) (.cons (.cst (natD 0)) (.cons (.cst (natD 6)) .nil))))) (.cons (.asg (.tup [3, 4]) (.var 2)) (.cons (.asg (.one 5) (.lst .nil)) (.cons (.for_ (.one 6) (.dat (.call j__law_divisions (.cons (.var 3) .nil))) (.cons (.asg (.one 7) (.o1 .len (.comp [10, 11] (.cst (natD 1)) (.cons (.tup [10, 11]) (.dat (.var 4)) (.o1 .any (.comp [12] (.and (.o2 .isIn (.var 10) (.var 12)) (.o2 .isIn (.var 11) (.var 12))) (.cons (.one 12) (.dat (.var 6)) (.cst (.bool true)) .nil))) .nil)))) (.cons (.ite (.o2 .eq (.o2 .mul (.cst (natD 2)) (.var 7)) (.o1 .sum (.comp [12] (.o2 .mul (.o1 .len (.var 12)) (.o2 .sub (.o1 .len (.var 12)) (.cst (natD 1)))) (.cons (.one 12) (.dat (.var 6)) (.cst (.bool true)) .nil)))) (.cons (.app 5 (.var 6)) .nil) .nil) .nil)) [.sh, .sh, .sh, .sh, .sh, .own, .dead, .dead, .dead, .dead, .dead, .dead, .dead]) (.cons (.asg (.one 8) (.o1 .min (.comp [6] (.o1 .len (.var 6)) (.cons (.one 6) (.dat (.var 5)) (.cst (.bool true)) .nil)))) (.cons (.asg (.one 9) (.o1 .min (.comp [6] (.var 6) (.cons (.one 6) (.dat (.var 5)) (.o2 .eq (.o1 .len (.var 6)) (.var 8)) .nil)))) (.cons (.ret (.and (.call j__law_like (.cons (.call j_chains (.cons (.var 2) .nil)) (.cons (.var 9) .nil))) (.call j__law_like (.cons (.call j_width (.cons (.var 2) .nil)) (.cons (.var 8) .nil))))) .nil))))))))⟩
/-- three_and_one: 0 order 1 w 2 x 3 y 4 z 5 other -/
def F_three_and_one (j_fours j_is_before j_are_apart : Nat) : Fn := ⟨1, 6, (.cons (.for_ (.tup [1, 2, 3, 4]) (.dat (.call j_fours (.cons (.var 0) .nil))) (.cons (.ite (.and (.call j_is_before (.cons (.var 0) (.cons (.var 1) (.cons (.var 2) .nil)))) (.call j_is_before (.cons (.var 0) (.cons (.var 2) (.cons (.var 3) .nil))))) (.cons (.ite (.o1 .all (.comp [5] (.call j_are_apart (.cons (.var 0) (.cons (.var 4) (.cons (.var 5) .nil)))) (.cons (.one 5) (.dat (.tup (.cons (.var 1) (.cons (.var 2) (.cons (.var 3) .nil))))) (.cst (.bool true)) .nil))) (.cons (.ret (.tup (.cons (.var 1) (.cons (.var 2) (.cons (.var 3) (.cons (.var 4) .nil)))))) .nil) .nil) .nil) .nil) .nil) [.sh, .dead, .dead, .dead, .dead, .dead]) (.cons (.ret (.cst (.none))) .nil))⟩
/-- is_equal_spans: 0 order -/
def F_is_equal_spans (j_two_and_two j_three_and_one : Nat) : Fn := ⟨1, 1, (.cons (.ret (.and (.o1 .isN (.call j_two_and_two (.cons (.var 0) .nil))) (.o1 .isN (.call j_three_and_one (.cons (.var 0) .nil))))) .nil)⟩
/-- _law_fits: 0 order 1 n 2 far 3 scale 4 turn 5 changed 6 x 7 y 8 need -/
def F__law_fits : Fn := ⟨1, 9, (.cons (.asg (.one 1) (.o2 .idx (.var 0) (.cst (natD 0)))) (.cons (.asg (.one 2) (.comp [6] (.cst (natD 0)) (.cons (.one 6) (.rng (.var 1)) (.cst (.bool true)) .nil))) (.cons (.asg (.one 3) (.o2 .mul (.cst (natD 4)) (.var 1))) (.cons (.for_ (.one 4) (.rng (.o2 .add (.var 1) (.cst (natD 1)))) (.cons (.asg (.one 5) (.cst (.bool false))) (.cons (.for_ (.one 6) (.rng (.var 1)) (.cons (.for_ (.one 7) (.rng (.var 1)) (.cons (.asg (.one 8) (.cst (.none))) (.cons (.ite (.o2 .isIn (.tup (.cons (.var 6) (.cons (.var 7) .nil))) (.o2 .idx (.var 0) (.cst (natD 1)))) (.cons (.asg (.one 8) (.o2 .add (.o2 .add (.o2 .idx (.var 2) (.var 6)) (.var 3)) (.cst (natD 1)))) .nil) (.cons (.ite (.and (.o2 .ne (.var 6) (.var 7)) (.o2 .notIn (.tup (.cons (.var 7) (.cons (.var 6) .nil))) (.o2 .idx (.var 0) (.cst (natD 1))))) (.cons (.asg (.one 8) (.o2 .sub (.o2 .idx (.var 2) (.var 6)) (.var 3))) .nil) .nil) .nil)) (.cons (.ite (.and (.o1 .notN (.var 8)) (.o2 .lt (.o2 .idx (.var 2) (.var 7)) (.var 8))) (.cons (.set 2 (.var 7) (.var 8)) (.cons (.asg (.one 5) (.cst (.bool true))) .nil)) .nil) .nil))) [.sh, .sh, .own, .sh, .sh, .sh, .sh, .dead, .dead]) .nil) [.sh, .sh, .own, .sh, .sh, .sh, .dead, .dead, .dead]) (.cons (.ite (.not (.var 5)) (.cons (.ret (.cst (.bool true))) .nil) .nil) .nil))) [.sh, .sh, .own, .sh, .dead, .dead, .dead, .dead, .dead]) (.cons (.ret (.cst (.bool false))) .nil)))))⟩
/-- law: 0 script 1 row 2 order 3 n 4 made 5 starts 6 length 7 pairs 8 x 9 due 10 cross 11 w 12 y 13 z 14 equal 15 k -/
def F_law_k11 (j__law_row j__law_order j__law_tuples j__law_apart j__law_fits j__law_like j_three_and_one j_is_equal_spans : Nat) : Fn := ⟨1, 16, (.cons (.asg (.one 1) (.call j__law_row (.cons (.var 0) (.cons (.cst (natD 40)) .nil)))) (.cons (.asg (.one 2) (.call j__law_order (.cons (.var 1) (.cons (.cst (natD 0)) (.cons (.cst (natD 7)) .nil))))) (.cons (.asg (.one 3) (.o2 .idx (.var 2) (.cst (natD 0)))) (.cons (.asg (.one 4) (.o2 .eq (.o2 .mod (.o2 .idx (.var 1) (.cst (natD 20))) (.cst (natD 2))) (.cst (natD 1)))) (.cons (.ite (.var 4) (.cons (.asg (.one 5) (.comp [15] (.o2 .mod (.o1 .int (.o2 .idx (.var 1) (.o2 .add (.cst (natD 21)) (.var 15)))) (.cst (natD 30))) (.cons (.one 15) (.rng (.var 3)) (.cst (.bool true)) .nil))) (.cons (.asg (.one 6) (.o2 .add (.cst (natD 1)) (.o2 .mod (.o1 .int (.o2 .idx (.var 1) (.cst (natD 30)))) (.cst (natD 12))))) (.cons (.asg (.one 7) (.lst .nil)) (.cons (.for_ (.one 8) (.rng (.var 3)) (.cons (.ext 7 (.comp [12] (.tup (.cons (.var 8) (.cons (.var 12) .nil))) (.cons (.one 12) (.rng (.var 3)) (.o2 .lt (.o2 .add (.o2 .idx (.var 5) (.var 8)) (.var 6)) (.o2 .idx (.var 5) (.var 12))) .nil))) .nil) [.sh, .sh, .sh, .sh, .sh, .own, .sh, .own, .dead, .dead, .dead, .dead, .dead, .dead, .dead, .dead]) (.cons (.asg (.one 2) (.tup (.cons (.var 3) (.cons (.o1 .tuple (.o1 .sorted (.var 7))) .nil)))) .nil))))) .nil) (.cons (.asg (.one 7) (.o2 .idx (.var 2) (.cst (natD 1)))) (.cons (.asg (.tup [9, 10]) (.tup (.cons (.cst (.none)) (.cons (.cst (.bool false)) .nil)))) (.cons (.for_ (.tup [11, 8, 12, 13]) (.dat (.call j__law_tuples (.cons (.var 3) (.cons (.cst (natD 4)) .nil)))) (.cons (.ite (.and (.o1 .isN (.var 9)) (.and (.o2 .isIn (.tup (.cons (.var 11) (.cons (.var 8) .nil))) (.var 7)) (.o2 .isIn (.tup (.cons (.var 8) (.cons (.var 12) .nil))) (.var 7)))) (.cons (.ite (.and (.call j__law_apart (.cons (.var 2) (.cons (.var 11) (.cons (.var 13) .nil)))) (.and (.call j__law_apart (.cons (.var 2) (.cons (.var 8) (.cons (.var 13) .nil)))) (.call j__law_apart (.cons (.var 2) (.cons (.var 12) (.cons (.var 13) .nil)))))) (.cons (.asg (.one 9) (.tup (.cons (.var 11) (.cons (.var 8) (.cons (.var 12) (.cons (.var 13) .nil)))))) .nil) .nil) .nil) .nil) (.cons (.ite (.and (.o2 .isIn (.tup (.cons (.var 11) (.cons (.var 8) .nil))) (.var 7)) (.and (.o2 .isIn (.tup (.cons (.var 12) (.cons (.var 13) .nil))) (.var 7)) (.and (.call j__law_apart (.cons (.var 2) (.cons (.var 11) (.cons (.var 13) .nil)))) (.call j__law_apart (.cons (.var 2) (.cons (.var 12) (.cons (.var 8) .nil))))))) (.cons (.asg (.one 10) (.cst (.bool true))) .nil) .nil) .nil)) [.sh, .sh, .sh, .sh, .sh, .dead, .dead, .sh, .dead, .sh, .sh, .dead, .dead, .dead, .dead, .dead]) (.cons (.asg (.one 14) (.and (.o1 .isN (.var 9)) (.not (.var 10)))) (.cons (.ite (.or (.and (.var 4) (.not (.var 14))) (.o2 .ne (.call j__law_fits (.cons (.var 2) .nil)) (.var 14))) (.cons (.ret (.cst (.bool false))) .nil) .nil) (.cons (.ret (.and (.call j__law_like (.cons (.call j_three_and_one (.cons (.var 2) .nil)) (.cons (.var 9) .nil))) (.call j__law_like (.cons (.call j_is_equal_spans (.cons (.var 2) .nil)) (.cons (.var 14) .nil))))) .nil)))))))))))⟩
/-- threes: 0 order 1 things 2 x 3 y 4 z -/
def F_threes : Fn := ⟨1, 5, (.cons (.asg (.one 1) (.rgl false (.cst (.int 0)) (.o2 .idx (.var 0) (.cst (natD 0))))) (.cons (.ret (.comp [2, 3, 4] (.tup (.cons (.var 2) (.cons (.var 3) (.cons (.var 4) .nil)))) (.cons (.one 2) (.dat (.var 1)) (.cst (.bool true)) (.cons (.one 3) (.dat (.var 1)) (.cst (.bool true)) (.cons (.one 4) (.dat (.var 1)) (.cst (.bool true)) .nil))))) .nil))⟩
/-- is_modular: 0 order 1 x 2 y 3 z -/
def F_is_modular (j_join j_meet j_threes j_is_before : Nat) : Fn := ⟨1, 4, (.cons (.ret (.o1 .all (.comp [1, 2, 3] (.o2 .eq (.call j_join (.cons (.var 0) (.cons (.var 1) (.cons (.call j_meet (.cons (.var 0) (.cons (.var 2) (.cons (.var 3) .nil)))) .nil)))) (.call j_meet (.cons (.var 0) (.cons (.call j_join (.cons (.var 0) (.cons (.var 1) (.cons (.var 2) .nil)))) (.cons (.var 3) .nil))))) (.cons (.tup [1, 2, 3]) (.dat (.call j_threes (.cons (.var 0) .nil))) (.call j_is_before (.cons (.var 0) (.cons (.var 1) (.cons (.var 3) .nil)))) .nil)))) .nil)⟩
/-- is_distributive: 0 order 1 x 2 y 3 z -/
def F_is_distributive (j_meet j_join j_threes : Nat) : Fn := ⟨1, 4, (.cons (.ret (.o1 .all (.comp [1, 2, 3] (.o2 .eq (.call j_meet (.cons (.var 0) (.cons (.var 1) (.cons (.call j_join (.cons (.var 0) (.cons (.var 2) (.cons (.var 3) .nil)))) .nil)))) (.call j_join (.cons (.var 0) (.cons (.call j_meet (.cons (.var 0) (.cons (.var 1) (.cons (.var 2) .nil)))) (.cons (.call j_meet (.cons (.var 0) (.cons (.var 1) (.cons (.var 3) .nil)))) .nil))))) (.cons (.tup [1, 2, 3]) (.dat (.call j_threes (.cons (.var 0) .nil))) (.cst (.bool true)) .nil)))) .nil)⟩
/-- pentagon: 0 order 1 found 2 a 3 b 4 c 5 top 6 bottom -/
def F_pentagon (j_threes j_is_before j_is_at_most j_join j_meet : Nat) : Fn := ⟨1, 7, (.cons (.asg (.one 1) (.lst .nil)) (.cons (.for_ (.tup [2, 3, 4]) (.dat (.call j_threes (.cons (.var 0) .nil))) (.cons (.ite (.and (.call j_is_before (.cons (.var 0) (.cons (.var 2) (.cons (.var 3) .nil)))) (.and (.not (.call j_is_at_most (.cons (.var 0) (.cons (.var 2) (.cons (.var 4) .nil))))) (.not (.call j_is_at_most (.cons (.var 0) (.cons (.var 4) (.cons (.var 3) .nil))))))) (.cons (.par [5, 6] (.cons (.call j_join (.cons (.var 0) (.cons (.var 2) (.cons (.var 4) .nil)))) (.cons (.call j_meet (.cons (.var 0) (.cons (.var 3) (.cons (.var 4) .nil)))) .nil))) (.cons (.ite (.and (.o2 .eq (.call j_join (.cons (.var 0) (.cons (.var 3) (.cons (.var 4) .nil)))) (.var 5)) (.o2 .eq (.call j_meet (.cons (.var 0) (.cons (.var 2) (.cons (.var 4) .nil)))) (.var 6))) (.cons (.app 1 (.tup (.cons (.var 6) (.cons (.var 2) (.cons (.var 3) (.cons (.var 4) (.cons (.var 5) .nil))))))) .nil) .nil) .nil)) .nil) .nil) [.sh, .own, .dead, .dead, .dead, .dead, .dead]) (.cons (.ret (.ite (.var 1) (.o1 .min (.var 1)) (.cst (.none)))) .nil)))⟩
/-- diamond: 0 order 1 found 2 a 3 b 4 c 5 tops 6 bottoms 7 ends 8 one -/
def F_diamond (j_threes j_join j_meet : Nat) : Fn := ⟨1, 9, (.cons (.asg (.one 1) (.lst .nil)) (.cons (.for_ (.tup [2, 3, 4]) (.dat (.call j_threes (.cons (.var 0) .nil))) (.cons (.ite (.chain .lt .lt (.var 2) (.var 3) (.var 4)) (.cons (.asg (.one 5) (.tup (.cons (.call j_join (.cons (.var 0) (.cons (.var 2) (.cons (.var 3) .nil)))) (.cons (.call j_join (.cons (.var 0) (.cons (.var 2) (.cons (.var 4) .nil)))) (.cons (.call j_join (.cons (.var 0) (.cons (.var 3) (.cons (.var 4) .nil)))) .nil))))) (.cons (.asg (.one 6) (.tup (.cons (.call j_meet (.cons (.var 0) (.cons (.var 2) (.cons (.var 3) .nil)))) (.cons (.call j_meet (.cons (.var 0) (.cons (.var 2) (.cons (.var 4) .nil)))) (.cons (.call j_meet (.cons (.var 0) (.cons (.var 3) (.cons (.var 4) .nil)))) .nil))))) (.cons (.asg (.one 7) (.tup (.cons (.o2 .idx (.var 5) (.cst (natD 0))) (.cons (.o2 .idx (.var 6) (.cst (natD 0))) .nil)))) (.cons (.ite (.and (.o2 .eq (.o1 .lset (.var 5)) (.cst (natD 1))) (.and (.o2 .eq (.o1 .lset (.var 6)) (.cst (natD 1))) (.not (.o1 .any (.comp [8] (.o2 .isIn (.var 8) (.var 7)) (.cons (.one 8) (.dat (.tup (.cons (.var 2) (.cons (.var 3) (.cons (.var 4) .nil))))) (.cst (.bool true)) .nil)))))) (.cons (.app 1 (.tup (.cons (.o2 .idx (.var 6) (.cst (natD 0))) (.cons (.var 2) (.cons (.var 3) (.cons (.var 4) (.cons (.o2 .idx (.var 5) (.cst (natD 0))) .nil))))))) .nil) .nil) .nil)))) .nil) .nil) [.sh, .own, .dead, .dead, .dead, .dead, .dead, .dead, .dead]) (.cons (.ret (.ite (.var 1) (.o1 .min (.var 1)) (.cst (.none)))) .nil)))⟩
/-- law: 0 script 1 row 2 order 3 n 4 pairs 5 modular 6 even 7 five 8 eight 9 x 10 y 11 z 12 low 13 high 14 over 15 under 16 plain 17 dues -/
def F_law_k16 (j__law_row j__law_lattice j__law_tuples j__law_meet j__law_join j__law_like j_is_modular j_is_distributive j_pentagon j_diamond : Nat) : Fn := ⟨1, 18, (.cons (.asg (.one 1) (.call j__law_row (.cons (.var 0) (.cons (.cst (natD 12)) .nil)))) (.cons (.asg (.one 2) (.call j__law_lattice (.cons (.var 1) (.cons (.cst (natD 0)) .nil)))) (.cons (.asg (.tup [3, 4]) (.var 2)) (.cons (.asg (.tup [5, 6]) (.tup (.cons (.cst (.bool true)) (.cons (.cst (.bool true)) .nil)))) (.cons (.par [7, 8] (.cons (.lst .nil) (.cons (.lst .nil) .nil))) (.cons (.for_ (.tup [9, 10, 11]) (.dat (.call j__law_tuples (.cons (.var 3) (.cons (.cst (natD 3)) .nil)))) (.cons (.par [12, 13] (.cons (.call j__law_meet (.cons (.var 2) (.cons (.var 10) (.cons (.var 11) .nil)))) (.cons (.call j__law_join (.cons (.var 2) (.cons (.var 10) (.cons (.var 11) .nil)))) .nil))) (.cons (.ite (.and (.o2 .isIn (.tup (.cons (.var 9) (.cons (.var 11) .nil))) (.var 4)) (.o2 .ne (.call j__law_join (.cons (.var 2) (.cons (.var 9) (.cons (.var 12) .nil)))) (.call j__law_meet (.cons (.var 2) (.cons (.call j__law_join (.cons (.var 2) (.cons (.var 9) (.cons (.var 10) .nil)))) (.cons (.var 11) .nil)))))) (.cons (.asg (.one 5) (.cst (.bool false))) .nil) .nil) (.cons (.ite (.o2 .ne (.call j__law_meet (.cons (.var 2) (.cons (.var 9) (.cons (.var 13) .nil)))) (.call j__law_join (.cons (.var 2) (.cons (.call j__law_meet (.cons (.var 2) (.cons (.var 9) (.cons (.var 10) .nil)))) (.cons (.call j__law_meet (.cons (.var 2) (.cons (.var 9) (.cons (.var 11) .nil)))) .nil))))) (.cons (.asg (.one 6) (.cst (.bool false))) .nil) .nil) (.cons (.asg (.one 14) (.lst (.cons (.call j__law_join (.cons (.var 2) (.cons (.var 9) (.cons (.var 11) .nil)))) (.cons (.var 13) .nil)))) (.cons (.asg (.one 15) (.lst (.cons (.call j__law_meet (.cons (.var 2) (.cons (.var 9) (.cons (.var 11) .nil)))) (.cons (.var 12) .nil)))) (.cons (.asg (.one 16) (.and (.o2 .notIn (.tup (.cons (.var 9) (.cons (.var 11) .nil))) (.var 4)) (.and (.o2 .notIn (.tup (.cons (.var 11) (.cons (.var 9) .nil))) (.var 4)) (.and (.o2 .notIn (.tup (.cons (.var 10) (.cons (.var 11) .nil))) (.var 4)) (.o2 .notIn (.tup (.cons (.var 11) (.cons (.var 10) .nil))) (.var 4)))))) (.cons (.ite (.and (.o2 .isIn (.tup (.cons (.var 9) (.cons (.var 10) .nil))) (.var 4)) (.and (.var 16) (.and (.o2 .eq (.o2 .idx (.var 14) (.cst (natD 0))) (.o2 .idx (.var 14) (.cst (natD 1)))) (.o2 .eq (.o2 .idx (.var 15) (.cst (natD 0))) (.o2 .idx (.var 15) (.cst (natD 1))))))) (.cons (.app 7 (.tup (.cons (.var 12) (.cons (.var 9) (.cons (.var 10) (.cons (.var 11) (.cons (.var 13) .nil))))))) .nil) .nil) (.cons (.ite (.and (.chain .lt .lt (.var 9) (.var 10) (.var 11)) (.and (.var 16) (.and (.o2 .eq (.call j__law_join (.cons (.var 2) (.cons (.var 9) (.cons (.var 10) .nil)))) (.var 13)) (.o2 .eq (.o2 .idx (.var 14) (.cst (natD 0))) (.var 13))))) (.cons (.ite (.and (.o2 .eq (.call j__law_meet (.cons (.var 2) (.cons (.var 9) (.cons (.var 10) .nil)))) (.var 12)) (.and (.o2 .eq (.o2 .idx (.var 15) (.cst (natD 0))) (.var 12)) (.and (.o2 .notIn (.tup (.cons (.var 9) (.cons (.var 10) .nil))) (.var 4)) (.o2 .notIn (.tup (.cons (.var 10) (.cons (.var 9) .nil))) (.var 4))))) (.cons (.app 8 (.tup (.cons (.var 12) (.cons (.var 9) (.cons (.var 10) (.cons (.var 11) (.cons (.var 13) .nil))))))) .nil) .nil) .nil) .nil) .nil)))))))) [.sh, .sh, .sh, .sh, .sh, .sh, .sh, .own, .own, .dead, .dead, .dead, .dead, .dead, .dead, .dead, .dead, .dead]) (.cons (.asg (.one 17) (.lst (.cons (.cst (.none)) (.cons (.cst (.none)) .nil)))) (.cons (.ite (.o2 .gt (.o1 .len (.var 7)) (.cst (natD 0))) (.cons (.set 17 (.cst (natD 0)) (.o1 .min (.var 7))) .nil) .nil) (.cons (.ite (.o2 .gt (.o1 .len (.var 8)) (.cst (natD 0))) (.cons (.set 17 (.cst (natD 1)) (.o1 .min (.var 8))) .nil) .nil) (.cons (.ite (.or (.o2 .ne (.var 5) (.o1 .isN (.o2 .idx (.var 17) (.cst (natD 0))))) (.o2 .ne (.var 6) (.and (.o1 .isN (.o2 .idx (.var 17) (.cst (natD 0)))) (.o1 .isN (.o2 .idx (.var 17) (.cst (natD 1))))))) (.cons (.ret (.cst (.bool false))) .nil) .nil) (.cons (.ite (.or (.not (.call j__law_like (.cons (.call j_is_modular (.cons (.var 2) .nil)) (.cons (.var 5) .nil)))) (.not (.call j__law_like (.cons (.call j_is_distributive (.cons (.var 2) .nil)) (.cons (.var 6) .nil))))) (.cons (.ret (.cst (.bool false))) .nil) .nil) (.cons (.ret (.and (.call j__law_like (.cons (.call j_pentagon (.cons (.var 2) .nil)) (.cons (.o2 .idx (.var 17) (.cst (natD 0))) .nil))) (.call j__law_like (.cons (.call j_diamond (.cons (.var 2) .nil)) (.cons (.o2 .idx (.var 17) (.cst (natD 1))) .nil))))) .nil))))))))))))⟩
end Orp

/-! Further defs of the laws (printed by tools/par2). -/
namespace Orp
/-- taken_out: 0 rows 1 places 2 found 3 turn 4 place 5 number 6 above 7 row 8 at 9 index 10 other -/
def F_taken_out : Fn := ⟨2, 11, (.cons (.asg (.one 0) (.o1 .list (.var 0))) (.cons (.asg (.one 2) (.tup .nil)) (.cons (.for_ (.one 3) (.rngD (.o1 .sum (.comp [7] (.o1 .len (.var 7)) (.cons (.one 7) (.dat (.var 1)) (.cst (.bool true)) .nil))) (.cst (natD 0))) (.cons (.asg (.one 4) (.o2 .idx (.comp [9, 7] (.var 9) (.cons (.tup [9, 7]) (.enu (.var 1)) (.o2 .isIn (.var 3) (.var 7)) .nil)) (.cst (natD 0)))) (.cons (.asg (.one 5) (.o2 .idx (.o2 .idx (.var 0) (.var 4)) (.o1 .neg (.cst (natD 1))))) (.cons (.set 0 (.var 4) (.o2 .upto (.o2 .idx (.var 0) (.var 4)) (.o1 .neg (.cst (natD 1))))) (.cons (.for_ (.one 6) (.rngD (.o2 .sub (.var 4) (.cst (natD 1))) (.o1 .neg (.cst (natD 1)))) (.cons (.asg (.one 7) (.o2 .idx (.var 0) (.var 6))) (.cons (.asg (.one 8) (.o1 .max (.comp [9, 10] (.var 9) (.cons (.tup [9, 10]) (.enu (.var 7)) (.o2 .lt (.var 10) (.var 5)) .nil)))) (.cons (.set 0 (.var 6) (.o2 .add (.o2 .add (.o2 .upto (.var 7) (.var 8)) (.tup (.cons (.var 5) .nil))) (.o2 .from_ (.var 7) (.o2 .add (.var 8) (.cst (natD 1)))))) (.cons (.asg (.one 5) (.o2 .idx (.var 7) (.var 8))) .nil)))) [.own, .sh, .sh, .sh, .sh, .sh, .dead, .dead, .dead, .dead, .dead]) (.cons (.asg (.one 2) (.o2 .add (.tup (.cons (.var 5) .nil)) (.var 2))) .nil))))) [.own, .sh, .sh, .dead, .dead, .dead, .dead, .dead, .dead, .dead, .dead]) (.cons (.ret (.var 2)) .nil))))⟩
/-- law: 0 script 1 row 2 numbers 3 rows 4 places 5 left 6 order 7 k 8 one 9 back 10 twice 11 other -/
def F_law_k23 (j__law_row j__law_numbers j__law_both j__law_like j_taken_out j_tableau j_places_told : Nat) : Fn := ⟨1, 12, (.cons (.asg (.one 1) (.call j__law_row (.cons (.var 0) (.cons (.cst (natD 40)) .nil)))) (.cons (.asg (.one 2) (.call j__law_numbers (.cons (.var 1) (.cons (.cst (natD 0)) (.cons (.cst (natD 8)) .nil))))) (.cons (.asg (.tup [3, 4]) (.call j__law_both (.cons (.var 2) .nil))) (.cons (.ite (.not (.call j__law_like (.cons (.call j_taken_out (.cons (.var 3) (.cons (.var 4) .nil))) (.cons (.var 2) .nil)))) (.cons (.ret (.cst (.bool false))) .nil) .nil) (.cons (.asg (.one 5) (.rgl false (.cst (natD 1)) (.o2 .add (.cst (natD 2)) (.o2 .mod (.o1 .int (.o2 .idx (.var 1) (.cst (natD 12)))) (.cst (natD 7)))))) (.cons (.asg (.one 6) (.lst .nil)) (.cons (.for_ (.one 7) (.rng (.o1 .len (.var 5))) (.cons (.asg (.one 8) (.o2 .idx (.var 5) (.o2 .mod (.o1 .int (.o2 .idx (.var 1) (.o2 .add (.cst (natD 13)) (.var 7)))) (.o1 .len (.var 5))))) (.cons (.app 6 (.var 8)) (.cons (.asg (.one 5) (.comp [11] (.var 11) (.cons (.one 11) (.dat (.var 5)) (.o2 .ne (.var 11) (.var 8)) .nil))) .nil))) [.sh, .sh, .sh, .sh, .sh, .own, .own, .dead, .dead, .dead, .dead, .dead]) (.cons (.asg (.one 6) (.o1 .tuple (.var 6))) (.cons (.asg (.one 9) (.o1 .tuple (.comp [7] (.o2 .add (.o2 .index (.var 6) (.o2 .add (.var 7) (.cst (natD 1)))) (.cst (natD 1))) (.cons (.one 7) (.rng (.o1 .len (.var 6))) (.cst (.bool true)) .nil)))) (.cons (.asg (.tup [3, 4]) (.call j__law_both (.cons (.var 6) .nil))) (.cons (.ite (.or (.not (.call j__law_like (.cons (.call j_tableau (.cons (.var 9) .nil)) (.cons (.var 4) .nil)))) (.not (.call j__law_like (.cons (.call j_places_told (.cons (.var 9) .nil)) (.cons (.var 3) .nil))))) (.cons (.ret (.cst (.bool false))) .nil) .nil) (.cons (.ite (.not (.call j__law_like (.cons (.call j_taken_out (.cons (.var 4) (.cons (.var 3) .nil))) (.cons (.var 9) .nil)))) (.cons (.ret (.cst (.bool false))) .nil) .nil) (.cons (.asg (.one 10) (.call j_taken_out (.cons (.var 3) (.cons (.var 3) .nil)))) (.cons (.ret (.and (.call j__law_like (.cons (.call j_tableau (.cons (.var 10) .nil)) (.cons (.var 3) .nil))) (.o2 .eq (.o2 .idx (.call j__law_both (.cons (.var 10) .nil)) (.cst (natD 1))) (.var 3)))) .nil))))))))))))))⟩
/-- rising: 0 numbers 1 k 2 row -/
def F_rising (j_tableau : Nat) : Fn := ⟨2, 3, (.cons (.ret (.o1 .sum (.comp [2] (.o1 .len (.var 2)) (.cons (.one 2) (.dat (.o2 .upto (.call j_tableau (.cons (.var 0) .nil)) (.var 1))) (.cst (.bool true)) .nil)))) .nil)⟩
/-- turned_shape: 0 shape 1 most 2 column 3 length -/
def F_turned_shape : Fn := ⟨1, 4, (.cons (.asg (.one 1) (.ite (.var 0) (.o2 .idx (.var 0) (.cst (natD 0))) (.cst (natD 0)))) (.cons (.ret (.o1 .tuple (.comp [2] (.o1 .len (.comp [3] (.var 3) (.cons (.one 3) (.dat (.var 0)) (.o2 .gt (.var 3) (.var 2)) .nil))) (.cons (.one 2) (.rng (.var 1)) (.cst (.bool true)) .nil)))) .nil))⟩
/-- falling: 0 numbers 1 k 2 row -/
def F_falling (j_turned_shape j_tableau : Nat) : Fn := ⟨2, 3, (.cons (.ret (.o1 .sum (.o2 .upto (.call j_turned_shape (.cons (.o1 .tuple (.comp [2] (.o1 .len (.var 2)) (.cons (.one 2) (.dat (.call j_tableau (.cons (.var 0) .nil))) (.cst (.bool true)) .nil))) .nil)) (.var 1)))) .nil)⟩
/-- _law_unions: 0 numbers 1 sign 2 k 3 count 4 parts 5 bits 6 part 7 up 8 down 9 found 10 turn 11 grown 12 one 13 j -/
def F__law_unions : Fn := ⟨3, 14, (.cons (.asg (.one 3) (.o1 .len (.var 0))) (.cons (.asg (.one 4) (.lst .nil)) (.cons (.for_ (.one 5) (.rng (.o2 .shl (.cst (natD 1)) (.var 3))) (.cons (.asg (.one 6) (.comp [13] (.o2 .idx (.var 0) (.var 13)) (.cons (.one 13) (.rng (.var 3)) (.o2 .eq (.o2 .band (.o2 .shr (.var 5) (.var 13)) (.cst (natD 1))) (.cst (natD 1))) .nil))) (.cons (.asg (.one 7) (.o1 .all (.comp [13] (.o2 .le (.o2 .idx (.var 6) (.var 13)) (.o2 .idx (.var 6) (.o2 .add (.var 13) (.cst (natD 1))))) (.cons (.one 13) (.rng (.o2 .sub (.o1 .len (.var 6)) (.cst (natD 1)))) (.cst (.bool true)) .nil)))) (.cons (.asg (.one 8) (.o1 .all (.comp [13] (.o2 .gt (.o2 .idx (.var 6) (.var 13)) (.o2 .idx (.var 6) (.o2 .add (.var 13) (.cst (natD 1))))) (.cons (.one 13) (.rng (.o2 .sub (.o1 .len (.var 6)) (.cst (natD 1)))) (.cst (.bool true)) .nil)))) (.cons (.ite (.or (.and (.o2 .gt (.var 1) (.cst (natD 0))) (.var 7)) (.and (.o2 .lt (.var 1) (.cst (natD 0))) (.var 8))) (.cons (.app 4 (.var 5)) .nil) .nil) .nil)))) [.sh, .sh, .sh, .sh, .own, .dead, .dead, .dead, .dead, .dead, .dead, .dead, .dead, .dead]) (.cons (.asg (.one 9) (.done false (.cst (natD 0)) (.cst (.bool true)))) (.cons (.for_ (.one 10) (.rng (.var 2)) (.cons (.asg (.one 11) (.dnew false)) (.cons (.for_ (.one 12) (.dat (.var 9)) (.cons (.for_ (.one 6) (.dat (.var 4)) (.cons (.set 11 (.o2 .bor (.var 12) (.var 6)) (.cst (.bool true))) .nil) [.sh, .sh, .sh, .sh, .lck, .dead, .dead, .dead, .dead, .dIl, .sh, .dI, .sh, .dead]) .nil) [.sh, .sh, .sh, .sh, .own, .dead, .dead, .dead, .dead, .dIl, .sh, .dI, .dead, .dead]) (.cons (.mov 9 11) .nil))) [.sh, .sh, .sh, .sh, .own, .dead, .dead, .dead, .dead, .dI, .dead, .dead, .dead, .dead]) (.cons (.ret (.o1 .max (.comp [12] (.o1 .len (.comp [13] (.var 13) (.cons (.one 13) (.rng (.var 3)) (.o2 .eq (.o2 .band (.o2 .shr (.var 12) (.var 13)) (.cst (natD 1))) (.cst (natD 1))) .nil))) (.cons (.one 12) (.dat (.var 9)) (.cst (.bool true)) .nil)))) .nil))))))⟩
/-- law: 0 script 1 row 2 numbers 3 k -/
def F_law_k24 (j__law_row j__law_numbers j__law_like j_rising j__law_unions j_falling : Nat) : Fn := ⟨1, 4, (.cons (.asg (.one 1) (.call j__law_row (.cons (.var 0) (.cons (.cst (natD 14)) .nil)))) (.cons (.asg (.one 2) (.call j__law_numbers (.cons (.var 1) (.cons (.cst (natD 0)) (.cons (.cst (natD 6)) .nil))))) (.cons (.asg (.one 3) (.o2 .add (.cst (natD 1)) (.o2 .mod (.o1 .int (.o2 .idx (.var 1) (.cst (natD 12)))) (.cst (natD 4))))) (.cons (.ite (.not (.call j__law_like (.cons (.call j_rising (.cons (.var 2) (.cons (.var 3) .nil))) (.cons (.call j__law_unions (.cons (.var 2) (.cons (.cst (natD 1)) (.cons (.var 3) .nil)))) .nil)))) (.cons (.ret (.cst (.bool false))) .nil) .nil) (.cons (.ret (.call j__law_like (.cons (.call j_falling (.cons (.var 2) (.cons (.var 3) .nil))) (.cons (.call j__law_unions (.cons (.var 2) (.cons (.o1 .neg (.cst (natD 1))) (.cons (.var 3) .nil)))) .nil)))) .nil)))))⟩
/-- counted: 0 order 1 k 2 gap 3 sets 4 later 5 counts 6 _ 7 grown 8 placed 9 after -/
def F_counted (j_down_sets j_larger : Nat) : Fn := ⟨3, 10, (.cons (.asg (.one 3) (.call j_down_sets (.cons (.var 0) .nil))) (.cons (.asg (.one 4) (.dcomp [8] true (.var 8) (.call j_larger (.cons (.var 0) (.cons (.var 3) (.cons (.var 8) (.cons (.var 2) .nil))))) (.cons (.one 8) (.dat (.var 3)) (.cst (.bool true)) .nil))) (.cons (.asg (.one 5) (.done true (.tup .nil) (.cst (natD 1)))) (.cons (.for_ (.one 6) (.rng (.var 1)) (.cons (.asg (.one 7) (.dnew true)) (.cons (.for_ (.one 8) (.dat (.var 5)) (.cons (.for_ (.one 9) (.dat (.o2 .idx (.var 4) (.var 8))) (.cons (.set 7 (.var 9) (.o2 .add (.o3 .dget (.var 7) (.var 9) (.cst (natD 0))) (.o2 .idx (.var 5) (.var 8)))) .nil) [.sh, .sh, .sh, .sh, .dT, .dTl, .sh, .dT, .sh, .dead]) .nil) [.sh, .sh, .sh, .sh, .dT, .dTl, .sh, .dT, .dead, .dead]) (.cons (.mov 5 7) .nil))) [.sh, .sh, .sh, .sh, .dT, .dT, .dead, .dead, .dead, .dead]) (.cons (.ret (.o3 .dget (.var 5) (.rgl true (.cst (.int 0)) (.o2 .idx (.var 0) (.cst (natD 0)))) (.cst (natD 0)))) .nil)))))⟩
/-- larger: 0 order 1 sets 2 placed 3 gap 4 found 5 part 6 more 7 thing 8 one 9 other -/
def F_larger (j_is_before : Nat) : Fn := ⟨4, 10, (.cons (.asg (.one 4) (.lst .nil)) (.cons (.for_ (.one 5) (.dat (.var 1)) (.cons (.asg (.one 6) (.comp [7] (.var 7) (.cons (.one 7) (.dat (.var 5)) (.o2 .notIn (.var 7) (.var 2)) .nil))) (.cons (.ite (.o1 .all (.comp [7] (.o2 .isIn (.var 7) (.var 5)) (.cons (.one 7) (.dat (.var 2)) (.cst (.bool true)) .nil))) (.cons (.ite (.or (.o2 .eq (.var 3) (.cst (natD 0))) (.not (.o1 .any (.comp [8, 9] (.call j_is_before (.cons (.var 0) (.cons (.var 8) (.cons (.var 9) .nil)))) (.cons (.one 8) (.dat (.var 6)) (.cst (.bool true)) (.cons (.one 9) (.dat (.var 6)) (.cst (.bool true)) .nil)))))) (.cons (.app 4 (.var 5)) .nil) .nil) .nil) .nil) .nil)) [.sh, .sh, .sh, .sh, .own, .dead, .dead, .dead, .dead, .dead]) (.cons (.frz 4) (.cons (.ret (.var 4)) .nil))))⟩
/-- rows_below: 0 order 1 k -/
def F_rows_below (j_counted : Nat) : Fn := ⟨2, 2, (.cons (.ret (.call j_counted (.cons (.var 0) (.cons (.var 1) (.cons (.cst (natD 0)) .nil))))) .nil)⟩
/-- rows_strict: 0 order 1 k -/
def F_rows_strict (j_counted : Nat) : Fn := ⟨2, 2, (.cons (.ret (.call j_counted (.cons (.var 0) (.cons (.var 1) (.cons (.cst (natD 1)) .nil))))) .nil)⟩
/-- _law_ways: 0 order 1 k 2 gap 3 rows 4 x 5 grown 6 row 7 number 8 y -/
def F__law_ways : Fn := ⟨3, 9, (.cons (.asg (.one 3) (.lst (.cons (.tup .nil) .nil))) (.cons (.frz 3) (.cons (.for_ (.one 4) (.rng (.o2 .idx (.var 0) (.cst (natD 0)))) (.cons (.asg (.one 5) (.lst .nil)) (.cons (.for_ (.one 6) (.dat (.var 3)) (.cons (.ext 5 (.comp [7] (.o2 .add (.var 6) (.tup (.cons (.var 7) .nil))) (.cons (.one 7) (.rng2 (.cst (natD 1)) (.o2 .add (.var 1) (.cst (natD 1)))) (.cst (.bool true)) .nil))) .nil) [.sh, .sh, .sh, .sh, .sh, .own, .dead, .dead, .dead]) (.cons (.frz 5) (.cons (.asg (.one 3) (.var 5)) .nil)))) [.sh, .sh, .sh, .sh, .dead, .dead, .dead, .dead, .dead]) (.cons (.ret (.o1 .len (.comp [6] (.var 6) (.cons (.one 6) (.dat (.var 3)) (.o1 .all (.comp [4, 8] (.o2 .le (.o2 .add (.o2 .idx (.var 6) (.var 4)) (.var 2)) (.o2 .idx (.var 6) (.var 8))) (.cons (.tup [4, 8]) (.dat (.o2 .idx (.var 0) (.cst (natD 1)))) (.cst (.bool true)) .nil))) .nil)))) .nil))))⟩
/-- _law_beyond: 0 values 1 t 2 total 3 rows 4 part 5 k 6 j -/
def F__law_beyond : Fn := ⟨2, 7, (.cons (.asg (.one 2) (.cst (natD 0))) (.cons (.asg (.one 3) (.o1 .list (.var 0))) (.cons (.asg (.one 4) (.cst (natD 1))) (.cons (.for_ (.one 5) (.rng (.o1 .len (.var 0))) (.cons (.asg (.one 2) (.o2 .add (.var 2) (.o2 .mul (.var 4) (.o2 .idx (.var 3) (.cst (natD 0)))))) (.cons (.asg (.one 4) (.o2 .fdiv (.o2 .mul (.var 4) (.o2 .sub (.var 1) (.var 5))) (.o2 .add (.var 5) (.cst (natD 1))))) (.cons (.asg (.one 3) (.comp [6] (.o2 .sub (.o2 .idx (.var 3) (.o2 .add (.var 6) (.cst (natD 1)))) (.o2 .idx (.var 3) (.var 6))) (.cons (.one 6) (.rng (.o2 .sub (.o1 .len (.var 3)) (.cst (natD 1)))) (.cst (.bool true)) .nil))) .nil))) [.sh, .sh, .sh, .own, .sh, .dead, .dead]) (.cons (.ret (.var 2)) .nil)))))⟩
/-- law: 0 script 1 row 2 order 3 n 4 k 5 values 6 sign 7 t 8 value -/
def F_law_k06 (j__law_row j__law_order j__law_like j_rows_below j__law_ways j_rows_strict j__law_is_int j__law_beyond : Nat) : Fn := ⟨1, 9, (.cons (.asg (.one 1) (.call j__law_row (.cons (.var 0) (.cons (.cst (natD 24)) .nil)))) (.cons (.asg (.one 2) (.call j__law_order (.cons (.var 1) (.cons (.cst (natD 0)) (.cons (.cst (natD 4)) .nil))))) (.cons (.asg (.one 3) (.o2 .idx (.var 2) (.cst (natD 0)))) (.cons (.asg (.one 4) (.o2 .mod (.o1 .int (.o2 .idx (.var 1) (.cst (natD 20)))) (.cst (natD 6)))) (.cons (.ite (.not (.call j__law_like (.cons (.call j_rows_below (.cons (.var 2) (.cons (.var 4) .nil))) (.cons (.call j__law_ways (.cons (.var 2) (.cons (.var 4) (.cons (.cst (natD 0)) .nil)))) .nil)))) (.cons (.ret (.cst (.bool false))) .nil) .nil) (.cons (.ite (.not (.call j__law_like (.cons (.call j_rows_strict (.cons (.var 2) (.cons (.var 4) .nil))) (.cons (.call j__law_ways (.cons (.var 2) (.cons (.var 4) (.cons (.cst (natD 1)) .nil)))) .nil)))) (.cons (.ret (.cst (.bool false))) .nil) .nil) (.cons (.asg (.one 5) (.comp [7] (.call j_rows_strict (.cons (.var 2) (.cons (.var 7) .nil))) (.cons (.one 7) (.rng (.o2 .add (.var 3) (.cst (natD 1)))) (.cst (.bool true)) .nil))) (.cons (.ite (.not (.o1 .all (.comp [8] (.call j__law_is_int (.cons (.var 8) .nil)) (.cons (.one 8) (.dat (.var 5)) (.cst (.bool true)) .nil)))) (.cons (.ret (.cst (.bool false))) .nil) .nil) (.cons (.asg (.one 6) (.o2 .sub (.cst (natD 1)) (.o2 .mul (.cst (natD 2)) (.o1 .int (.o2 .mod (.o1 .int (.var 3)) (.cst (natD 2))))))) (.cons (.frz 5) (.cons (.ret (.o1 .all (.comp [7] (.call j__law_like (.cons (.call j_rows_below (.cons (.var 2) (.cons (.var 7) .nil))) (.cons (.o2 .mul (.var 6) (.call j__law_beyond (.cons (.var 5) (.cons (.o1 .neg (.var 7)) .nil)))) .nil))) (.cons (.one 7) (.rng (.cst (natD 11))) (.cst (.bool true)) .nil)))) .nil)))))))))))⟩
/-- unions: 0 sets 1 k 2 masks 3 found 4 _ 5 things 6 thing 7 one 8 mask -/
def F_unions : Fn := ⟨2, 9, (.cons (.asg (.one 2) (.comp [5] (.o1 .sum (.comp [6] (.o2 .shl (.cst (natD 1)) (.var 6)) (.cons (.one 6) (.dat (.var 5)) (.cst (.bool true)) .nil))) (.cons (.one 5) (.dat (.var 0)) (.cst (.bool true)) .nil))) (.cons (.asg (.one 3) (.done false (.cst (natD 0)) (.cst (.bool true)))) (.cons (.for_ (.one 4) (.rng (.var 1)) (.cons (.asg (.one 3) (.dcomp [7, 8] false (.o2 .bor (.var 7) (.var 8)) (.cst (.bool true)) (.cons (.one 7) (.dat (.var 3)) (.cst (.bool true)) (.cons (.one 8) (.dat (.var 2)) (.cst (.bool true)) .nil)))) .nil) [.sh, .sh, .own, .dI, .dead, .dead, .dead, .dead, .dead]) (.cons (.ret (.var 3)) .nil))))⟩
/-- family: 0 order 1 k 2 mask 3 thing -/
def F_family (j_unions j_all_chains : Nat) : Fn := ⟨2, 4, (.cons (.ret (.o1 .max (.comp [2] (.o1 .len (.comp [3] (.var 3) (.cons (.one 3) (.rng (.o2 .idx (.var 0) (.cst (natD 0)))) (.o2 .eq (.o2 .band (.o2 .shr (.var 2) (.var 3)) (.cst (natD 1))) (.cst (natD 1))) .nil))) (.cons (.one 2) (.dat (.call j_unions (.cons (.call j_all_chains (.cons (.var 0) .nil)) (.cons (.var 1) .nil)))) (.cst (.bool true)) .nil)))) .nil)⟩
/-- shape: 0 order 1 sums 2 k 3 before 4 later -/
def F_shape (j_family : Nat) : Fn := ⟨1, 5, (.cons (.asg (.one 1) (.comp [2] (.call j_family (.cons (.var 0) (.cons (.var 2) .nil))) (.cons (.one 2) (.rng (.o2 .add (.o2 .idx (.var 0) (.cst (natD 0))) (.cst (natD 1)))) (.cst (.bool true)) .nil))) (.cons (.ret (.o1 .tuple (.comp [3, 4] (.o2 .sub (.var 4) (.var 3)) (.cons (.tup [3, 4]) (.zip (.var 1) (.o2 .from_ (.var 1) (.cst (natD 1)))) (.o2 .gt (.var 4) (.var 3)) .nil)))) .nil))⟩
/-- _law_growths: 0 masks 1 n 2 unions_v 3 sums 4 k 5 grown 6 one 7 mask 8 x -/
def F__law_growths : Fn := ⟨2, 9, (.cons (.asg (.one 2) (.done false (.cst (natD 0)) (.cst (.bool true)))) (.cons (.asg (.one 3) (.lst (.cons (.cst (natD 0)) .nil))) (.cons (.for_ (.one 4) (.rng (.var 1)) (.cons (.asg (.one 5) (.dnew false)) (.cons (.for_ (.one 6) (.dat (.var 2)) (.cons (.for_ (.one 7) (.dat (.var 0)) (.cons (.set 5 (.o2 .bor (.var 6) (.var 7)) (.cst (.bool true))) .nil) [.sh, .sh, .dIl, .own, .sh, .dI, .sh, .dead, .dead]) .nil) [.sh, .sh, .dIl, .own, .sh, .dI, .dead, .dead, .dead]) (.cons (.mov 2 5) (.cons (.app 3 (.o1 .max (.comp [6] (.o1 .len (.comp [8] (.cst (natD 1)) (.cons (.one 8) (.rng (.var 1)) (.o2 .eq (.o2 .band (.o2 .shr (.var 6) (.var 8)) (.cst (natD 1))) (.cst (natD 1))) .nil))) (.cons (.one 6) (.dat (.var 2)) (.cst (.bool true)) .nil)))) .nil)))) [.sh, .sh, .dI, .own, .dead, .dead, .dead, .dead, .dead]) (.cons (.ret (.comp [4] (.o2 .sub (.o2 .idx (.var 3) (.o2 .add (.var 4) (.cst (natD 1)))) (.o2 .idx (.var 3) (.var 4))) (.cons (.one 4) (.rng (.var 1)) (.cst (.bool true)) .nil))) .nil))))⟩
/-- law: 0 script 1 row 2 order 3 n 4 pairs 5 flat 6 steep 7 one 8 within 9 mask 10 growths 11 k 12 due 13 columns 14 x 15 y -/
def F_law_k09 (j__law_row j__law_order j__law_sets j__law_growths j__law_like j_family j_shape : Nat) : Fn := ⟨1, 16, (.cons (.asg (.one 1) (.call j__law_row (.cons (.var 0) (.cons (.cst (natD 20)) .nil)))) (.cons (.asg (.one 2) (.call j__law_order (.cons (.var 1) (.cons (.cst (natD 0)) (.cons (.cst (natD 6)) .nil))))) (.cons (.asg (.tup [3, 4]) (.var 2)) (.cons (.par [5, 6] (.cons (.lst .nil) (.cons (.lst .nil) .nil))) (.cons (.for_ (.one 7) (.dat (.call j__law_sets (.cons (.var 3) .nil))) (.cons (.asg (.one 8) (.o1 .len (.comp [14, 15] (.cst (natD 1)) (.cons (.tup [14, 15]) (.dat (.var 4)) (.and (.o2 .isIn (.var 14) (.var 7)) (.o2 .isIn (.var 15) (.var 7))) .nil)))) (.cons (.asg (.one 9) (.o1 .sum (.comp [14] (.o2 .shl (.cst (natD 1)) (.var 14)) (.cons (.one 14) (.dat (.var 7)) (.cst (.bool true)) .nil)))) (.cons (.ite (.o2 .eq (.var 8) (.cst (natD 0))) (.cons (.app 5 (.var 9)) .nil) .nil) (.cons (.ite (.o2 .eq (.o2 .mul (.cst (natD 2)) (.var 8)) (.o2 .mul (.o1 .len (.var 7)) (.o2 .sub (.o1 .len (.var 7)) (.cst (natD 1))))) (.cons (.app 6 (.var 9)) .nil) .nil) .nil)))) [.sh, .sh, .sh, .sh, .sh, .own, .own, .dead, .dead, .dead, .dead, .dead, .dead, .dead, .dead, .dead]) (.cons (.frz 6) (.cons (.asg (.one 10) (.call j__law_growths (.cons (.var 6) (.cons (.var 3) .nil)))) (.cons (.for_ (.one 11) (.rng2 (.cst (natD 1)) (.o2 .add (.var 3) (.cst (natD 1)))) (.cons (.ite (.not (.call j__law_like (.cons (.call j_family (.cons (.var 2) (.cons (.var 11) .nil))) (.cons (.o1 .sum (.o2 .upto (.var 10) (.var 11))) .nil)))) (.cons (.ret (.cst (.bool false))) .nil) .nil) .nil) [.sh, .sh, .sh, .sh, .sh, .own, .sh, .dead, .dead, .dead, .sh, .dead, .dead, .dead, .dead, .dead]) (.cons (.asg (.one 12) (.o1 .tuple (.comp [7] (.var 7) (.cons (.one 7) (.dat (.var 10)) (.o2 .gt (.var 7) (.cst (natD 0))) .nil)))) (.cons (.ite (.or (.not (.call j__law_like (.cons (.call j_shape (.cons (.var 2) .nil)) (.cons (.var 12) .nil)))) (.not (.o1 .all (.comp [11] (.o2 .ge (.o2 .idx (.var 12) (.var 11)) (.o2 .idx (.var 12) (.o2 .add (.var 11) (.cst (natD 1))))) (.cons (.one 11) (.rng (.o2 .sub (.o1 .len (.var 12)) (.cst (natD 1)))) (.cst (.bool true)) .nil))))) (.cons (.ret (.cst (.bool false))) .nil) .nil) (.cons (.frz 5) (.cons (.asg (.one 13) (.comp [7] (.var 7) (.cons (.one 7) (.dat (.call j__law_growths (.cons (.var 5) (.cons (.var 3) .nil)))) (.o2 .gt (.var 7) (.cst (natD 0))) .nil))) (.cons (.ret (.o2 .eq (.var 13) (.comp [11] (.o1 .len (.comp [7] (.cst (natD 1)) (.cons (.one 7) (.dat (.var 12)) (.o2 .gt (.var 7) (.var 11)) .nil))) (.cons (.one 11) (.rng (.o2 .idx (.var 12) (.cst (natD 0)))) (.cst (.bool true)) .nil)))) .nil)))))))))))))⟩
/-- apart_pairs: 0 order 1 one 2 other -/
def F_apart_pairs (j_are_apart : Nat) : Fn := ⟨1, 3, (.cons (.ret (.comp [1, 2] (.tup (.cons (.var 1) (.cons (.var 2) .nil))) (.cons (.one 1) (.rng (.o2 .idx (.var 0) (.cst (natD 0)))) (.cst (.bool true)) (.cons (.one 2) (.rng2 (.o2 .add (.var 1) (.cst (natD 1))) (.o2 .idx (.var 0) (.cst (natD 0)))) (.call j_are_apart (.cons (.var 0) (.cons (.var 1) (.cons (.var 2) .nil)))) .nil)))) .nil)⟩
/-- is_fitting: 0 order 1 known 2 first 3 middle 4 other 5 second -/
def F_is_fitting (j_are_apart : Nat) : Fn := ⟨2, 6, (.cons (.for_ (.tup [2, 3]) (.dat (.var 1)) (.cons (.for_ (.tup [4, 5]) (.dat (.var 1)) (.cons (.ite (.o2 .eq (.var 4) (.var 3)) (.cons (.ite (.or (.o2 .eq (.var 2) (.var 5)) (.or (.not (.call j_are_apart (.cons (.var 0) (.cons (.var 2) (.cons (.var 5) .nil))))) (.o2 .isIn (.tup (.cons (.var 5) (.cons (.var 2) .nil))) (.var 1)))) (.cons (.ret (.cst (.bool false))) .nil) .nil) .nil) .nil) .nil) [.sh, .sh, .sh, .sh, .dead, .dead]) .nil) [.sh, .sh, .dead, .dead, .dead, .dead]) (.cons (.ret (.cst (.bool true))) .nil))⟩
/-- other_way: 0 order 1 rows 2 one 3 other 4 row 5 pair -/
def F_other_way (j_apart_pairs j_is_fitting : Nat) : Fn := ⟨1, 6, (.cons (.asg (.one 1) (.lst (.cons (.tup .nil) .nil))) (.cons (.for_ (.tup [2, 3]) (.dat (.call j_apart_pairs (.cons (.var 0) .nil))) (.cons (.asg (.one 1) (.comp [4, 5] (.o2 .add (.var 4) (.tup (.cons (.var 5) .nil))) (.cons (.one 4) (.dat (.var 1)) (.cst (.bool true)) (.cons (.one 5) (.dat (.tup (.cons (.tup (.cons (.var 2) (.cons (.var 3) .nil))) (.cons (.tup (.cons (.var 3) (.cons (.var 2) .nil))) .nil)))) (.call j_is_fitting (.cons (.var 0) (.cons (.o2 .add (.var 4) (.tup (.cons (.var 5) .nil))) .nil))) .nil)))) .nil) [.sh, .own, .dead, .dead, .dead, .dead]) (.cons (.ret (.ite (.var 1) (.o1 .min (.comp [4] (.o1 .tuple (.o1 .sorted (.var 4))) (.cons (.one 4) (.dat (.var 1)) (.cst (.bool true)) .nil))) (.cst (.none)))) .nil)))⟩
/-- dimension: 0 order -/
def F_dimension (j_apart_pairs j_other_way : Nat) : Fn := ⟨1, 1, (.cons (.ite (.not (.call j_apart_pairs (.cons (.var 0) .nil))) (.cons (.ret (.cst (natD 1))) .nil) .nil) (.cons (.ret (.ite (.o1 .notN (.call j_other_way (.cons (.var 0) .nil))) (.cst (natD 2)) (.cst (natD 3)))) .nil))⟩
/-- reversed_pairs: 0 row 1 pairs 2 place 3 pair -/
def F_reversed_pairs : Fn := ⟨2, 4, (.cons (.ret (.comp [2, 3] (.var 2) (.cons (.tup [2, 3]) (.enu (.var 1)) (.o2 .lt (.o2 .index (.var 0) (.o2 .idx (.var 3) (.cst (natD 1)))) (.o2 .index (.var 0) (.o2 .idx (.var 3) (.cst (natD 0))))) .nil))) .nil)⟩
/-- three_rows: 0 order 1 pairs 2 whole 3 rows 4 masks 5 first 6 second 7 rest 8 third 9 one 10 other 11 pair 12 row 13 place -/
def F_three_rows (j_apart_pairs j_all_rows j_reversed_pairs : Nat) : Fn := ⟨1, 14, (.cons (.asg (.one 1) (.comp [9, 10, 11] (.var 11) (.cons (.tup [9, 10]) (.dat (.call j_apart_pairs (.cons (.var 0) .nil))) (.cst (.bool true)) (.cons (.one 11) (.dat (.tup (.cons (.tup (.cons (.var 9) (.cons (.var 10) .nil))) (.cons (.tup (.cons (.var 10) (.cons (.var 9) .nil))) .nil)))) (.cst (.bool true)) .nil)))) (.cons (.asg (.one 2) (.o2 .sub (.o2 .shl (.cst (natD 1)) (.o1 .len (.var 1))) (.cst (natD 1)))) (.cons (.asg (.one 3) (.call j_all_rows (.cons (.var 0) .nil))) (.cons (.frz 1) (.cons (.asg (.one 4) (.comp [12] (.o1 .sum (.comp [13] (.o2 .shl (.cst (natD 1)) (.var 13)) (.cons (.one 13) (.dat (.call j_reversed_pairs (.cons (.var 12) (.cons (.var 1) .nil)))) (.cst (.bool true)) .nil))) (.cons (.one 12) (.dat (.var 3)) (.cst (.bool true)) .nil))) (.cons (.for_ (.one 5) (.rng (.o1 .len (.var 3))) (.cons (.for_ (.one 6) (.rng2 (.o2 .add (.var 5) (.cst (natD 1))) (.o1 .len (.var 3))) (.cons (.asg (.one 7) (.o2 .band (.var 2) (.o1 .inv (.o2 .bor (.o2 .idx (.var 4) (.var 5)) (.o2 .idx (.var 4) (.var 6)))))) (.cons (.for_ (.one 8) (.rng2 (.o2 .add (.var 6) (.cst (natD 1))) (.o1 .len (.var 3))) (.cons (.ite (.o2 .eq (.o2 .band (.o2 .idx (.var 4) (.var 8)) (.var 7)) (.var 7)) (.cons (.ret (.tup (.cons (.o2 .idx (.var 3) (.var 5)) (.cons (.o2 .idx (.var 3) (.var 6)) (.cons (.o2 .idx (.var 3) (.var 8)) .nil))))) .nil) .nil) .nil) [.sh, .sh, .sh, .sh, .own, .sh, .sh, .sh, .dead, .dead, .dead, .dead, .dead, .dead]) .nil)) [.sh, .sh, .sh, .sh, .own, .sh, .dead, .dead, .dead, .dead, .dead, .dead, .dead, .dead]) .nil) [.sh, .sh, .sh, .sh, .own, .dead, .dead, .dead, .dead, .dead, .dead, .dead, .dead, .dead]) (.cons (.ret (.cst (.none))) .nil)))))))⟩
/-- told_by: 0 order 1 number 2 pairs 3 back 4 found 5 first 6 second 7 more -/
def F_told_by (j_dimension j_least_row j_three_rows j_other_way j_order_of : Nat) : Fn := ⟨1, 8, (.cons (.asg (.one 1) (.call j_dimension (.cons (.var 0) .nil))) (.cons (.ite (.o2 .eq (.var 1) (.cst (natD 1))) (.cons (.ret (.tup (.cons (.call j_least_row (.cons (.var 0) .nil)) .nil))) .nil) .nil) (.cons (.ite (.o2 .eq (.var 1) (.cst (natD 3))) (.cons (.ret (.call j_three_rows (.cons (.var 0) .nil))) .nil) .nil) (.cons (.asg (.one 2) (.call j_other_way (.cons (.var 0) .nil))) (.cons (.asg (.one 3) (.o1 .tuple (.comp [5, 6] (.tup (.cons (.var 6) (.cons (.var 5) .nil))) (.cons (.tup [5, 6]) (.dat (.var 2)) (.cst (.bool true)) .nil)))) (.cons (.asg (.one 4) (.comp [7] (.call j_least_row (.cons (.call j_order_of (.cons (.o2 .idx (.var 0) (.cst (natD 0))) (.cons (.o2 .add (.o2 .idx (.var 0) (.cst (natD 1))) (.var 7)) .nil))) .nil)) (.cons (.one 7) (.dat (.tup (.cons (.var 2) (.cons (.var 3) .nil)))) (.cst (.bool true)) .nil))) (.cons (.ret (.o1 .tuple (.o1 .sorted (.var 4)))) .nil)))))))⟩
/-- _law_ways: 0 order 1 loose 2 x 3 rows 4 y 5 grown 6 row 7 pair 8 later 9 good 10 a 11 b 12 c 13 d -/
def F__law_ways_k13 (j__law_apart : Nat) : Fn := ⟨1, 14, (.cons (.asg (.one 1) (.lst .nil)) (.cons (.for_ (.one 2) (.rng (.o2 .idx (.var 0) (.cst (natD 0)))) (.cons (.ext 1 (.comp [4] (.tup (.cons (.var 2) (.cons (.var 4) .nil))) (.cons (.one 4) (.rng2 (.o2 .add (.var 2) (.cst (natD 1))) (.o2 .idx (.var 0) (.cst (natD 0)))) (.call j__law_apart (.cons (.var 0) (.cons (.var 2) (.cons (.var 4) .nil)))) .nil))) .nil) [.sh, .own, .dead, .dead, .dead, .dead, .dead, .dead, .dead, .dead, .dead, .dead, .dead, .dead]) (.cons (.asg (.one 3) (.lst (.cons (.lst .nil) .nil))) (.cons (.frz 3) (.cons (.for_ (.tup [2, 4]) (.dat (.var 1)) (.cons (.asg (.one 5) (.lst .nil)) (.cons (.for_ (.one 6) (.dat (.var 3)) (.cons (.for_ (.one 7) (.dat (.tup (.cons (.tup (.cons (.var 2) (.cons (.var 4) .nil))) (.cons (.tup (.cons (.var 4) (.cons (.var 2) .nil))) .nil)))) (.cons (.asg (.one 8) (.o2 .add (.var 6) (.lst (.cons (.var 7) .nil)))) (.cons (.asg (.one 9) (.cst (.bool true))) (.cons (.for_ (.tup [10, 11]) (.dat (.var 8)) (.cons (.for_ (.tup [12, 13]) (.dat (.var 8)) (.cons (.ite (.and (.o2 .eq (.var 11) (.var 12)) (.or (.o2 .eq (.var 10) (.var 13)) (.or (.not (.call j__law_apart (.cons (.var 0) (.cons (.var 10) (.cons (.var 13) .nil))))) (.o2 .isIn (.tup (.cons (.var 13) (.cons (.var 10) .nil))) (.var 8))))) (.cons (.asg (.one 9) (.cst (.bool false))) .nil) .nil) .nil) [.sh, .lck, .sh, .sh, .sh, .own, .sh, .sh, .sh, .sh, .sh, .sh, .dead, .dead]) .nil) [.sh, .lck, .sh, .sh, .sh, .own, .sh, .sh, .sh, .sh, .dead, .dead, .dead, .dead]) (.cons (.ite (.var 9) (.cons (.app 5 (.var 8)) .nil) .nil) .nil)))) [.sh, .lck, .sh, .sh, .sh, .own, .sh, .dead, .dead, .dead, .dead, .dead, .dead, .dead]) .nil) [.sh, .lck, .sh, .sh, .sh, .own, .dead, .dead, .dead, .dead, .dead, .dead, .dead, .dead]) (.cons (.frz 5) (.cons (.asg (.one 3) (.var 5)) .nil)))) [.sh, .lck, .dead, .sh, .dead, .dead, .dead, .dead, .dead, .dead, .dead, .dead, .dead, .dead]) (.cons (.ret (.comp [6] (.o1 .tuple (.o1 .sorted (.var 6))) (.cons (.one 6) (.dat (.var 3)) (.cst (.bool true)) .nil))) .nil))))))⟩
/-- law: 0 script 1 row 2 order 3 n 4 pairs 5 ways 6 due 7 rows 8 number 9 told 10 x 11 y 12 always 13 one 14 k -/
def F_law_k13 (j__law_row j__law_order j__law_ways j__law_like j_other_way j__law_rows j_dimension j_told_by : Nat) : Fn := ⟨1, 15, (.cons (.asg (.one 1) (.call j__law_row (.cons (.var 0) (.cons (.cst (natD 30)) .nil)))) (.cons (.asg (.one 2) (.call j__law_order (.cons (.o2 .add (.lst (.cons (.o2 .idx (.tup (.cons (.cst (natD 4)) (.cons (.o1 .int (.o2 .idx (.var 1) (.cst (natD 0)))) (.cons (.o1 .int (.o2 .idx (.var 1) (.cst (natD 0)))) (.cons (.cst (natD 5)) .nil))))) (.o2 .mod (.o1 .int (.o2 .idx (.var 1) (.cst (natD 20)))) (.cst (natD 4)))) .nil)) (.o2 .from_ (.var 1) (.cst (natD 1)))) (.cons (.cst (natD 0)) (.cons (.cst (natD 6)) .nil))))) (.cons (.asg (.tup [3, 4]) (.var 2)) (.cons (.ite (.and (.o2 .eq (.var 3) (.cst (natD 6))) (.o2 .lt (.o1 .len (.var 4)) (.cst (natD 5)))) (.cons (.asg (.one 2) (.tup (.cons (.cst (natD 5)) (.cons (.o1 .tuple (.comp [10, 11] (.tup (.cons (.var 10) (.cons (.var 11) .nil))) (.cons (.tup [10, 11]) (.dat (.var 4)) (.and (.o2 .lt (.var 11) (.cst (natD 5))) (.o2 .lt (.var 10) (.cst (natD 5)))) .nil))) .nil)))) (.cons (.asg (.tup [3, 4]) (.var 2)) .nil)) .nil) (.cons (.asg (.one 5) (.call j__law_ways (.cons (.var 2) .nil))) (.cons (.asg (.one 6) (.cst (.none))) (.cons (.ite (.o2 .gt (.o1 .len (.var 5)) (.cst (natD 0))) (.cons (.asg (.one 6) (.o1 .min (.var 5))) .nil) .nil) (.cons (.ite (.not (.call j__law_like (.cons (.call j_other_way (.cons (.var 2) .nil)) (.cons (.var 6) .nil)))) (.cons (.ret (.cst (.bool false))) .nil) .nil) (.cons (.asg (.one 7) (.call j__law_rows (.cons (.var 2) .nil))) (.cons (.asg (.one 8) (.o2 .add (.o2 .add (.cst (natD 1)) (.o1 .int (.o2 .gt (.o1 .len (.var 7)) (.cst (natD 1))))) (.o1 .int (.o2 .eq (.o1 .len (.var 5)) (.cst (natD 0)))))) (.cons (.ite (.not (.call j__law_like (.cons (.call j_dimension (.cons (.var 2) .nil)) (.cons (.var 8) .nil)))) (.cons (.ret (.cst (.bool false))) .nil) .nil) (.cons (.asg (.one 9) (.call j_told_by (.cons (.var 2) .nil))) (.cons (.ite (.or (.not (.o1 .tTuple (.var 9))) (.or (.o2 .ne (.o1 .len (.var 9)) (.var 8)) (.not (.o1 .all (.comp [13] (.o2 .isIn (.var 13) (.var 7)) (.cons (.one 13) (.dat (.var 9)) (.cst (.bool true)) .nil)))))) (.cons (.ret (.cst (.bool false))) .nil) .nil) (.cons (.ite (.not (.o1 .all (.comp [14] (.o2 .lt (.o2 .idx (.var 9) (.var 14)) (.o2 .idx (.var 9) (.o2 .add (.var 14) (.cst (natD 1))))) (.cons (.one 14) (.rng (.o2 .sub (.var 8) (.cst (natD 1)))) (.cst (.bool true)) .nil)))) (.cons (.ret (.cst (.bool false))) .nil) .nil) (.cons (.for_ (.one 10) (.rng (.var 3)) (.cons (.for_ (.one 11) (.rng (.var 3)) (.cons (.asg (.one 12) (.and (.o2 .ne (.var 10) (.var 11)) (.o1 .all (.comp [13] (.o2 .lt (.o2 .index (.var 13) (.var 10)) (.o2 .index (.var 13) (.var 11))) (.cons (.one 13) (.dat (.var 9)) (.cst (.bool true)) .nil))))) (.cons (.ite (.o2 .ne (.var 12) (.o2 .isIn (.tup (.cons (.var 10) (.cons (.var 11) .nil))) (.var 4))) (.cons (.ret (.cst (.bool false))) .nil) .nil) .nil)) [.sh, .sh, .sh, .sh, .sh, .sh, .sh, .sh, .sh, .sh, .sh, .dead, .dead, .dead, .dead]) .nil) [.sh, .sh, .sh, .sh, .sh, .sh, .sh, .sh, .sh, .sh, .dead, .dead, .dead, .dead, .dead]) (.cons (.ret (.cst (.bool true))) .nil))))))))))))))))⟩
/-- from_down_sets: 0 order 1 sets 2 pairs 3 one 4 other 5 thing -/
def F_from_down_sets (j_down_sets : Nat) : Fn := ⟨1, 6, (.cons (.asg (.one 1) (.call j_down_sets (.cons (.var 0) .nil))) (.cons (.asg (.one 2) (.comp [3, 4] (.tup (.cons (.var 3) (.cons (.var 4) .nil))) (.cons (.one 3) (.rng (.o1 .len (.var 1))) (.cst (.bool true)) (.cons (.one 4) (.rng (.o1 .len (.var 1))) (.and (.o2 .ne (.var 3) (.var 4)) (.o1 .all (.comp [5] (.o2 .isIn (.var 5) (.o2 .idx (.var 1) (.var 4))) (.cons (.one 5) (.dat (.o2 .idx (.var 1) (.var 3))) (.cst (.bool true)) .nil)))) .nil)))) (.cons (.ret (.tup (.cons (.o1 .len (.var 1)) (.cons (.o1 .tuple (.var 2)) .nil)))) .nil)))⟩
/-- from_joins: 0 order 1 things 2 found 3 thing 4 others 5 made 6 other 7 one -/
def F_from_joins (j_join j_is_at_most j_part_of : Nat) : Fn := ⟨1, 8, (.cons (.asg (.one 1) (.rgl false (.cst (.int 0)) (.o2 .idx (.var 0) (.cst (natD 0))))) (.cons (.asg (.one 2) (.lst .nil)) (.cons (.for_ (.one 3) (.dat (.var 1)) (.cons (.asg (.one 4) (.comp [6] (.var 6) (.cons (.one 6) (.dat (.var 1)) (.o2 .ne (.var 6) (.var 3)) .nil))) (.cons (.asg (.one 5) (.o1 .any (.comp [7, 6] (.o2 .eq (.call j_join (.cons (.var 0) (.cons (.var 7) (.cons (.var 6) .nil)))) (.var 3)) (.cons (.one 7) (.dat (.var 4)) (.cst (.bool true)) (.cons (.one 6) (.dat (.var 4)) (.cst (.bool true)) .nil))))) (.cons (.ite (.and (.not (.var 5)) (.not (.o1 .all (.comp [6] (.call j_is_at_most (.cons (.var 0) (.cons (.var 3) (.cons (.var 6) .nil)))) (.cons (.one 6) (.dat (.var 1)) (.cst (.bool true)) .nil))))) (.cons (.app 2 (.var 3)) .nil) .nil) .nil))) [.sh, .lck, .own, .dead, .dead, .dead, .dead, .dead]) (.cons (.ret (.ite (.var 2) (.call j_part_of (.cons (.var 0) (.cons (.o1 .tuple (.var 2)) .nil))) (.cst (.none)))) .nil))))⟩
/-- _law_downs: 0 order 1 one 2 x 3 y -/
def F__law_downs (j__law_sets : Nat) : Fn := ⟨1, 4, (.cons (.ret (.o1 .sorted (.comp [1] (.var 1) (.cons (.one 1) (.dat (.call j__law_sets (.cons (.o2 .idx (.var 0) (.cst (natD 0))) .nil))) (.o1 .all (.comp [2, 3] (.o2 .isIn (.var 2) (.var 1)) (.cons (.tup [2, 3]) (.dat (.o2 .idx (.var 0) (.cst (natD 1)))) (.o2 .isIn (.var 3) (.var 1)) .nil))) .nil)))) .nil)⟩
/-- _law_inside: 0 sets 1 pairs 2 k 3 j 4 x -/
def F__law_inside : Fn := ⟨1, 5, (.cons (.asg (.one 1) (.lst .nil)) (.cons (.for_ (.one 2) (.rng (.o1 .len (.var 0))) (.cons (.ext 1 (.comp [3] (.tup (.cons (.var 2) (.cons (.var 3) .nil))) (.cons (.one 3) (.rng (.o1 .len (.var 0))) (.and (.o2 .ne (.var 2) (.var 3)) (.o1 .all (.comp [4] (.o2 .isIn (.var 4) (.o2 .idx (.var 0) (.var 3))) (.cons (.one 4) (.dat (.o2 .idx (.var 0) (.var 2))) (.cst (.bool true)) .nil)))) .nil))) .nil) [.sh, .own, .dead, .dead, .dead]) (.cons (.ret (.tup (.cons (.o1 .len (.var 0)) (.cons (.o1 .tuple (.var 1)) .nil)))) .nil)))⟩
/-- _law_joins: 0 order 1 n 2 pairs 3 found 4 x 5 rest 6 made 7 y 8 z -/
def F__law_joins (j__law_join : Nat) : Fn := ⟨1, 9, (.cons (.asg (.tup [1, 2]) (.var 0)) (.cons (.asg (.one 3) (.lst .nil)) (.cons (.for_ (.one 4) (.rng (.var 1)) (.cons (.asg (.one 5) (.comp [7] (.var 7) (.cons (.one 7) (.rng (.var 1)) (.o2 .ne (.var 7) (.var 4)) .nil))) (.cons (.asg (.one 6) (.cst (.bool false))) (.cons (.for_ (.one 7) (.dat (.var 5)) (.cons (.asg (.one 6) (.or (.var 6) (.o1 .any (.comp [8] (.o2 .eq (.call j__law_join (.cons (.var 0) (.cons (.var 7) (.cons (.var 8) .nil)))) (.var 4)) (.cons (.one 8) (.dat (.var 5)) (.cst (.bool true)) .nil))))) .nil) [.sh, .sh, .sh, .own, .sh, .lck, .sh, .dead, .dead]) (.cons (.ite (.and (.not (.var 6)) (.o1 .any (.comp [7] (.o2 .isIn (.tup (.cons (.var 7) (.cons (.var 4) .nil))) (.var 2)) (.cons (.one 7) (.dat (.var 5)) (.cst (.bool true)) .nil)))) (.cons (.app 3 (.var 4)) .nil) .nil) .nil)))) [.sh, .sh, .sh, .own, .dead, .dead, .dead, .dead, .dead]) (.cons (.frz 3) (.cons (.ret (.var 3)) .nil)))))⟩
/-- law: 0 script 1 row 2 order 3 n 4 whole 5 lattice 6 things 7 inner 8 due 9 sets 10 alike 11 x 12 y -/
def F_law_k17 (j__law_row j__law_order j__law_downs j__law_inside j__law_like j_from_down_sets j_is_lattice j_is_distributive j_normal j_from_joins j__law_lattice j__law_joins : Nat) : Fn := ⟨1, 13, (.cons (.asg (.one 1) (.call j__law_row (.cons (.var 0) (.cons (.cst (natD 40)) .nil)))) (.cons (.asg (.one 2) (.call j__law_order (.cons (.var 1) (.cons (.cst (natD 0)) (.cons (.cst (natD 4)) .nil))))) (.cons (.while_ (.o2 .gt (.o1 .len (.call j__law_downs (.cons (.var 2) .nil))) (.cst (natD 7))) (.cons (.asg (.one 3) (.o2 .sub (.o2 .idx (.var 2) (.cst (natD 0))) (.cst (natD 1)))) (.cons (.asg (.one 2) (.tup (.cons (.var 3) (.cons (.o1 .tuple (.comp [11, 12] (.tup (.cons (.var 11) (.cons (.var 12) .nil))) (.cons (.tup [11, 12]) (.dat (.o2 .idx (.var 2) (.cst (natD 1)))) (.and (.o2 .lt (.var 11) (.var 3)) (.o2 .lt (.var 12) (.var 3))) .nil))) .nil)))) .nil)) [.sh, .sh, .sh, .dead, .dead, .dead, .dead, .dead, .dead, .dead, .dead, .dead, .dead]) (.cons (.asg (.one 4) (.call j__law_inside (.cons (.call j__law_downs (.cons (.var 2) .nil)) .nil))) (.cons (.ite (.not (.call j__law_like (.cons (.call j_from_down_sets (.cons (.var 2) .nil)) (.cons (.var 4) .nil)))) (.cons (.ret (.cst (.bool false))) .nil) .nil) (.cons (.ite (.or (.not (.call j__law_like (.cons (.call j_is_lattice (.cons (.var 4) .nil)) (.cons (.cst (.bool true)) .nil)))) (.not (.call j__law_like (.cons (.call j_is_distributive (.cons (.var 4) .nil)) (.cons (.cst (.bool true)) .nil))))) (.cons (.ret (.cst (.bool false))) .nil) .nil) (.cons (.ite (.o2 .ne (.call j_normal (.cons (.call j_from_joins (.cons (.var 4) .nil)) .nil)) (.call j_normal (.cons (.var 2) .nil))) (.cons (.ret (.cst (.bool false))) .nil) .nil) (.cons (.asg (.one 5) (.call j__law_lattice (.cons (.var 1) (.cons (.cst (natD 24)) .nil)))) (.cons (.asg (.one 6) (.call j__law_joins (.cons (.var 5) .nil))) (.cons (.asg (.one 7) (.comp [11, 12] (.tup (.cons (.o2 .index (.var 6) (.var 11)) (.cons (.o2 .index (.var 6) (.var 12)) .nil))) (.cons (.tup [11, 12]) (.dat (.o2 .idx (.var 5) (.cst (natD 1)))) (.and (.o2 .isIn (.var 11) (.var 6)) (.o2 .isIn (.var 12) (.var 6))) .nil))) (.cons (.asg (.one 8) (.tup (.cons (.o1 .len (.var 6)) (.cons (.o1 .tuple (.o1 .sorted (.var 7))) .nil)))) (.cons (.ite (.not (.call j__law_like (.cons (.call j_from_joins (.cons (.var 5) .nil)) (.cons (.var 8) .nil)))) (.cons (.ret (.cst (.bool false))) .nil) .nil) (.cons (.asg (.one 9) (.call j__law_inside (.cons (.call j__law_downs (.cons (.var 8) .nil)) .nil))) (.cons (.asg (.one 10) (.and (.o2 .eq (.o1 .len (.o2 .idx (.var 9) (.cst (natD 1)))) (.o1 .len (.o2 .idx (.var 5) (.cst (natD 1))))) (.o2 .eq (.o2 .idx (.var 9) (.cst (natD 0))) (.o2 .idx (.var 5) (.cst (natD 0)))))) (.cons (.ite (.and (.var 10) (.o2 .lt (.o2 .idx (.var 5) (.cst (natD 0))) (.cst (natD 6)))) (.cons (.asg (.one 10) (.o2 .eq (.call j_normal (.cons (.var 9) .nil)) (.call j_normal (.cons (.var 5) .nil)))) .nil) .nil) (.cons (.ite (.o2 .ge (.o2 .idx (.var 5) (.cst (natD 0))) (.cst (natD 6))) (.cons (.ret (.or (.o1 .isF (.call j_is_distributive (.cons (.var 5) .nil))) (.var 10))) .nil) .nil) (.cons (.ret (.call j__law_like (.cons (.call j_is_distributive (.cons (.var 5) .nil)) (.cons (.var 10) .nil)))) .nil)))))))))))))))))⟩
end Orp

/-! Further defs of the laws (printed by tools/par2). -/
namespace Orp
/-- count_fillings: 0 shape 1 columns 2 product 3 hooks 4 count 5 row 6 length 7 column -/
def F_count_fillings (j_turned_shape : Nat) : Fn := ⟨1, 8, (.cons (.asg (.one 1) (.call j_turned_shape (.cons (.var 0) .nil))) (.cons (.asg (.tup [2, 3]) (.tup (.cons (.cst (natD 1)) (.cons (.cst (natD 1)) .nil)))) (.cons (.asg (.one 4) (.cst (natD 0))) (.cons (.for_ (.tup [5, 6]) (.enu (.var 0)) (.cons (.for_ (.one 7) (.rng (.var 6)) (.cons (.aug 4 .add (.cst (natD 1))) (.cons (.aug 2 .mul (.var 4)) (.cons (.aug 3 .mul (.o2 .sub (.o2 .sub (.o2 .add (.o2 .sub (.var 6) (.var 7)) (.o2 .idx (.var 1) (.var 7))) (.var 5)) (.cst (natD 1)))) .nil))) [.sh, .sh, .sh, .sh, .sh, .sh, .sh, .dead]) .nil) [.sh, .sh, .sh, .sh, .sh, .dead, .dead, .dead]) (.cons (.ret (.o2 .fdiv (.var 2) (.var 3))) .nil)))))⟩
/-- are_akin: 0 first 1 second -/
def F_are_akin (j_tableau : Nat) : Fn := ⟨2, 2, (.cons (.ret (.o2 .eq (.call j_tableau (.cons (.var 0) .nil)) (.call j_tableau (.cons (.var 1) .nil)))) .nil)⟩
/-- akin: 0 numbers 1 goal 2 found 3 order 4 place 5 other -/
def F_akin (j_tableau j_orders_of : Nat) : Fn := ⟨1, 6, (.cons (.asg (.one 1) (.call j_tableau (.cons (.var 0) .nil))) (.cons (.asg (.one 2) (.comp [3] (.o1 .tuple (.comp [4] (.o2 .idx (.var 0) (.var 4)) (.cons (.one 4) (.dat (.var 3)) (.cst (.bool true)) .nil))) (.cons (.one 3) (.dat (.call j_orders_of (.cons (.rgl false (.cst (.int 0)) (.o1 .len (.var 0))) .nil))) (.cst (.bool true)) .nil))) (.cons (.ret (.o1 .tuple (.o1 .sset (.comp [5] (.var 5) (.cons (.one 5) (.dat (.var 2)) (.o2 .eq (.call j_tableau (.cons (.var 5) .nil)) (.var 1)) .nil))))) .nil)))⟩
/-- _law_near: 0 numbers 1 found 2 k 3 a 4 b 5 c -/
def F__law_near : Fn := ⟨1, 6, (.cons (.asg (.one 1) (.lst .nil)) (.cons (.for_ (.one 2) (.rng (.o2 .sub (.o1 .len (.var 0)) (.cst (natD 2)))) (.cons (.asg (.tup [3, 4, 5]) (.o3 .cut (.var 0) (.var 2) (.o2 .add (.var 2) (.cst (natD 3))))) (.cons (.ite (.or (.chain .lt .le (.var 4) (.var 3) (.var 5)) (.chain .lt .le (.var 5) (.var 3) (.var 4))) (.cons (.app 1 (.o2 .add (.o2 .add (.o2 .upto (.var 0) (.var 2)) (.tup (.cons (.var 3) (.cons (.var 5) (.cons (.var 4) .nil))))) (.o2 .from_ (.var 0) (.o2 .add (.var 2) (.cst (natD 3)))))) .nil) .nil) (.cons (.ite (.or (.chain .le .lt (.var 3) (.var 5) (.var 4)) (.chain .le .lt (.var 4) (.var 5) (.var 3))) (.cons (.app 1 (.o2 .add (.o2 .add (.o2 .upto (.var 0) (.var 2)) (.tup (.cons (.var 4) (.cons (.var 3) (.cons (.var 5) .nil))))) (.o2 .from_ (.var 0) (.o2 .add (.var 2) (.cst (natD 3)))))) .nil) .nil) .nil))) [.sh, .own, .dead, .dead, .dead, .dead]) (.cons (.frz 1) (.cons (.ret (.var 1)) .nil))))⟩
/-- law: 0 script 1 row 2 numbers 3 met 4 layer 5 grown 6 one 7 other 8 goal 9 k 10 near 11 i 12 j 13 changed 14 line -/
def F_law_k26 (j__law_row j__law_numbers j__law_near j__law_both j__law_like j_akin j_count_fillings j_are_akin : Nat) : Fn := ⟨1, 15, (.cons (.asg (.one 1) (.call j__law_row (.cons (.var 0) (.cons (.cst (natD 30)) .nil)))) (.cons (.asg (.one 2) (.call j__law_numbers (.cons (.var 1) (.cons (.cst (natD 0)) (.cons (.cst (natD 6)) .nil))))) (.cons (.asg (.one 3) (.done true (.var 2) (.cst (.bool true)))) (.cons (.asg (.one 4) (.lst (.cons (.var 2) .nil))) (.cons (.frz 4) (.cons (.while_ (.o2 .gt (.o1 .len (.var 4)) (.cst (natD 0))) (.cons (.asg (.one 5) (.lst .nil)) (.cons (.for_ (.one 6) (.dat (.var 4)) (.cons (.for_ (.one 7) (.dat (.call j__law_near (.cons (.var 6) .nil))) (.cons (.ite (.o2 .notIn (.var 7) (.var 3)) (.cons (.set 3 (.var 7) (.cst (.bool true))) (.cons (.app 5 (.var 7)) .nil)) .nil) .nil) [.sh, .sh, .sh, .dT, .sh, .own, .sh, .dead, .dead, .dead, .dead, .dead, .dead, .dead, .dead]) .nil) [.sh, .sh, .sh, .dT, .sh, .own, .dead, .dead, .dead, .dead, .dead, .dead, .dead, .dead, .dead]) (.cons (.frz 5) (.cons (.asg (.one 4) (.var 5)) .nil)))) [.sh, .sh, .sh, .dT, .sh, .dead, .dead, .dead, .dead, .dead, .dead, .dead, .dead, .dead, .dead]) (.cons (.asg (.one 8) (.o2 .idx (.call j__law_both (.cons (.var 2) .nil)) (.cst (natD 0)))) (.cons (.ite (.not (.call j__law_like (.cons (.call j_akin (.cons (.var 2) .nil)) (.cons (.o1 .tuple (.o1 .sorted (.var 3))) .nil)))) (.cons (.ret (.cst (.bool false))) .nil) .nil) (.cons (.ite (.not (.o1 .all (.comp [6] (.o2 .eq (.o2 .idx (.call j__law_both (.cons (.var 6) .nil)) (.cst (natD 0))) (.var 8)) (.cons (.one 6) (.dat (.var 3)) (.cst (.bool true)) .nil)))) (.cons (.ret (.cst (.bool false))) .nil) .nil) (.cons (.ite (.and (.o2 .eq (.o1 .lset (.var 2)) (.o1 .len (.var 2))) (.not (.call j__law_like (.cons (.call j_count_fillings (.cons (.o1 .tuple (.comp [14] (.o1 .len (.var 14)) (.cons (.one 14) (.dat (.var 8)) (.cst (.bool true)) .nil))) .nil)) (.cons (.o1 .len (.var 3)) .nil))))) (.cons (.ret (.cst (.bool false))) .nil) .nil) (.cons (.asg (.one 7) (.var 2)) (.cons (.for_ (.one 9) (.rng (.o2 .mod (.o1 .int (.o2 .idx (.var 1) (.cst (natD 12)))) (.cst (natD 7)))) (.cons (.asg (.one 10) (.call j__law_near (.cons (.var 7) .nil))) (.cons (.ite (.o2 .gt (.o1 .len (.var 10)) (.cst (natD 0))) (.cons (.asg (.one 7) (.o2 .idx (.var 10) (.o2 .mod (.o1 .int (.o2 .idx (.var 1) (.o2 .add (.cst (natD 13)) (.var 9)))) (.o1 .len (.var 10))))) .nil) .nil) .nil)) [.sh, .sh, .sh, .dT, .sh, .dead, .dead, .sh, .sh, .dead, .dead, .dead, .dead, .dead, .dead]) (.cons (.ite (.and (.o2 .eq (.o2 .mod (.o2 .idx (.var 1) (.cst (natD 20))) (.cst (natD 2))) (.cst (natD 1))) (.o2 .gt (.o1 .len (.var 2)) (.cst (natD 1)))) (.cons (.par [11, 12] (.cons (.o2 .mod (.o1 .int (.o2 .idx (.var 1) (.cst (natD 21)))) (.o1 .len (.var 2))) (.cons (.o2 .mod (.o1 .int (.o2 .idx (.var 1) (.cst (natD 22)))) (.o1 .len (.var 2))) .nil))) (.cons (.asg (.one 13) (.o1 .list (.var 7))) (.cons (.set2 13 (.var 11) (.var 12) (.tup (.cons (.o2 .idx (.var 13) (.var 12)) (.cons (.o2 .idx (.var 13) (.var 11)) .nil)))) (.cons (.asg (.one 7) (.o1 .tuple (.var 13))) .nil)))) .nil) (.cons (.ret (.call j__law_like (.cons (.call j_are_akin (.cons (.var 2) (.cons (.var 7) .nil))) (.cons (.o2 .eq (.o2 .idx (.call j__law_both (.cons (.var 7) .nil)) (.cst (natD 0))) (.var 8)) .nil)))) .nil))))))))))))))⟩
end Orp

/-! Further defs of the laws (printed by tools/par2). -/
namespace Orp
/-- is_number: 0 value 1 least 2 most -/
def F_is_number : Fn := ⟨3, 3, (.cons (.ret (.and (.o1 .tInt (.var 0)) (.and (.not (.o1 .tBool (.var 0))) (.chain .le .le (.var 1) (.var 0) (.var 2))))) .nil)⟩
/-- is_row: 0 value 1 length -/
def F_is_row : Fn := ⟨2, 2, (.cons (.ret (.and (.o1 .tTuple (.var 0)) (.o2 .eq (.o1 .len (.var 0)) (.var 1)))) .nil)⟩
/-- is_ascending: 0 row 1 less 2 more -/
def F_is_ascending : Fn := ⟨1, 3, (.cons (.ret (.o1 .all (.comp [1, 2] (.o2 .lt (.var 1) (.var 2)) (.cons (.tup [1, 2]) (.zip (.var 0) (.o2 .from_ (.var 0) (.cst (natD 1)))) (.cst (.bool true)) .nil)))) .nil)⟩
/-- is_pair: 0 n 1 value 2 part -/
def F_is_pair (j_is_row j_is_number : Nat) : Fn := ⟨2, 3, (.cons (.ret (.and (.call j_is_row (.cons (.var 1) (.cons (.cst (natD 2)) .nil))) (.and (.o1 .all (.comp [2] (.call j_is_number (.cons (.var 2) (.cons (.cst (natD 0)) (.cons (.o2 .sub (.var 0) (.cst (natD 1))) .nil)))) (.cons (.one 2) (.dat (.var 1)) (.cst (.bool true)) .nil))) (.o2 .ne (.o2 .idx (.var 1) (.cst (natD 0))) (.o2 .idx (.var 1) (.cst (natD 1))))))) .nil)⟩
/-- text_of: 0 rows 1 row 2 token -/
def F_text_of : Fn := ⟨1, 3, (.cons (.ret (.o2 .join (.cst (.str (PySem.Str.ofString ""))) (.comp [1] (.o2 .add (.o2 .join (.cst (.str (PySem.Str.ofString " "))) (.comp [2] (.o1 .str (.var 2)) (.cons (.one 2) (.dat (.var 1)) (.cst (.bool true)) .nil))) (.cst (.str (PySem.Str.ofString "\n")))) (.cons (.one 1) (.dat (.var 0)) (.cst (.bool true)) .nil)))) .nil)⟩
/-- order_text: 0 order -/
def F_order_text (j_text_of j_steps : Nat) : Fn := ⟨1, 1, (.cons (.ret (.call j_text_of (.cons (.o2 .add (.lst (.cons (.tup (.cons (.cst (.str (PySem.Str.ofString "order"))) (.cons (.o2 .idx (.var 0) (.cst (natD 0))) .nil))) .nil)) (.o1 .list (.call j_steps (.cons (.var 0) .nil)))) .nil))) .nil)⟩
/-- table_text: 0 table 1 row -/
def F_table_text (j_text_of : Nat) : Fn := ⟨1, 2, (.cons (.ret (.call j_text_of (.cons (.o2 .add (.lst (.cons (.tup (.cons (.cst (.str (PySem.Str.ofString "table"))) .nil)) .nil)) (.comp [1] (.o2 .add (.tup (.cons (.cst (.str (PySem.Str.ofString "row"))) .nil)) (.var 1)) (.cons (.one 1) (.dat (.var 0)) (.cst (.bool true)) .nil))) .nil))) .nil)⟩
/-- rows_of: 0 text 1 rows 2 row -/
def F_rows_of : Fn := ⟨1, 3, (.cons (.asg (.one 1) (.comp [2] (.o2 .split (.var 2) (.cst (.str (PySem.Str.ofString " ")))) (.cons (.one 2) (.dat (.o2 .split (.var 0) (.cst (.str (PySem.Str.ofString "\n"))))) (.cst (.bool true)) .nil))) (.cons (.ite (.o2 .eq (.o2 .idx (.var 1) (.o1 .neg (.cst (natD 1)))) (.lst (.cons (.cst (.str (PySem.Str.ofString ""))) .nil))) (.cons (.ret (.o2 .upto (.var 1) (.o1 .neg (.cst (natD 1))))) .nil) .nil) (.cons (.ret (.o2 .add (.o2 .upto (.var 1) (.o1 .neg (.cst (natD 1)))) (.lst (.cons (.cst (.none)) .nil)))) .nil)))⟩
/-- number_of: 0 token 1 sign -/
def F_number_of : Fn := ⟨1, 2, (.cons (.ite (.or (.not (.chain .le .le (.cst (natD 1)) (.o1 .len (.var 0)) (.cst (natD 7)))) (.o1 .any (.comp [1] (.o2 .notIn (.var 1) (.cst (.str (PySem.Str.ofString "0123456789")))) (.cons (.one 1) (.dat (.var 0)) (.cst (.bool true)) .nil)))) (.cons (.ret (.cst (.none))) .nil) .nil) (.cons (.ite (.and (.o2 .eq (.o2 .idx (.var 0) (.cst (natD 0))) (.cst (.str (PySem.Str.ofString "0")))) (.o2 .gt (.o1 .len (.var 0)) (.cst (natD 1)))) (.cons (.ret (.cst (.none))) .nil) .nil) (.cons (.ret (.o1 .int (.var 0))) .nil)))⟩
/-- told: 0 rows 1 place 2 word 3 tokens 4 numbers 5 token -/
def F_told (j_number_of : Nat) : Fn := ⟨3, 6, (.cons (.ite (.or (.o2 .ge (.var 1) (.o1 .len (.var 0))) (.o1 .isN (.o2 .idx (.var 0) (.var 1)))) (.cons (.nvr) .nil) .nil) (.cons (.asg (.one 3) (.o2 .idx (.var 0) (.var 1))) (.cons (.ite (.var 2) (.cons (.ite (.o2 .ne (.o2 .idx (.var 3) (.cst (natD 0))) (.var 2)) (.cons (.nvr) .nil) .nil) (.cons (.asg (.one 3) (.o2 .from_ (.var 3) (.cst (natD 1)))) .nil)) .nil) (.cons (.asg (.one 4) (.comp [5] (.call j_number_of (.cons (.var 5) .nil)) (.cons (.one 5) (.dat (.var 3)) (.cst (.bool true)) .nil))) (.cons (.ite (.o2 .isIn (.cst (.none)) (.var 4)) (.cons (.nvr) .nil) .nil) (.cons (.ret (.o1 .tuple (.var 4))) .nil))))))⟩
/-- read_order: 0 text 1 rows 2 head 3 order 4 place 5 pair -/
def F_read_order (j_rows_of j_told j_is_number j_is_pair j_order_of : Nat) : Fn := ⟨1, 6, (.cons (.asg (.one 1) (.call j_rows_of (.cons (.var 0) .nil))) (.cons (.asg (.one 2) (.call j_told (.cons (.var 1) (.cons (.cst (natD 0)) (.cons (.cst (.str (PySem.Str.ofString "order"))) .nil))))) (.cons (.ite (.or (.o2 .ne (.o1 .len (.var 2)) (.cst (natD 1))) (.not (.call j_is_number (.cons (.o2 .idx (.var 2) (.cst (natD 0))) (.cons (.cst (natD 1)) (.cons (.cst (natD 7)) .nil)))))) (.cons (.nvr) .nil) .nil) (.cons (.asg (.one 3) (.tup (.cons (.o2 .idx (.var 2) (.cst (natD 0))) (.cons (.tup .nil) .nil)))) (.cons (.for_ (.one 4) (.rng2 (.cst (natD 1)) (.o1 .len (.var 1))) (.cons (.asg (.one 5) (.call j_told (.cons (.var 1) (.cons (.var 4) (.cons (.cst (.str (PySem.Str.ofString ""))) .nil))))) (.cons (.ite (.not (.call j_is_pair (.cons (.o2 .idx (.var 2) (.cst (natD 0))) (.cons (.var 5) .nil)))) (.cons (.nvr) .nil) .nil) (.cons (.asg (.one 3) (.call j_order_of (.cons (.o2 .idx (.var 2) (.cst (natD 0))) (.cons (.o2 .add (.o2 .idx (.var 3) (.cst (natD 1))) (.tup (.cons (.var 5) .nil))) .nil)))) (.cons (.ite (.o1 .isN (.var 3)) (.cons (.nvr) .nil) .nil) .nil)))) [.sh, .sh, .sh, .sh, .dead, .dead]) (.cons (.ret (.var 3)) .nil))))))⟩
/-- read_table: 0 text 1 rows 2 table 3 place 4 marks 5 mark -/
def F_read_table (j_rows_of j_told j_is_ascending : Nat) : Fn := ⟨1, 6, (.cons (.asg (.one 1) (.call j_rows_of (.cons (.var 0) .nil))) (.cons (.ite (.o2 .ne (.call j_told (.cons (.var 1) (.cons (.cst (natD 0)) (.cons (.cst (.str (PySem.Str.ofString "table"))) .nil)))) (.tup .nil)) (.cons (.nvr) .nil) .nil) (.cons (.asg (.one 2) (.tup .nil)) (.cons (.for_ (.one 3) (.rng2 (.cst (natD 1)) (.o1 .len (.var 1))) (.cons (.asg (.one 4) (.call j_told (.cons (.var 1) (.cons (.var 3) (.cons (.cst (.str (PySem.Str.ofString "row"))) .nil))))) (.cons (.ite (.or (.not (.call j_is_ascending (.cons (.var 4) .nil))) (.or (.o1 .any (.comp [5] (.o2 .notIn (.var 5) (.cst (tupE natD [0, 1, 2, 3, 4, 5]))) (.cons (.one 5) (.dat (.var 4)) (.cst (.bool true)) .nil))) (.o2 .ge (.o1 .len (.var 2)) (.cst (natD 6))))) (.cons (.nvr) .nil) .nil) (.cons (.asg (.one 2) (.o2 .add (.var 2) (.tup (.cons (.var 4) .nil)))) .nil))) [.sh, .sh, .sh, .dead, .dead, .dead]) (.cons (.ite (.not (.var 2)) (.cons (.nvr) .nil) .nil) (.cons (.ret (.var 2)) .nil))))))⟩
/-- _law_text: 0 rows 1 line 2 part -/
def F__law_text : Fn := ⟨1, 3, (.cons (.ret (.o2 .join (.cst (.str (PySem.Str.ofString ""))) (.comp [1] (.o2 .add (.o2 .join (.cst (.str (PySem.Str.ofString " "))) (.comp [2] (.o1 .str (.var 2)) (.cons (.one 2) (.dat (.var 1)) (.cst (.bool true)) .nil))) (.cst (.str (PySem.Str.ofString "\n")))) (.cons (.one 1) (.dat (.var 0)) (.cst (.bool true)) .nil)))) .nil)⟩
/-- law: 0 script 1 row 2 order 3 n 4 pairs 5 steps_v 6 text 7 turn 8 mixed 9 table 10 x 11 y 12 z 13 pair 14 marks -/
def F_law_k27 (j__law_row j__law_order j__law_text j__law_like j_read_order j_order_text j__law_table j_read_table j_table_text : Nat) : Fn := ⟨1, 15, (.cons (.asg (.one 1) (.call j__law_row (.cons (.var 0) (.cons (.cst (natD 50)) .nil)))) (.cons (.asg (.one 2) (.call j__law_order (.cons (.var 1) (.cons (.cst (natD 0)) (.cons (.cst (natD 7)) .nil))))) (.cons (.asg (.tup [3, 4]) (.var 2)) (.cons (.asg (.one 5) (.comp [10, 11] (.tup (.cons (.var 10) (.cons (.var 11) .nil))) (.cons (.tup [10, 11]) (.dat (.var 4)) (.not (.o1 .any (.comp [12] (.and (.o2 .isIn (.tup (.cons (.var 10) (.cons (.var 12) .nil))) (.var 4)) (.o2 .isIn (.tup (.cons (.var 12) (.cons (.var 11) .nil))) (.var 4))) (.cons (.one 12) (.rng (.var 3)) (.cst (.bool true)) .nil)))) .nil))) (.cons (.asg (.one 6) (.call j__law_text (.cons (.o2 .add (.lst (.cons (.tup (.cons (.cst (.str (PySem.Str.ofString "order"))) (.cons (.var 3) .nil))) .nil)) (.var 5)) .nil))) (.cons (.ite (.or (.not (.call j__law_like (.cons (.call j_read_order (.cons (.var 6) .nil)) (.cons (.var 2) .nil)))) (.not (.call j__law_like (.cons (.call j_order_text (.cons (.var 2) .nil)) (.cons (.var 6) .nil))))) (.cons (.ret (.cst (.bool false))) .nil) .nil) (.cons (.asg (.one 7) (.o2 .mod (.o1 .int (.o2 .idx (.var 1) (.cst (natD 20)))) (.o2 .add (.o1 .len (.var 5)) (.cst (natD 1))))) (.cons (.asg (.one 8) (.o2 .add (.o2 .add (.o2 .from_ (.var 5) (.var 7)) (.o2 .upto (.var 5) (.var 7))) (.comp [13] (.var 13) (.cons (.one 13) (.dat (.var 4)) (.o2 .eq (.o2 .mod (.o2 .fdiv (.o1 .int (.o2 .idx (.var 1) (.cst (natD 21)))) (.o2 .shl (.cst (natD 1)) (.o2 .add (.o2 .idx (.var 13) (.cst (natD 0))) (.o2 .idx (.var 13) (.cst (natD 1)))))) (.cst (natD 2))) (.cst (natD 1))) .nil)))) (.cons (.ite (.not (.call j__law_like (.cons (.call j_read_order (.cons (.call j__law_text (.cons (.o2 .add (.lst (.cons (.tup (.cons (.cst (.str (PySem.Str.ofString "order"))) (.cons (.var 3) .nil))) .nil)) (.var 8)) .nil)) .nil)) (.cons (.var 2) .nil)))) (.cons (.ret (.cst (.bool false))) .nil) .nil) (.cons (.asg (.one 9) (.call j__law_table (.cons (.var 1) (.cons (.cst (natD 30)) .nil)))) (.cons (.asg (.one 6) (.call j__law_text (.cons (.o2 .add (.lst (.cons (.tup (.cons (.cst (.str (PySem.Str.ofString "table"))) .nil)) .nil)) (.comp [14] (.o2 .add (.tup (.cons (.cst (.str (PySem.Str.ofString "row"))) .nil)) (.var 14)) (.cons (.one 14) (.dat (.var 9)) (.cst (.bool true)) .nil))) .nil))) (.cons (.ret (.and (.call j__law_like (.cons (.call j_read_table (.cons (.var 6) .nil)) (.cons (.var 9) .nil))) (.call j__law_like (.cons (.call j_table_text (.cons (.var 9) .nil)) (.cons (.var 6) .nil))))) .nil))))))))))))⟩
end Orp

/-! Further defs of the laws (printed by tools/par2). -/
namespace Orp
/-- rows_of: 0 table 1 marks 2 place 3 row -/
def F_rows_of_k21 (j_contains : Nat) : Fn := ⟨2, 4, (.cons (.ret (.o1 .tuple (.comp [2, 3] (.var 2) (.cons (.tup [2, 3]) (.enu (.var 0)) (.call j_contains (.cons (.var 3) (.cons (.var 1) .nil))) .nil)))) .nil)⟩
/-- common_marks: 0 table 1 rows 2 mark 3 place -/
def F_common_marks : Fn := ⟨2, 4, (.cons (.ret (.o1 .tuple (.comp [2] (.var 2) (.cons (.one 2) (.dat (.cst (tupE natD [0, 1, 2, 3, 4, 5]))) (.o1 .all (.comp [3] (.o2 .isIn (.var 2) (.o2 .idx (.var 0) (.var 3))) (.cons (.one 3) (.dat (.var 1)) (.cst (.bool true)) .nil))) .nil)))) .nil)⟩
/-- closure: 0 table 1 marks -/
def F_closure (j_common_marks j_rows_of : Nat) : Fn := ⟨2, 2, (.cons (.ret (.call j_common_marks (.cons (.var 0) (.cons (.call j_rows_of (.cons (.var 0) (.cons (.var 1) .nil))) .nil)))) .nil)⟩
/-- part_key: 0 marks -/
def F_part_key : Fn := ⟨1, 1, (.cons (.ret (.tup (.cons (.o1 .len (.var 0)) (.cons (.var 0) .nil)))) .nil)⟩
/-- gap_rules: 0 table 1 found 2 marks 3 whole 4 inner 5 gap 6 full -/
def F_gap_rules (j_part_key j_parts_of j_closure j_contains : Nat) : Fn := ⟨1, 7, (.cons (.asg (.one 1) (.lst .nil)) (.cons (.for_ (.one 2) (.dat (.skey j_part_key (.call j_parts_of (.cons (.cst (tupE natD [0, 1, 2, 3, 4, 5])) .nil)))) (.cons (.asg (.one 3) (.call j_closure (.cons (.var 0) (.cons (.var 2) .nil)))) (.cons (.asg (.one 4) (.comp [5, 6] (.tup (.cons (.var 5) (.cons (.var 6) .nil))) (.cons (.tup [5, 6]) (.dat (.var 1)) (.and (.call j_contains (.cons (.var 2) (.cons (.var 5) .nil))) (.o2 .ne (.var 5) (.var 2))) .nil))) (.cons (.ite (.and (.o2 .ne (.var 3) (.var 2)) (.o1 .all (.comp [5, 6] (.call j_contains (.cons (.var 2) (.cons (.var 6) .nil))) (.cons (.tup [5, 6]) (.dat (.var 4)) (.cst (.bool true)) .nil)))) (.cons (.app 1 (.tup (.cons (.var 2) (.cons (.var 3) .nil)))) .nil) .nil) .nil))) [.sh, .own, .dead, .dead, .dead, .dead, .dead]) (.cons (.ret (.o1 .tuple (.o1 .sorted (.var 1)))) .nil)))⟩
/-- law: 0 script 1 row 2 table 3 gaps 4 size 5 marks 6 whole 7 good 8 gap 9 full 10 found 11 k 12 rest 13 one 14 mark 15 rule -/
def F_law_k21 (j__law_row j__law_table j__law_sets j__law_closure j_gap_rules j__law_like j_holds j__law_grown : Nat) : Fn := ⟨1, 16, (.cons (.asg (.one 1) (.call j__law_row (.cons (.var 0) (.cons (.cst (natD 12)) .nil)))) (.cons (.asg (.one 2) (.call j__law_table (.cons (.var 1) (.cons (.cst (natD 0)) .nil)))) (.cons (.asg (.one 3) (.lst .nil)) (.cons (.for_ (.tup [4, 5]) (.dat (.o1 .sorted (.comp [13] (.tup (.cons (.o1 .len (.var 13)) (.cons (.var 13) .nil))) (.cons (.one 13) (.dat (.call j__law_sets (.cons (.cst (natD 6)) .nil))) (.cst (.bool true)) .nil)))) (.cons (.asg (.one 6) (.call j__law_closure (.cons (.var 2) (.cons (.var 5) .nil)))) (.cons (.asg (.one 7) (.o2 .ne (.var 6) (.var 5))) (.cons (.for_ (.tup [8, 9]) (.dat (.var 3)) (.cons (.ite (.and (.o2 .ne (.var 8) (.var 5)) (.and (.o1 .all (.comp [14] (.o2 .isIn (.var 14) (.var 5)) (.cons (.one 14) (.dat (.var 8)) (.cst (.bool true)) .nil))) (.not (.o1 .all (.comp [14] (.o2 .isIn (.var 14) (.var 5)) (.cons (.one 14) (.dat (.var 9)) (.cst (.bool true)) .nil)))))) (.cons (.asg (.one 7) (.cst (.bool false))) .nil) .nil) .nil) [.sh, .sh, .sh, .lck, .sh, .sh, .sh, .sh, .dead, .dead, .dead, .dead, .dead, .dead, .dead, .dead]) (.cons (.ite (.var 7) (.cons (.app 3 (.tup (.cons (.var 5) (.cons (.var 6) .nil)))) .nil) .nil) .nil)))) [.sh, .sh, .sh, .own, .dead, .dead, .dead, .dead, .dead, .dead, .dead, .dead, .dead, .dead, .dead, .dead]) (.cons (.asg (.one 10) (.call j_gap_rules (.cons (.var 2) .nil))) (.cons (.ite (.or (.not (.call j__law_like (.cons (.var 10) (.cons (.o1 .tuple (.o1 .sorted (.var 3))) .nil)))) (.not (.o1 .all (.comp [15] (.o1 .isT (.call j_holds (.cons (.var 2) (.cons (.var 15) .nil)))) (.cons (.one 15) (.dat (.var 10)) (.cst (.bool true)) .nil))))) (.cons (.ret (.cst (.bool false))) .nil) .nil) (.cons (.for_ (.one 11) (.rng (.o1 .len (.var 10))) (.cons (.asg (.one 12) (.o2 .add (.o2 .upto (.var 10) (.var 11)) (.o2 .from_ (.var 10) (.o2 .add (.var 11) (.cst (natD 1)))))) (.cons (.ite (.o2 .eq (.call j__law_grown (.cons (.var 12) (.cons (.o2 .idx (.o2 .idx (.var 10) (.var 11)) (.cst (natD 0))) .nil))) (.o2 .idx (.o2 .idx (.var 10) (.var 11)) (.cst (natD 1)))) (.cons (.ret (.cst (.bool false))) .nil) .nil) .nil)) [.sh, .sh, .sh, .own, .dead, .dead, .dead, .dead, .dead, .dead, .sh, .dead, .dead, .dead, .dead, .dead]) (.cons (.ret (.o1 .all (.comp [5] (.o2 .eq (.call j__law_grown (.cons (.var 10) (.cons (.var 5) .nil))) (.call j__law_closure (.cons (.var 2) (.cons (.var 5) .nil)))) (.cons (.one 5) (.dat (.call j__law_sets (.cons (.cst (natD 6)) .nil))) (.cst (.bool true)) .nil)))) .nil))))))))⟩
end Orp

/-! Further defs of the laws (printed by tools/par2). -/
namespace Orp
/-- shapes: 0 total 1 rows 2 found 3 grown 4 row 5 left 6 most 7 length -/
def F_shapes : Fn := ⟨1, 8, (.cons (.asg (.one 1) (.lst (.cons (.tup (.cons (.tup .nil) (.cons (.var 0) .nil))) .nil))) (.cons (.asg (.one 2) (.lst .nil)) (.cons (.frz 1) (.cons (.while_ (.var 1) (.cons (.asg (.one 3) (.lst .nil)) (.cons (.for_ (.tup [4, 5]) (.dat (.var 1)) (.cons (.ite (.o2 .eq (.var 5) (.cst (natD 0))) (.cons (.app 2 (.var 4)) .nil) (.cons (.asg (.one 6) (.ite (.var 4) (.o2 .min2 (.o2 .idx (.var 4) (.o1 .neg (.cst (natD 1)))) (.var 5)) (.var 5))) (.cons (.ext 3 (.comp [7] (.tup (.cons (.o2 .add (.var 4) (.tup (.cons (.var 7) .nil))) (.cons (.o2 .sub (.var 5) (.var 7)) .nil))) (.cons (.one 7) (.rng2 (.cst (natD 1)) (.o2 .add (.var 6) (.cst (natD 1)))) (.cst (.bool true)) .nil))) .nil))) .nil) [.sh, .sh, .own, .own, .dead, .dead, .dead, .dead]) (.cons (.frz 3) (.cons (.asg (.one 1) (.var 3)) .nil)))) [.sh, .sh, .own, .dead, .dead, .dead, .dead, .dead]) (.cons (.ret (.o1 .tuple (.o1 .sorted (.var 2)))) .nil)))))⟩
/-- _law_shapes: 0 total 1 most 2 found 3 length 4 rest -/
def F__law_shapes (j__law_shapes : Nat) : Fn := ⟨2, 5, (.cons (.ite (.o2 .eq (.var 0) (.cst (natD 0))) (.cons (.ret (.lst (.cons (.tup .nil) .nil))) .nil) .nil) (.cons (.asg (.one 2) (.lst .nil)) (.cons (.for_ (.one 3) (.rng2 (.cst (natD 1)) (.o2 .add (.o2 .min2 (.var 0) (.var 1)) (.cst (natD 1)))) (.cons (.ext 2 (.comp [4] (.o2 .add (.tup (.cons (.var 3) .nil)) (.var 4)) (.cons (.one 4) (.dat (.call j__law_shapes (.cons (.o2 .sub (.var 0) (.var 3)) (.cons (.var 3) .nil)))) (.cst (.bool true)) .nil))) .nil) [.sh, .sh, .own, .dead, .dead]) (.cons (.frz 2) (.cons (.ret (.var 2)) .nil)))))⟩
/-- _law_fillings: 0 shape 1 known 2 total 3 k 4 less 5 part -/
def F__law_fillings (j__law_fillings : Nat) : Fn := ⟨2, 6, (.cons (.ite (.o2 .eq (.o1 .len (.var 0)) (.cst (natD 0))) (.cons (.retm (.cst (natD 1)) 1) .nil) .nil) (.cons (.ite (.o2 .notIn (.var 0) (.var 1)) (.cons (.asg (.one 2) (.cst (natD 0))) (.cons (.for_ (.one 3) (.rng (.o1 .len (.var 0))) (.cons (.ite (.or (.o2 .eq (.var 3) (.o2 .sub (.o1 .len (.var 0)) (.cst (natD 1)))) (.o2 .gt (.o2 .idx (.var 0) (.var 3)) (.o2 .idx (.var 0) (.o2 .add (.var 3) (.cst (natD 1)))))) (.cons (.asg (.one 4) (.o2 .add (.o2 .add (.o2 .upto (.var 0) (.var 3)) (.tup (.cons (.o2 .sub (.o2 .idx (.var 0) (.var 3)) (.cst (natD 1))) .nil))) (.o2 .from_ (.var 0) (.o2 .add (.var 3) (.cst (natD 1)))))) (.cons (.mc true 2 j__law_fillings (.cons (.o1 .tuple (.comp [5] (.var 5) (.cons (.one 5) (.dat (.var 4)) (.o2 .gt (.var 5) (.cst (natD 0))) .nil))) .nil) 1) .nil)) .nil) .nil) [.sh, .dT, .sh, .dead, .dead, .dead]) (.cons (.set 1 (.var 0) (.var 2)) .nil))) .nil) (.cons (.retm (.o2 .idx (.var 1) (.var 0)) 1) .nil)))⟩
/-- law: 0 script 1 row 2 total 3 due 4 known 5 squares 6 product 7 k 8 one 9 number 10 columns 11 part -/
def F_law_k25 (j__law_row j__law_shapes j__law_like j_shapes j__law_fillings j_count_fillings j_turned_shape : Nat) : Fn := ⟨1, 12, (.cons (.asg (.one 1) (.call j__law_row (.cons (.var 0) (.cons (.cst (natD 4)) .nil)))) (.cons (.asg (.one 2) (.o2 .mod (.o1 .int (.o2 .idx (.var 1) (.cst (natD 0)))) (.cst (natD 10)))) (.cons (.asg (.one 3) (.o1 .sorted (.call j__law_shapes (.cons (.var 2) (.cons (.var 2) .nil))))) (.cons (.ite (.not (.call j__law_like (.cons (.call j_shapes (.cons (.var 2) .nil)) (.cons (.o1 .tuple (.var 3)) .nil)))) (.cons (.ret (.cst (.bool false))) .nil) .nil) (.cons (.asg (.one 4) (.dnew true)) (.cons (.asg (.tup [5, 6]) (.tup (.cons (.cst (natD 0)) (.cons (.cst (natD 1)) .nil)))) (.cons (.for_ (.one 7) (.rng2 (.cst (natD 1)) (.o2 .add (.var 2) (.cst (natD 1)))) (.cons (.asg (.one 6) (.o2 .mul (.var 6) (.var 7))) .nil) [.sh, .sh, .sh, .own, .dT, .sh, .sh, .dead, .dead, .dead, .dead, .dead]) (.cons (.for_ (.one 8) (.dat (.var 3)) (.cons (.mc false 9 j__law_fillings (.cons (.var 8) .nil) 4) (.cons (.asg (.one 5) (.o2 .add (.var 5) (.o2 .mul (.var 9) (.var 9)))) (.cons (.asg (.one 10) (.o1 .tuple (.comp [7] (.o1 .len (.comp [11] (.var 11) (.cons (.one 11) (.dat (.var 8)) (.o2 .gt (.var 11) (.var 7)) .nil))) (.cons (.one 7) (.rng (.o1 .sum (.o2 .upto (.var 8) (.cst (natD 1))))) (.cst (.bool true)) .nil)))) (.cons (.ite (.or (.not (.call j__law_like (.cons (.call j_count_fillings (.cons (.var 8) .nil)) (.cons (.var 9) .nil)))) (.not (.call j__law_like (.cons (.call j_turned_shape (.cons (.var 8) .nil)) (.cons (.var 10) .nil))))) (.cons (.ret (.cst (.bool false))) .nil) .nil) .nil)))) [.sh, .sh, .sh, .lck, .dT, .sh, .sh, .dead, .dead, .dead, .dead, .dead]) (.cons (.ret (.o2 .eq (.var 5) (.var 6))) .nil)))))))))⟩
end Orp

/-! Plain law, part 5: tables of marks. -/
namespace Orp
open PySem (PyData)
variable {Φ : Nat → List D → Option D}
theorem boolsOf_map {α : Type} (f : α → Bool) : ∀ l : List α, boolsOf (l.map fun a => PyData.bool (f a)) = some (l.map f)
  | [] => rfl
  | a :: l => by
    rw [List.map_cons, boolsOf, boolsOf_map f l]
    rfl
/-- all([e for t in ..]) -/
theorem all1_ok {α : Type} {enc : α → D} {l : List α} {own : List Nat} {elt : Ep} {t : Tg} {w : Wk} {ρ : Rho} {f : α → Bool} (hw : evW Φ w ρ = some (l.map enc))
    (h : ∀ a ∈ l, ∃ ρ', bindT t (enc a) ρ = some ρ' ∧ evX Φ elt ρ' = some (.bool (f a))) (hl : l.length ≤ BIG) :
    evX Φ (.o1 .all (.comp own elt (.cons t w (.cst (.bool true)) .nil))) ρ = some (.bool (l.all f)) := by
  rw [ev_1 (comp1_ok (b := fun _ => true) (e := fun a => .bool (f a)) hw (fun a ha => ?_) hl), List.filter_eq_self.mpr fun _ _ => rfl]
  · show (boolsOf _).map _ = _
    rw [boolsOf_map]
    show some (PyData.bool ((l.map f).any id |> fun _ => (l.map f).all id)) = _
    rw [List.all_map]
    rfl
  · obtain ⟨ρ', h1, h2⟩ := h a ha
    exact ⟨ρ', h1, ⟨_, ev_cst, rfl⟩, fun _ => h2⟩
theorem any1_ok {α : Type} {enc : α → D} {l : List α} {own : List Nat} {elt : Ep} {t : Tg} {w : Wk} {ρ : Rho} {f : α → Bool} (hw : evW Φ w ρ = some (l.map enc))
    (h : ∀ a ∈ l, ∃ ρ', bindT t (enc a) ρ = some ρ' ∧ evX Φ elt ρ' = some (.bool (f a))) (hl : l.length ≤ BIG) :
    evX Φ (.o1 .any (.comp own elt (.cons t w (.cst (.bool true)) .nil))) ρ = some (.bool (l.any f)) := by
  rw [ev_1 (comp1_ok (b := fun _ => true) (e := fun a => .bool (f a)) hw (fun a ha => ?_) hl), List.filter_eq_self.mpr fun _ _ => rfl]
  · show (boolsOf _).map _ = _
    rw [boolsOf_map]
    show some (PyData.bool ((l.map f).any id)) = _
    rw [List.any_map]
    rfl
  · obtain ⟨ρ', h1, h2⟩ := h a ha
    exact ⟨ρ', h1, ⟨_, ev_cst, rfl⟩, fun _ => h2⟩
/-! ### in -/
theorem any_eqv {α : Type} [DecidableEq α] {enc : α → D} {lt : α → α → Bool} (O : OrdE enc lt) (x : α) (l : List α) : ((l.map enc).any fun z => PyData.eqv z (enc x)) = decide (x ∈ l) := by
  rw [Bool.eq_iff_iff, List.any_eq_true, decide_eq_true_eq]
  constructor
  · rintro ⟨_, hm, e⟩
    obtain ⟨y, hy, rfl⟩ := List.mem_map.mp hm
    rw [O.heqv, decide_eq_true_eq] at e
    exact e ▸ hy
  · intro h
    exact ⟨enc x, List.mem_map.mpr ⟨x, h, rfl⟩, by rw [O.heqv]; exact decide_eq_true rfl⟩
theorem in_tup {α : Type} [DecidableEq α] {enc : α → D} {lt : α → α → Bool} (O : OrdE enc lt) (ok : ∀ a, okD (enc a) = true) (x : α) (l : List α) : o2F .isIn (enc x) (tupE enc l) = some (.bool (decide (x ∈ l))) := by
  show (inF (enc x) (.tuple (l.map enc))).map PyData.bool = _
  rw [inF, if_pos ⟨ok x, List.all_eq_true.mpr fun z hz => by obtain ⟨y, _, rfl⟩ := List.mem_map.mp hz; exact ok y⟩, any_eqv O]
  rfl
theorem in_lst {α : Type} [DecidableEq α] {enc : α → D} {lt : α → α → Bool} (O : OrdE enc lt) (ok : ∀ a, okD (enc a) = true) (x : α) (l : List α) : o2F .isIn (enc x) (.list (l.map enc)) = some (.bool (decide (x ∈ l))) := by
  show (inF (enc x) (.list (l.map enc))).map PyData.bool = _
  rw [inF, if_pos ⟨ok x, List.all_eq_true.mpr fun z hz => by obtain ⟨y, _, rfl⟩ := List.mem_map.mp hz; exact ok y⟩, any_eqv O]
  rfl
theorem okN (n : Nat) : okD (natD n) = true := rfl
/-! ### tables -/
abbrev Tab := List (List Nat)
abbrev rowD (r : List Nat) : D := tupE natD r
abbrev tabD (T : Tab) : D := tupE (tupE natD) T
def commonM (T : Tab) (rows : List Nat) : List Nat := (List.range 6).filter fun m => rows.all fun k => decide (m ∈ T.getD k [])
theorem tab_at {T : Tab} {k : Nat} (h : k < T.length) : o2F .idx (tabD T) (natD k) = some (rowD (T.getD k [])) :=
  atD_nat (by rw [List.getElem?_map, List.getElem?_eq_getElem h, List.getD_eq_getElem?_getD, List.getElem?_eq_getElem h]; rfl)
def fCommonL : Fn := ⟨2, 4, (.cons (.ret (.o1 .tuple (.comp [2] (.var 2) (.cons (.one 2) (.rng (.cst (.int (6)))) (.o1 .all (.comp [3] (.o2 .isIn (.var 2) (.o2 .idx (.var 0) (.var 3))) (.cons (.one 3) (.dat (.var 1)) (.cst (.bool true)) .nil))) .nil)))) .nil)⟩
def fCommonP : Fn := ⟨2, 4, (.cons (.ret (.o1 .tuple (.comp [2] (.var 2) (.cons (.one 2) (.dat (.cst (.tuple [.int (0), .int (1), .int (2), .int (3), .int (4), .int (5)]))) (.o1 .all (.comp [3] (.o2 .isIn (.var 2) (.o2 .idx (.var 0) (.var 3))) (.cons (.one 3) (.dat (.var 1)) (.cst (.bool true)) .nil))) .nil)))) .nil)⟩
/-- rows given as a tuple or a list -/
def IsSeq (x : D) (rows : List Nat) : Prop := x = rowD rows ∨ x = .list (rows.map natD)
theorem IsSeq.items {x : D} {rows : List Nat} (h : IsSeq x rows) : itemsF x = some (rows.map natD) := by
  rcases h with rfl | rfl <;> rfl
theorem common_tail {T : Tab} {rows : List Nat} {x : D} (hx : IsSeq x rows) (hr : ∀ k ∈ rows, k < T.length) (hl : rows.length ≤ BIG) {w : Wk} (hw : evW Φ w [tabD T, x, .none, .none] = some ((List.range 6).map natD)) :
    exB Φ (.cons (.ret (.o1 .tuple (.comp [2] (.var 2) (.cons (.one 2) w (.o1 .all (.comp [3] (.o2 .isIn (.var 2) (.o2 .idx (.var 0) (.var 3))) (.cons (.one 3) (.dat (.var 1)) (.cst (.bool true)) .nil))) .nil)))) .nil) [tabD T, x, .none, .none] = some (.ret (rowD (commonM T rows))) := by
  refine exB_ret (ev_retS ?_)
  rw [ev_1 (comp1_ok (b := fun m => rows.all fun k => decide (m ∈ T.getD k [])) (e := natD) hw (fun m hm => ?_) (by rw [List.length_range]; decide))]
  · rfl
  · refine ⟨[tabD T, x, natD m, .none], rfl, ⟨.bool (rows.all fun k => decide (m ∈ T.getD k [])), ?_, rfl⟩, fun _ => ev_var rfl⟩
    refine all1_ok (by rw [evW, ev_var (d := x) rfl]; exact hx.items) (fun k hk => ⟨[tabD T, x, natD m, natD k], rfl, ?_⟩) hl
    exact (ev_2 (ev_var (d := natD m) rfl) ((ev_2 (ev_var (d := tabD T) rfl) (ev_var (d := natD k) rfl)).trans (tab_at (hr k hk)))).trans (in_tup ordN okN m _)
theorem commonL_ok {T : Tab} {rows : List Nat} {x : D} (hx : IsSeq x rows) (hr : ∀ k ∈ rows, k < T.length) (hl : rows.length ≤ BIG) : callF Φ fCommonL [tabD T, x] = some (rowD (commonM T rows)) :=
  call_of (r := .ret (rowD (commonM T rows))) rfl (common_tail hx hr hl (evW_rng (n := 6) ev_cst (by decide)))
theorem commonP_ok {T : Tab} {rows : List Nat} {x : D} (hx : IsSeq x rows) (hr : ∀ k ∈ rows, k < T.length) (hl : rows.length ≤ BIG) : callF Φ fCommonP [tabD T, x] = some (rowD (commonM T rows)) :=
  call_of (r := .ret (rowD (commonM T rows))) rfl (common_tail hx hr hl (by rw [evW, ev_cst (d := .tuple [.int (0), .int (1), .int (2), .int (3), .int (4), .int (5)])]; rfl))
end Orp

/-! Plain law, part 6: rows of marks, sets, tables. -/
namespace Orp
open PySem (PyData)
variable {Φ : Nat → List D → Option D}
def hasAll (row marks : List Nat) : Bool := marks.all fun m => decide (m ∈ row)
def fContains : Fn := ⟨2, 3, (.cons (.ret (.o1 .all (.comp [2] (.o2 .isIn (.var 2) (.var 0)) (.cons (.one 2) (.dat (.var 1)) (.cst (.bool true)) .nil)))) .nil)⟩
theorem contains_ok {row marks : List Nat} {x : D} (hx : IsSeq x marks) (hl : marks.length ≤ BIG) : callF Φ fContains [rowD row, x] = some (.bool (hasAll row marks)) := by
  refine call_of (r := .ret (.bool (hasAll row marks))) rfl (exB_ret (ev_retS ?_))
  refine all1_ok (l := marks) (enc := natD) (f := fun m => decide (m ∈ row)) (by rw [evW, ev_var (d := x) rfl]; exact hx.items) (fun m hm => ⟨[rowD row, x, natD m], rfl, ?_⟩) hl
  exact (ev_2 (ev_var (d := natD m) rfl) (ev_var (d := rowD row) rfl)).trans (in_tup ordN okN m _)
theorem enuD_from : ∀ (ds : List D) (k : Nat), enuD k ds = (List.range ds.length).map fun i => PyData.tuple [natD (k + i), ds.getD i .none]
  | [], _ => rfl
  | d :: ds, k => by
    rw [enuD, enuD_from ds (k + 1), List.length_cons, List.range_succ_eq_map, List.map_cons, List.map_map]
    refine congr (congrArg _ rfl) (List.map_congr_left fun i _ => ?_)
    show PyData.tuple [natD (k + 1 + i), ds.getD i .none] = PyData.tuple [natD (k + (i + 1)), (d :: ds).getD (i + 1) .none]
    rw [show k + 1 + i = k + (i + 1) by omega]
    rfl
theorem enu_tab (T : Tab) : enuD 0 (T.map rowD) = (List.range T.length).map fun k => PyData.tuple [natD k, rowD (T.getD k [])] := by
  rw [enuD_from, List.length_map]
  refine List.map_congr_left fun i hi => ?_
  have hi := List.mem_range.mp hi
  rw [Nat.zero_add, List.getD_eq_getElem?_getD, List.getElem?_map, List.getElem?_eq_getElem hi, List.getD_eq_getElem?_getD, List.getElem?_eq_getElem hi]
  rfl
def rowsM (T : Tab) (marks : List Nat) : List Nat := (List.range T.length).filter fun k => hasAll (T.getD k []) marks
def fRowsOf (jc : Nat) : Fn := ⟨2, 4, (.cons (.ret (.o1 .tuple (.comp [2, 3] (.var 2) (.cons (.tup [2, 3]) (.enu (.var 0)) (.call jc (.cons (.var 3) (.cons (.var 1) .nil))) .nil)))) .nil)⟩
theorem rowsOf_ok {jc : Nat} {T : Tab} {marks : List Nat} {x : D} (hc : ∀ row, Φ jc [rowD row, x] = some (.bool (hasAll row marks))) (hl : T.length ≤ BIG) : callF Φ (fRowsOf jc) [tabD T, x] = some (rowD (rowsM T marks)) := by
  refine call_of (r := .ret (rowD (rowsM T marks))) rfl (exB_ret (ev_retS ?_))
  have e := comp1_ok (Φ := Φ) (enc := fun k => PyData.tuple [natD k, rowD (T.getD k [])]) (l := List.range T.length) (own := [2, 3]) (elt := .var 2) (q := .call jc (.cons (.var 3) (.cons (.var 1) .nil))) (t := .tup [2, 3]) (w := .enu (.var 0)) (ρ := [tabD T, x, .none, .none])
    (b := fun k => hasAll (T.getD k []) marks) (e := natD) (by rw [evW, ev_var (d := tabD T) rfl, ← enu_tab]; rfl) (fun k hk => ⟨[tabD T, x, natD k, rowD (T.getD k [])], rfl, ⟨.bool (hasAll (T.getD k []) marks), ?_, rfl⟩, fun _ => ev_var rfl⟩) (by rw [List.length_range]; exact hl)
  · exact (ev_1 e).trans rfl
  · exact (ev_call (evs_cons (ev_var (d := rowD (T.getD k [])) rfl) (evs_cons (ev_var (d := x) rfl) evs_nil))).trans (hc _)
/-! ### the law's closure -/
def fClosureL (jc : Nat) : Fn := ⟨2, 4, (.cons (.ret (.call jc (.cons (.var 0) (.cons (.comp [2] (.var 2) (.cons (.one 2) (.rng (.o1 .len (.var 0))) (.o1 .all (.comp [3] (.o2 .isIn (.var 3) (.o2 .idx (.var 0) (.var 2))) (.cons (.one 3) (.dat (.var 1)) (.cst (.bool true)) .nil))) .nil)) .nil)))) .nil)⟩
theorem len_tab (T : Tab) : o1F .len (tabD T) = some (.int T.length) := by
  show some (PyData.int (T.map rowD).length) = _
  rw [List.length_map]
theorem rows_law {T : Tab} {marks : List Nat} {x : D} {ρ : Rho} {iT iM iK iV : Nat} (hx : IsSeq x marks) (hl : marks.length ≤ BIG) (hT : T.length ≤ 8000000) (h1 : ρ[iT]? = some (tabD T)) (h2 : ρ[iM]? = some x)
    (h3 : ∀ k, (ρ.set iK (natD k))[iT]? = some (tabD T)) (h4 : ∀ k, (ρ.set iK (natD k))[iM]? = some x) (h5 : ∀ k, (ρ.set iK (natD k))[iK]? = some (natD k)) (h6 : ∀ k m, ((ρ.set iK (natD k)).set iV (natD m))[iT]? = some (tabD T)) (h7 : ∀ k m, ((ρ.set iK (natD k)).set iV (natD m))[iK]? = some (natD k)) (h8 : ∀ k m, ((ρ.set iK (natD k)).set iV (natD m))[iV]? = some (natD m)) {o1 o2 : List Nat} :
    evX Φ (.comp o1 (.var iK) (.cons (.one iK) (.rng (.o1 .len (.var iT))) (.o1 .all (.comp o2 (.o2 .isIn (.var iV) (.o2 .idx (.var iT) (.var iK))) (.cons (.one iV) (.dat (.var iM)) (.cst (.bool true)) .nil))) .nil)) ρ = some (.list ((rowsM T marks).map natD)) := by
  refine comp1_ok (b := fun k => hasAll (T.getD k []) marks) (e := natD) (evW_rng (n := T.length) ((ev_1 (ev_var h1)).trans (len_tab T)) hT) (fun k hk => ⟨ρ.set iK (natD k), rfl, ⟨.bool (hasAll (T.getD k []) marks), ?_, rfl⟩, fun _ => ev_var (h5 k)⟩) (by rw [List.length_range]; unfold BIG; omega)
  refine all1_ok (f := fun m => decide (m ∈ T.getD k [])) (by rw [evW, ev_var (h4 k)]; exact hx.items) (fun m hm => ⟨_, rfl, ?_⟩) hl
  exact (ev_2 (ev_var (h8 k m)) ((ev_2 (ev_var (h6 k m)) (ev_var (h7 k m))).trans (tab_at (List.mem_range.mp hk)))).trans (in_tup ordN okN m _)
theorem closureL_ok {jc : Nat} {T : Tab} {marks : List Nat} {x : D} (hx : IsSeq x marks) (hl : marks.length ≤ BIG) (hT : T.length ≤ 8000000) (hc : Φ jc [tabD T, .list ((rowsM T marks).map natD)] = some (rowD (commonM T (rowsM T marks)))) : callF Φ (fClosureL jc) [tabD T, x] = some (rowD (commonM T (rowsM T marks))) := by
  refine call_of (r := .ret (rowD (commonM T (rowsM T marks)))) rfl (exB_ret (ev_retS ?_))
  refine (ev_call (evs_cons (ev_var (d := tabD T) rfl) (evs_cons (rows_law (marks := marks) hx hl hT rfl rfl (fun _ => rfl) (fun _ => rfl) (fun _ => rfl) (fun _ _ => rfl) (fun _ _ => rfl) fun _ _ => rfl) evs_nil))).trans hc
def fClosureP (jr jc : Nat) : Fn := ⟨2, 2, (.cons (.ret (.call jc (.cons (.var 0) (.cons (.call jr (.cons (.var 0) (.cons (.var 1) .nil))) .nil)))) .nil)⟩
theorem closureP_ok {jr jc : Nat} {T : Tab} {marks : List Nat} {x : D} (hr : Φ jr [tabD T, x] = some (rowD (rowsM T marks))) (hc : Φ jc [tabD T, rowD (rowsM T marks)] = some (rowD (commonM T (rowsM T marks)))) : callF Φ (fClosureP jr jc) [tabD T, x] = some (rowD (commonM T (rowsM T marks))) := by
  refine call_of (r := .ret (rowD (commonM T (rowsM T marks)))) rfl (exB_ret (ev_retS ?_))
  exact (ev_call (evs_cons (ev_var (d := tabD T) rfl) (evs_cons ((ev_call (evs_cons (ev_var (d := tabD T) rfl) (evs_cons (ev_var (d := x) rfl) evs_nil))).trans hr) evs_nil))).trans hc
end Orp

/-! Plain law, part 7: all sets of marks, tables of a law. -/
namespace Orp
open PySem (PyData)
variable {Φ : Nat → List D → Option D}
def setOf (n bits : Nat) : List Nat := (List.range n).filter fun k => bits.testBit k
def setsM (n : Nat) : List (List Nat) := (List.range (2 ^ n)).map (setOf n)
def fSets : Fn := ⟨1, 3, (.cons (.ret (.comp [1] (.o1 .tuple (.comp [2] (.var 2) (.cons (.one 2) (.rng (.var 0)) (.o2 .eq (.o2 .band (.o2 .shr (.var 1) (.var 2)) (.cst (.int (1)))) (.cst (.int (1)))) .nil))) (.cons (.one 1) (.rng (.o2 .shl (.cst (.int (1))) (.var 0))) (.cst (.bool true)) .nil))) .nil)⟩
theorem bit_ok (bits k : Nat) : (((o2F .shr (natD bits) (natD k)).bind fun x => o2F .band x (.int 1)).bind fun x => o2F .eq x (.int 1)) = some (.bool (bits.testBit k)) := by
  have e1 : o2F .shr (natD bits) (natD k) = some (natD (bits / 2 ^ k)) := by
    show (if 0 ≤ (k : Int) then some (PyData.int ((bits : Int) / 2 ^ (k : Int).toNat)) else none) = _
    rw [if_pos (Int.natCast_nonneg k), Int.toNat_natCast]
    unfold natD
    rw [Int.natCast_ediv, Int.natCast_pow]
    rfl
  rw [e1, Option.bind_some]
  have e2 : o2F .band (natD (bits / 2 ^ k)) (.int 1) = some (natD ((bits / 2 ^ k) &&& 1)) := by
    show (bandI ((bits / 2 ^ k : Nat) : Int) 1).map PyData.int = _
    unfold bandI
    rw [if_pos (Int.natCast_nonneg _), if_pos (by decide), Int.toNat_natCast]
    rfl
  rw [e2, Option.bind_some]
  show (eqF (natD _) (.int 1)).map PyData.bool = _
  rw [eqF, if_pos ⟨rfl, rfl⟩]
  show some (PyData.bool ((((bits / 2 ^ k) &&& 1 : Nat) : Int) == 1)) = _
  rw [Nat.testBit, Nat.shiftRight_eq_div_pow, Nat.and_comm 1]
  have h : (bits / 2 ^ k) &&& 1 = 0 ∨ (bits / 2 ^ k) &&& 1 = 1 := by
    rw [Nat.and_one_is_mod]
    omega
  rcases h with h | h <;> rw [h] <;> rfl
theorem sets_ok {n : Nat} (hn : n ≤ 20) : callF Φ fSets [natD n] = some (.list ((setsM n).map rowD)) := by
  refine call_of (r := .ret (.list ((setsM n).map rowD))) rfl (exB_ret (ev_retS ?_))
  have hp : 2 ^ n ≤ 2 ^ 20 := Nat.pow_le_pow_right (by decide) hn
  have e := comp1_ok (Φ := Φ) (enc := natD) (l := List.range (2 ^ n)) (own := [1]) (elt := .o1 .tuple (.comp [2] (.var 2) (.cons (.one 2) (.rng (.var 0)) (.o2 .eq (.o2 .band (.o2 .shr (.var 1) (.var 2)) (.cst (.int (1)))) (.cst (.int (1)))) .nil))) (q := .cst (.bool true)) (t := .one 1) (w := .rng (.o2 .shl (.cst (.int (1))) (.var 0))) (ρ := [natD n, .none, .none])
    (b := fun _ => true) (e := fun bits => rowD (setOf n bits)) (evW_rng (n := 2 ^ n) ((ev_2 ev_cst (ev_var (d := natD n) rfl)).trans ?_) (by omega)) (fun bits hb => ⟨[natD n, natD bits, .none], rfl, ⟨_, ev_cst, rfl⟩, fun _ => ?_⟩) (by rw [List.length_range]; unfold BIG; omega)
  · refine e.trans ?_
    rw [List.filter_eq_self.mpr fun _ _ => rfl, setsM, List.map_map]
    rfl
  · show (if sm64 1 = true ∧ 0 ≤ (n : Int) ∧ (n : Int) ≤ 1000 then some (PyData.int (1 * 2 ^ (n : Int).toNat)) else none) = _
    rw [if_pos ⟨by decide, Int.natCast_nonneg n, by omega⟩, Int.toNat_natCast, Int.one_mul, Int.natCast_pow]
    rfl
  · have e2 := comp1_ok (Φ := Φ) (enc := natD) (l := List.range n) (own := [2]) (elt := .var 2) (q := .o2 .eq (.o2 .band (.o2 .shr (.var 1) (.var 2)) (.cst (.int (1)))) (.cst (.int (1)))) (t := .one 2) (w := .rng (.var 0)) (ρ := [natD n, natD bits, .none])
      (b := fun k => bits.testBit k) (e := natD) (evW_rng (n := n) (ev_var rfl) (by omega)) (fun k hk => ⟨[natD n, natD bits, natD k], rfl, ⟨.bool (bits.testBit k), ?_, rfl⟩, fun _ => ev_var rfl⟩) (by rw [List.length_range]; unfold BIG; omega)
    · exact (ev_1 e2).trans rfl
    · have b := bit_ok bits k
      obtain ⟨y, h1, h2⟩ := Option.bind_eq_some_iff.mp b
      obtain ⟨z, h3, h4⟩ := Option.bind_eq_some_iff.mp h1
      exact (ev_2 ((ev_2 ((ev_2 (ev_var (d := natD bits) rfl) (ev_var (d := natD k) rfl)).trans h3) ev_cst).trans h4) ev_cst).trans h2
end Orp

/-! Plain law, part 8: the table of a law. -/
namespace Orp
open PySem (PyData)
variable {Φ : Nat → List D → Option D}
def eTab : Ep := .o1 .tuple (.comp [4] (.var 4) (.cons (.one 4) (.rng (.cst (.int (6)))) (.o2 .gt (.o2 .mod (.o2 .fdiv (.o1 .int (.o2 .idx (.var 0) (.o2 .add (.o2 .add (.var 1) (.cst (.int (1)))) (.var 3)))) (.o2 .shl (.cst (.int (1))) (.var 4))) (.o2 .add (.cst (.int (2))) (.o2 .mod (.o1 .int (.o2 .idx (.var 0) (.o2 .add (.var 1) (.cst (.int (7)))))) (.cst (.int (2)))))) (.cst (.int (0)))) .nil))
def fTable : Fn := ⟨2, 5, (.cons (.asg (.one 2) (.lst .nil)) (.cons (.for_ (.one 3) (.rng (.o2 .add (.cst (.int (1))) (.o2 .mod (.o1 .int (.o2 .idx (.var 0) (.var 1))) (.cst (.int (6)))))) (.cons (.app 2 eTab) .nil) [.sh, .sh, .own, .dead, .dead]) (.cons (.ret (.o1 .tuple (.var 2))) .nil)))⟩
/-- marks in order, among six -/
def IsRow (r : List Nat) : Prop := ∃ p : Nat → Bool, r = (List.range 6).filter p
theorem ints_at {row : List Int} {i : Nat} (h : i < row.length) : o2F .idx (intsD row) (natD i) = some (.int row[i]) :=
  atD_nat (by rw [List.getElem?_map, List.getElem?_eq_getElem h]; rfl)
theorem add_nat (a b : Nat) : o2F .add (natD a) (natD b) = some (natD (a + b)) := by
  show some (PyData.int ((a : Int) + b)) = _
  rw [← Int.natCast_add]
  rfl
theorem shl_nat {m : Nat} (h : m ≤ 1000) : o2F .shl (.int 1) (natD m) = some (.int (2 ^ m)) := by
  show (if sm64 1 = true ∧ 0 ≤ (m : Int) ∧ (m : Int) ≤ 1000 then some (PyData.int (1 * 2 ^ (m : Int).toNat)) else none) = _
  rw [if_pos ⟨by decide, Int.natCast_nonneg m, by omega⟩, Int.toNat_natCast, Int.one_mul]
theorem pow6 {m : Nat} (h : m < 6) : (0 : Int) < 2 ^ m ∧ (2 : Int) ^ m < 1073741824 := by
  have : m = 0 ∨ m = 1 ∨ m = 2 ∨ m = 3 ∨ m = 4 ∨ m = 5 := by omega
  rcases this with rfl | rfl | rfl | rfl | rfl | rfl <;> decide
theorem eTab_ok {row : List Int} {a k : Nat} {x d : D} (h : a + 8 ≤ row.length) (hk : k < 6) : ∃ r, IsRow r ∧ evX Φ eTab [intsD row, natD a, x, natD k, d] = some (rowD r) := by
  have h1 : a + 1 + k < row.length := by omega
  have h7 : a + 7 < row.length := by omega
  refine ⟨_, ⟨fun m => decide (0 < row[a + 1 + k] / 2 ^ m % (2 + row[a + 7] % 2)), rfl⟩, ?_⟩
  unfold eTab
  refine (ev_1 (comp1_ok (enc := natD) (l := List.range 6) (b := fun m => decide (0 < row[a + 1 + k] / 2 ^ m % (2 + row[a + 7] % 2))) (e := natD) (evW_rng (n := 6) ev_cst (by decide)) (fun m hm => ⟨[intsD row, natD a, x, natD k, natD m], rfl, ⟨.bool (decide (0 < row[a + 1 + k] / 2 ^ m % (2 + row[a + 7] % 2))), ?_, rfl⟩, fun _ => ev_var rfl⟩) (by rw [List.length_range]; decide))).trans rfl
  have hm6 := pow6 (List.mem_range.mp hm)
  have b1 : evX Φ (.o1 .int (.o2 .idx (.var 0) (.o2 .add (.o2 .add (.var 1) (.cst (.int (1)))) (.var 3)))) [intsD row, natD a, x, natD k, natD m] = some (.int row[a + 1 + k]) :=
    (ev_1 ((ev_2 (ev_var (d := intsD row) rfl) ((ev_2 ((ev_2 (ev_var (d := natD a) rfl) (ev_cst (d := natD 1))).trans (add_nat a 1)) (ev_var (d := natD k) rfl)).trans (add_nat (a + 1) k))).trans (ints_at h1))).trans rfl
  have b2 : evX Φ (.o1 .int (.o2 .idx (.var 0) (.o2 .add (.var 1) (.cst (.int (7)))))) [intsD row, natD a, x, natD k, natD m] = some (.int row[a + 7]) :=
    (ev_1 ((ev_2 (ev_var (d := intsD row) rfl) ((ev_2 (ev_var (d := natD a) rfl) (ev_cst (d := natD 7))).trans (add_nat a 7))).trans (ints_at h7))).trans rfl
  have e0 : 0 ≤ row[a + 7] % 2 := Int.emod_nonneg _ (by decide)
  have b3 := (ev_2 (ev_cst (Φ := Φ) (ρ := [intsD row, natD a, x, natD k, natD m]) (d := .int 2)) ((ev_2 b2 (ev_cst (d := .int 2))).trans (o2_mod (by decide)))).trans o2_add
  have b4 := (ev_2 b1 ((ev_2 (ev_cst (d := .int 1)) (ev_var (i := 4) (ρ := [intsD row, natD a, x, natD k, natD m]) (d := natD m) rfl)).trans (shl_nat (by have := List.mem_range.mp hm; omega)))).trans (o2_fdiv hm6.1 hm6.2)
  exact (ev_2 ((ev_2 b4 b3).trans (o2_mod (by omega))) (ev_cst (d := .int 0))).trans rfl
theorem snoc_tab (T : Tab) (r : List Nat) : PyData.list (T.map rowD ++ [rowD r]) = .list ((T ++ [r]).map rowD) := by
  rw [List.map_append]
  rfl
theorem table_ok {row : List Int} {a : Nat} (h : a + 8 ≤ row.length) : ∃ T : Tab, 1 ≤ T.length ∧ T.length ≤ 6 ∧ (∀ r ∈ T, IsRow r) ∧ callF Φ fTable [intsD row, natD a] = some (tabD T) := by
  have h0 : a < row.length := by omega
  obtain ⟨n, hn, hn6⟩ : ∃ n : Nat, (1 : Int) + row[a] % 6 = n ∧ 1 ≤ n ∧ n ≤ 6 := by
    have e0 : 0 ≤ row[a] % 6 := Int.emod_nonneg _ (by decide)
    have e1 : row[a] % 6 < 6 := Int.emod_lt_of_pos _ (by decide)
    exact ⟨(1 + row[a] % 6).toNat, by omega, by omega, by omega⟩
  have hw : evW Φ (.rng (.o2 .add (.cst (.int (1))) (.o2 .mod (.o1 .int (.o2 .idx (.var 0) (.var 1))) (.cst (.int (6)))))) [intsD row, natD a, .list [], .none, .none] = some ((List.range n).map natD) := by
    refine evW_rng ?_ (by omega)
    rw [← hn]
    exact (ev_2 ev_cst ((ev_2 ((ev_1 ((ev_2 (ev_var (d := intsD row) rfl) (ev_var (d := natD a) rfl)).trans (ints_at h0))).trans rfl) (ev_cst (d := .int 6))).trans (o2_mod (by decide)))).trans o2_add
  let R : Nat → Rho → Prop := fun i ρ => ∃ (T : Tab) (d3 d4 : D), T.length = i ∧ (∀ r ∈ T, IsRow r) ∧ ρ = [intsD row, natD a, .list (T.map rowD), d3, d4]
  have hs : ∀ (i k : Nat) (ρ : Rho), (List.range n)[i]? = some k → R i ρ → ∃ ρ1 ρ2, bindT (.one 3) (natD k) ρ = some ρ1 ∧ exB Φ (.cons (.app 2 eTab) .nil) ρ1 = some (.next ρ2) ∧ R (i + 1) ρ2 := by
    rintro i k ρ hk ⟨T, d3, d4, h1, h2, rfl⟩
    have hkn : k < n := by
      have := List.mem_of_getElem? hk
      exact List.mem_range.mp this
    have hi : i < n := by
      have := (List.getElem?_eq_some_iff.mp hk).1
      rwa [List.length_range] at this
    obtain ⟨r, hr, e⟩ := eTab_ok (Φ := Φ) (row := row) (a := a) (k := k) (x := .list (T.map rowD)) (d := d4) h (by omega)
    refine ⟨[intsD row, natD a, .list (T.map rowD), natD k, d4], [intsD row, natD a, .list ((T ++ [r]).map rowD), natD k, d4], rfl, ?_, ⟨T ++ [r], _, _, by rw [List.length_append, h1]; rfl, fun z hz => ?_, rfl⟩⟩
    · refine (exB_next (ev_app (ds := T.map rowD) rfl e (by rw [List.length_map]; unfold BIG; omega))).trans ?_
      rw [snoc_tab]
      exact exB_nil
    · rcases List.mem_append.mp hz with hz | hz
      · exact h2 z hz
      · rw [List.mem_singleton.mp hz]
        exact hr
  obtain ⟨ρ', f1, T, d3, d4, h1, h2, rfl⟩ := for_inv (Φ := Φ) (enc := natD) (t := .one 3) (st := [.sh, .sh, .own, .dead, .dead]) (R := R) (List.range n) hw ⟨[], .none, .none, rfl, (fun _ h => nomatch h), rfl⟩ hs
  rw [List.length_range] at h1
  refine ⟨T, by omega, by omega, h2, call_of (r := .ret (tabD T)) rfl ?_⟩
  exact (exB_next (ev_asg (d := .list []) (by rw [evX, evXs]; rfl))).trans ((exB_next f1).trans (exB_ret (ev_retS ((ev_1 (ev_var rfl)).trans rfl))))
end Orp

/-! Plain law, part 9: all parts of a row. -/
namespace Orp
open PySem (PyData)
variable {Φ : Nat → List D → Option D}
theorem okRow (r : List Nat) : okD (rowD r) = true := by
  have h1 : ∀ r : List Nat, PyData.canLayAll0 (r.map natD) = true := by
    intro r
    induction r with
    | nil => rfl
    | cons x r ih => rw [List.map_cons, PyData.canLayAll0, ih]; rfl
  have h2 : ∀ r : List Nat, PyData.depthAll (r.map natD) ≤ 1 := by
    intro r
    induction r with
    | nil => decide
    | cons x r ih => rw [List.map_cons, PyData.depthAll]; exact Nat.max_le.mpr ⟨by show PyData.depth (.int _) ≤ 1; rw [PyData.depth]; decide, ih⟩
  unfold okD rowD tupE
  rw [PyData.canLay0, PyData.depth, h1 r, Bool.true_and, decide_eq_true_eq]
  have := h2 r
  omega
theorem alkL_map {α : Type} [DecidableEq α] {enc : α → D} {lt : α → α → Bool} (O : OrdE enc lt) (ok : ∀ a, okD (enc a) = true) (l : List α) : alkL (l.map enc) = true := by
  unfold alkL
  simp only [List.all_eq_true, Bool.and_eq_true]
  intro x hx
  obtain ⟨a, _, rfl⟩ := List.mem_map.mp hx
  refine ⟨ok a, fun y hy => ?_⟩
  obtain ⟨b, _, rfl⟩ := List.mem_map.mp hy
  exact O.halk a b
abbrev ltR : List Nat → List Nat → Bool := lexL fun a b => decide (a < b)
theorem ordR : OrdE rowD ltR := ordL ordN
def partsStep (ps : List (List Nat)) (m : Nat) : List (List Nat) := ps ++ ps.map (· ++ [m])
def partsM (ms : List Nat) : List (List Nat) := ms.foldl partsStep [[]]
def fParts : Fn := ⟨1, 4, (.cons (.asg (.one 1) (.lst (.cons (.tup .nil) .nil))) (.cons (.frz 1) (.cons (.for_ (.one 2) (.dat (.var 0)) (.cons (.asg (.one 1) (.o2 .add (.var 1) (.comp [3] (.o2 .add (.var 3) (.tup (.cons (.var 2) .nil))) (.cons (.one 3) (.dat (.var 1)) (.cst (.bool true)) .nil)))) .nil) [.sh, .sh, .dead, .dead]) (.cons (.ret (.o1 .sorted (.var 1))) .nil))))⟩
theorem parts_len : ∀ (ms : List Nat) (ps : List (List Nat)), (ms.foldl partsStep ps).length = 2 ^ ms.length * ps.length
  | [], ps => by simp
  | m :: ms, ps => by
    rw [List.foldl_cons, parts_len ms, partsStep, List.length_append, List.length_map, List.length_cons, Nat.pow_succ, Nat.mul_assoc, Nat.two_mul]
theorem parts_size : ∀ (ms : List Nat) (ps : List (List Nat)), ∀ r ∈ ms.foldl partsStep ps, ∃ q ∈ ps, r.length ≤ q.length + ms.length
  | [], ps, r, h => ⟨r, h, Nat.le_refl _⟩
  | m :: ms, ps, r, h => by
    obtain ⟨q, hq, hl⟩ := parts_size ms _ r h
    rcases List.mem_append.mp hq with hq | hq
    · exact ⟨q, hq, by rw [List.length_cons]; omega⟩
    · obtain ⟨q', hq', rfl⟩ := List.mem_map.mp hq
      exact ⟨q', hq', by rw [List.length_append] at hl; rw [List.length_cons]; simp at hl; omega⟩
theorem parts_ok {ms : List Nat} {x : D} (hx : IsSeq x ms) (hl : ms.length ≤ 20) : callF Φ fParts [x] = some (.list ((sortO ltR (partsM ms)).map rowD)) := by
  let R : Nat → Rho → Prop := fun i ρ => ∃ d2 d3, ρ = [x, .list (((ms.take i).foldl partsStep [[]]).map rowD), d2, d3]
  have big : ∀ i, ((ms.take i).foldl partsStep [[]]).length ≤ 2 ^ 20 := fun i => by
    rw [parts_len, List.length_singleton, Nat.mul_one]
    exact Nat.pow_le_pow_right (by decide) (by rw [List.length_take]; omega)
  have hs : ∀ (i m : Nat) (ρ : Rho), ms[i]? = some m → R i ρ → ∃ ρ1 ρ2, bindT (.one 2) (natD m) ρ = some ρ1 ∧ exB Φ (.cons (.asg (.one 1) (.o2 .add (.var 1) (.comp [3] (.o2 .add (.var 3) (.tup (.cons (.var 2) .nil))) (.cons (.one 3) (.dat (.var 1)) (.cst (.bool true)) .nil)))) .nil) ρ1 = some (.next ρ2) ∧ R (i + 1) ρ2 := by
    rintro i m ρ hm ⟨d2, d3, rfl⟩
    generalize hps : (ms.take i).foldl partsStep [[]] = ps
    have hb := big i
    rw [hps] at hb
    have e := comp1_ok (Φ := Φ) (enc := rowD) (l := ps) (own := [3]) (elt := .o2 .add (.var 3) (.tup (.cons (.var 2) .nil))) (q := .cst (.bool true)) (t := .one 3) (w := .dat (.var 1)) (ρ := [x, .list (ps.map rowD), natD m, d3]) (b := fun _ => true) (e := fun p => rowD (p ++ [m]))
      (by rw [evW, ev_var (d := .list (ps.map rowD)) rfl]; rfl) (fun p hp => ⟨[x, .list (ps.map rowD), natD m, rowD p], rfl, ⟨_, ev_cst, rfl⟩, fun _ => ?_⟩) (by unfold BIG; omega)
    · refine ⟨[x, .list (ps.map rowD), natD m, d3], [x, .list ((partsStep ps m).map rowD), natD m, d3], rfl, (exB_next (ev_asg (d := .list ((partsStep ps m).map rowD)) ((ev_2 (ev_var (d := .list (ps.map rowD)) rfl) e).trans ?_))).trans exB_nil, ⟨natD m, d3, ?_⟩⟩
      · show (if (ps.map rowD).length + _ ≤ BIG then _ else none) = _
        rw [List.filter_eq_self.mpr fun _ _ => rfl, if_pos (by rw [List.length_map, List.length_map]; unfold BIG; omega), partsStep, List.map_append, List.map_map]
        rfl
      · rw [List.take_add_one, hm, List.foldl_append, hps]
        rfl
    · have hpl : p.length ≤ 20 := by
        obtain ⟨q, hq, h2⟩ := parts_size (ms.take i) [[]] p (by rw [hps]; exact hp)
        rw [List.mem_singleton.mp hq, List.length_take] at h2
        simp at h2
        omega
      refine (ev_2 (ev_var (d := rowD p) rfl) (show evX Φ (.tup (.cons (.var 2) .nil)) [x, .list (ps.map rowD), natD m, rowD p] = some (rowD [m]) by rw [evX, evs_cons (ev_var (d := natD m) rfl) evs_nil]; rfl)).trans ?_
      show (if (p.map natD).length + ([m].map natD).length ≤ BIG then some (PyData.tuple (p.map natD ++ [m].map natD)) else none) = _
      rw [if_pos (by rw [List.length_map, List.length_map]; unfold BIG; simp; omega), ← List.map_append]
      rfl
  obtain ⟨ρ', f1, d2, d3, rfl⟩ := for_inv (Φ := Φ) (enc := natD) (t := .one 2) (w := .dat (.var 0)) (st := [.sh, .sh, .dead, .dead]) (R := R) (ρ := [x, .list ([[]].map rowD), .none, .none]) ms (by rw [evW, ev_var (d := x) rfl]; exact hx.items) ⟨_, _, rfl⟩ hs
  rw [List.take_length] at f1
  refine call_of (r := .ret (.list ((sortO ltR (partsM ms)).map rowD))) rfl ?_
  refine (exB_next (ev_asg (d := .list ([[]].map rowD)) (by rw [evX, evXs, evX, evXs]; rfl))).trans ((exB_next (by rw [exS]; rfl)).trans ((exB_next f1).trans (exB_ret (ev_retS ((ev_1 (ev_var rfl)).trans ?_)))))
  show (if alkL ((partsM ms).map rowD) = true then some (PyData.list (sortD ((partsM ms).map rowD))) else none) = _
  rw [if_pos (alkL_map ordR okRow _), sortD_map ordR]
end Orp

/-! Plain law, part 10: which parts there are; closed pairs. -/
namespace Orp
open PySem (PyData)
variable {Φ : Nat → List D → Option D}
theorem mem_parts' : ∀ (ms : List Nat) (ps : List (List Nat)) (x : List Nat), x ∈ ms.foldl partsStep ps ↔ ∃ q ∈ ps, ∃ s, s.Sublist ms ∧ x = q ++ s
  | [], ps, x => by
    constructor
    · intro h
      exact ⟨x, h, [], .slnil, by simp⟩
    · rintro ⟨q, hq, s, hs, rfl⟩
      rw [List.sublist_nil.mp hs, List.append_nil]
      exact hq
  | m :: ms, ps, x => by
    rw [List.foldl_cons, mem_parts' ms]
    constructor
    · rintro ⟨q, hq, s, hs, rfl⟩
      rcases List.mem_append.mp hq with hq | hq
      · exact ⟨q, hq, s, hs.cons m, rfl⟩
      · obtain ⟨q', hq', rfl⟩ := List.mem_map.mp hq
        exact ⟨q', hq', m :: s, hs.cons_cons m, by simp⟩
    · rintro ⟨q, hq, s, hs, rfl⟩
      cases hs with
      | cons _ h => exact ⟨q, List.mem_append_left _ hq, s, h, rfl⟩
      | cons_cons _ h => exact ⟨q ++ [m], List.mem_append_right _ (List.mem_map.mpr ⟨q, hq, rfl⟩), _, h, by simp⟩
theorem mem_parts {ms x : List Nat} : x ∈ partsM ms ↔ x.Sublist ms := by
  unfold partsM
  rw [mem_parts']
  constructor
  · rintro ⟨q, hq, s, hs, rfl⟩
    rw [List.mem_singleton.mp hq]
    exact hs
  · intro h
    exact ⟨[], List.mem_singleton.mpr rfl, x, h, rfl⟩
theorem parts_nodup' : ∀ (ms : List Nat) (ps : List (List Nat)), ms.Nodup → ps.Nodup → (∀ q ∈ ps, ∀ z ∈ q, z ∉ ms) → (ms.foldl partsStep ps).Nodup
  | [], ps, _, h, _ => h
  | m :: ms, ps, hm, hp, hq => by
    obtain ⟨m1, m2⟩ := List.nodup_cons.mp hm
    refine parts_nodup' ms _ m2 ?_ fun q hq' z hz => ?_
    · refine List.nodup_append.mpr ⟨hp, List.pairwise_map.mpr (hp.imp fun {a b} ne e => ne (List.append_cancel_right e)), fun a ha b hb e => ?_⟩
      obtain ⟨c, _, rfl⟩ := List.mem_map.mp hb
      exact hq a ha m (by rw [e]; simp) List.mem_cons_self
    · rcases List.mem_append.mp hq' with h | h
      · exact fun z' => hq q h z hz (List.mem_cons_of_mem _ z')
      · obtain ⟨c, hc, rfl⟩ := List.mem_map.mp h
        rcases List.mem_append.mp hz with h | h
        · exact fun z' => hq c hc z h (List.mem_cons_of_mem _ z')
        · rw [List.mem_singleton.mp h]
          exact m1
theorem parts_nodup {ms : List Nat} (h : ms.Nodup) : (partsM ms).Nodup :=
  parts_nodup' ms [[]] h (by simp) fun q hq z hz => by rw [List.mem_singleton.mp hq] at hz; cases hz
/-- the parts in order -/
def partsS (n : Nat) : List (List Nat) := sortO ltR (partsM (List.range n))
theorem partsS_strict (n : Nat) : (partsS n).Pairwise fun a b => ltR a b = true :=
  strict_of ordR (sortO_srt ordR _) ((sortO_perm _).nodup_iff.mpr (parts_nodup List.nodup_range))
theorem mem_partsS {n : Nat} {x : List Nat} : x ∈ partsS n ↔ x.Sublist (List.range n) := by
  unfold partsS
  rw [(sortO_perm _).mem_iff, mem_parts]
/-! ### closed pairs -/
theorem rowsM_sub (T : Tab) (m : List Nat) : (rowsM T m).Sublist (List.range T.length) := List.filter_sublist
theorem commonM_row (T : Tab) (rows : List Nat) : IsRow (commonM T rows) := ⟨_, rfl⟩
theorem mem_common {T : Tab} {rows : List Nat} {m : Nat} : m ∈ commonM T rows ↔ m < 6 ∧ ∀ k ∈ rows, m ∈ T.getD k [] := by
  unfold commonM
  rw [List.mem_filter, List.mem_range, List.all_eq_true]
  simp only [decide_eq_true_eq]
theorem mem_rows {T : Tab} {ms : List Nat} {k : Nat} : k ∈ rowsM T ms ↔ k < T.length ∧ ∀ m ∈ ms, m ∈ T.getD k [] := by
  unfold rowsM hasAll
  rw [List.mem_filter, List.mem_range, List.all_eq_true]
  simp only [decide_eq_true_eq]
/-- the rows of the common marks of the rows of marks -/
theorem galois {T : Tab} {ms : List Nat} (h : ∀ m ∈ ms, m < 6) : rowsM T (commonM T (rowsM T ms)) = rowsM T ms := by
  unfold rowsM
  refine List.filter_congr fun k hk => ?_
  have hk := List.mem_range.mp hk
  rw [Bool.eq_iff_iff]
  unfold hasAll
  simp only [List.all_eq_true, decide_eq_true_eq]
  constructor
  · intro hh m hm
    exact hh m (mem_common.mpr ⟨h m hm, fun k' hk' => (mem_rows.mp hk').2 m hm⟩)
  · intro hh m hm
    exact (mem_common.mp hm).2 k (mem_rows.mpr ⟨hk, hh⟩)
def closedM (T : Tab) : List (List Nat × List Nat) := ((partsS T.length).filter fun rows => decide (rowsM T (commonM T rows) = rows)).map fun rows => (rows, commonM T rows)
abbrev ppE : List Nat × List Nat → D := pairE rowD rowD
abbrev ltP : List Nat × List Nat → List Nat × List Nat → Bool := lexP ltR ltR
theorem ordPP : OrdE ppE ltP := ordP ordR ordR
theorem closed_strict (T : Tab) : (closedM T).Pairwise fun a b => ltP a b = true := by
  unfold closedM
  refine List.pairwise_map.mpr (List.Pairwise.imp (fun {a b} h => ?_) ((partsS_strict T.length).filter _))
  show lexP ltR ltR (a, commonM T a) (b, commonM T b) = true
  unfold lexP
  rw [if_neg fun e => by have e : a = b := e; subst e; rw [ordR.irr] at h; cases h]
  exact h
theorem mem_closed {T : Tab} {p : List Nat × List Nat} : p ∈ closedM T ↔ ∃ ms, (∀ m ∈ ms, m < 6) ∧ p = (rowsM T ms, commonM T (rowsM T ms)) := by
  unfold closedM
  rw [List.mem_map]
  constructor
  · rintro ⟨rows, hr, rfl⟩
    obtain ⟨h1, h2⟩ := List.mem_filter.mp hr
    have h2 := of_decide_eq_true h2
    exact ⟨commonM T rows, fun m hm => (mem_common.mp hm).1, by rw [h2]⟩
  · rintro ⟨ms, hm, rfl⟩
    exact ⟨rowsM T ms, List.mem_filter.mpr ⟨mem_partsS.mpr (rowsM_sub T ms), decide_eq_true (galois hm)⟩, rfl⟩
end Orp

/-! Plain law, part 11: closed_pairs; the law k19. -/
namespace Orp
open PySem (PyData)
variable {Φ : Nat → List D → Option D}
theorem eq_ord {α : Type} [DecidableEq α] {enc : α → D} {lt : α → α → Bool} (O : OrdE enc lt) (ok : ∀ a, okD (enc a) = true) (a b : α) : o2F .eq (enc a) (enc b) = some (.bool (decide (a = b))) := by
  show (eqF (enc a) (enc b)).map PyData.bool = _
  rw [eqF, if_pos ⟨ok a, ok b⟩, O.heqv]
  rfl
def fClosed (jp jr jc : Nat) : Fn := ⟨1, 4, (.cons (.asg (.one 1) (.lst .nil)) (.cons (.for_ (.one 2) (.dat (.call jp (.cons (.rgl true (.cst (.int 0)) (.o1 .len (.var 0))) .nil))) (.cons (.asg (.one 3) (.call jc (.cons (.var 0) (.cons (.var 2) .nil)))) (.cons (.ite (.o2 .eq (.call jr (.cons (.var 0) (.cons (.var 3) .nil))) (.var 2)) (.cons (.app 1 (.tup (.cons (.var 2) (.cons (.var 3) .nil)))) .nil) .nil) .nil)) [.sh, .own, .dead, .dead]) (.cons (.ret (.o1 .tuple (.var 1))) .nil)))⟩
theorem rgl_tup {n : Nat} {e : Ep} {ρ : Rho} (h : evX Φ e ρ = some (.int n)) (hn : n ≤ 8000000) : evX Φ (.rgl true (.cst (.int 0)) e) ρ = some (rowD (List.range n)) := by
  rw [evX, ev_cst, h]
  show (if rngOk 0 = true ∧ rngOk (n : Int) = true then some (PyData.tuple (rangeD 0 n)) else none) = _
  rw [if_pos ⟨by decide, rngOk_nat hn⟩, rangeD_nat]
  rfl
theorem parts_count (n : Nat) : (partsS n).length = 2 ^ n := by
  unfold partsS partsM
  rw [(sortO_perm _).length_eq, parts_len, List.length_range]
  simp
def keepC (T : Tab) (rows : List Nat) : Bool := decide (rowsM T (commonM T rows) = rows)
theorem closed_ok {jp jr jc : Nat} {T : Tab} (hT : T.length ≤ 6) (hp : Φ jp [rowD (List.range T.length)] = some (.list ((partsS T.length).map rowD))) (hr : ∀ ms, IsRow ms → Φ jr [tabD T, rowD ms] = some (rowD (rowsM T ms)))
    (hc : ∀ rows : List Nat, (∀ k ∈ rows, k < T.length) → rows.length ≤ 6 → Φ jc [tabD T, rowD rows] = some (rowD (commonM T rows))) : callF Φ (fClosed jp jr jc) [tabD T] = some (tupE ppE (closedM T)) := by
  let g : List (List Nat) → List D := fun l => ((l.filter (keepC T)).map fun rows => ppE (rows, commonM T rows))
  let R : Nat → Rho → Prop := fun i ρ => ∃ d2 d3, ρ = [tabD T, .list (g ((partsS T.length).take i)), d2, d3]
  have hs : ∀ (i : Nat) (rows : List Nat) (ρ : Rho), (partsS T.length)[i]? = some rows → R i ρ → ∃ ρ1 ρ2, bindT (.one 2) (rowD rows) ρ = some ρ1 ∧ exB Φ (.cons (.asg (.one 3) (.call jc (.cons (.var 0) (.cons (.var 2) .nil)))) (.cons (.ite (.o2 .eq (.call jr (.cons (.var 0) (.cons (.var 3) .nil))) (.var 2)) (.cons (.app 1 (.tup (.cons (.var 2) (.cons (.var 3) .nil)))) .nil) .nil) .nil)) ρ1 = some (.next ρ2) ∧ R (i + 1) ρ2 := by
    rintro i rows ρ hi ⟨d2, d3, rfl⟩
    have sub := mem_partsS.mp (List.mem_of_getElem? hi)
    have lt : ∀ k ∈ rows, k < T.length := fun k hk => List.mem_range.mp (sub.subset hk)
    have len : rows.length ≤ 6 := by
      have := sub.length_le
      rw [List.length_range] at this
      omega
    have hg : (g ((partsS T.length).take i)).length ≤ 64 := by
      show (((((partsS T.length).take i).filter (keepC T)).map _)).length ≤ 64
      rw [List.length_map]
      refine Nat.le_trans (List.length_filter_le _ _) ?_
      rw [List.length_take, parts_count]
      have : 2 ^ T.length ≤ 2 ^ 6 := Nat.pow_le_pow_right (by decide) hT
      omega
    have hgs : g ((partsS T.length).take (i + 1)) = g ((partsS T.length).take i) ++ (if keepC T rows = true then [ppE (rows, commonM T rows)] else []) := by
      show ((((partsS T.length).take (i + 1)).filter (keepC T)).map _) = _
      rw [List.take_add_one, hi, List.filter_append, List.map_append]
      show _ ++ ((List.filter (keepC T) [rows]).map _) = _
      rw [List.filter_cons, List.filter_nil]
      congr 1
      split <;> rfl
    have e1 : exS Φ (.asg (.one 3) (.call jc (.cons (.var 0) (.cons (.var 2) .nil)))) [tabD T, .list (g ((partsS T.length).take i)), rowD rows, d3] = some (.next [tabD T, .list (g ((partsS T.length).take i)), rowD rows, rowD (commonM T rows)]) :=
      ev_asg (d := rowD (commonM T rows)) ((ev_call (evs_cons (ev_var (d := tabD T) rfl) (evs_cons (ev_var (d := rowD rows) rfl) evs_nil))).trans (hc rows lt len))
    have e2 : evX Φ (.o2 .eq (.call jr (.cons (.var 0) (.cons (.var 3) .nil))) (.var 2)) [tabD T, .list (g ((partsS T.length).take i)), rowD rows, rowD (commonM T rows)] = some (.bool (keepC T rows)) :=
      (ev_2 ((ev_call (evs_cons (ev_var (d := tabD T) rfl) (evs_cons (ev_var (d := rowD (commonM T rows)) rfl) evs_nil))).trans (hr _ (commonM_row T rows))) (ev_var (d := rowD rows) rfl)).trans (eq_ord ordR okRow _ _)
    refine ⟨[tabD T, .list (g ((partsS T.length).take i)), rowD rows, d3], [tabD T, .list (g ((partsS T.length).take (i + 1))), rowD rows, rowD (commonM T rows)], rfl, (exB_next e1).trans ?_, ⟨_, _, rfl⟩⟩
    rw [hgs]
    cases hk : keepC T rows with
    | true =>
      rw [hk] at e2
      refine (exB_next ((ev_ite e2 (t := true) rfl).trans ((if_pos rfl).trans ((exB_next (ev_app (ds := g ((partsS T.length).take i)) (y := ppE (rows, commonM T rows)) rfl ?_ (by unfold BIG; omega))).trans exB_nil)))).trans exB_nil
      rw [evX, evs_cons (ev_var (d := rowD rows) rfl) (evs_cons (ev_var (d := rowD (commonM T rows)) rfl) evs_nil)]
      rfl
    | false =>
      rw [hk] at e2
      refine (ite_no e2 exB_nil).trans ?_
      rw [if_neg Bool.false_ne_true, List.append_nil]
      exact exB_nil
  obtain ⟨ρ', f1, d2, d3, rfl⟩ := for_inv (Φ := Φ) (enc := rowD) (t := .one 2) (w := .dat (.call jp (.cons (.rgl true (.cst (.int 0)) (.o1 .len (.var 0))) .nil))) (st := [.sh, .own, .dead, .dead]) (R := R) (ρ := [tabD T, .list [], .none, .none]) (partsS T.length)
    (by rw [evW, ev_call (evs_cons (rgl_tup ((ev_1 (ev_var (d := tabD T) rfl)).trans (len_tab T)) (by omega)) evs_nil), hp]; rfl) ⟨_, _, rfl⟩ hs
  rw [List.take_length] at f1
  refine call_of (r := .ret (tupE ppE (closedM T))) rfl ((exB_next (ev_asg (d := .list []) (by rw [evX, evXs]; rfl))).trans ((exB_next f1).trans (exB_ret (ev_retS ((ev_1 (ev_var rfl)).trans ?_)))))
  show some (PyData.tuple (g (partsS T.length))) = some (PyData.tuple ((closedM T).map ppE))
  unfold closedM
  rw [List.map_map]
  rfl
end Orp

/-! Plain law, part 12: the law k19. -/
namespace Orp
open PySem (PyData)
variable {Φ : Nat → List D → Option D}
theorem row_in_sets {r : List Nat} (h : IsRow r) : r ∈ setsM 6 := by
  obtain ⟨p, rfl⟩ := h
  have e : (List.range 6).filter p = (if p 0 then [0] else []) ++ (if p 1 then [1] else []) ++ (if p 2 then [2] else []) ++ (if p 3 then [3] else []) ++ (if p 4 then [4] else []) ++ (if p 5 then [5] else []) := by
    rw [show List.range 6 = [0, 1, 2, 3, 4, 5] by decide]
    simp only [List.filter_cons, List.filter_nil]
    cases p 0 <;> cases p 1 <;> cases p 2 <;> cases p 3 <;> cases p 4 <;> cases p 5 <;> rfl
  rw [e]
  generalize p 0 = a
  generalize p 1 = b
  generalize p 2 = c
  generalize p 3 = d
  generalize p 4 = e
  generalize p 5 = f
  revert a b c d e f
  decide +kernel
theorem sets_lt {r : List Nat} (h : r ∈ setsM 6) : ∀ m ∈ r, m < 6 := by
  obtain ⟨bits, _, rfl⟩ := List.mem_map.mp h
  intro m hm
  exact List.mem_range.mp (List.mem_filter.mp hm).1
def duo (T : Tab) (ms : List Nat) : List Nat × List Nat := (rowsM T ms, commonM T (rowsM T ms))
theorem mem_closed2 {T : Tab} {p : List Nat × List Nat} : p ∈ closedM T ↔ ∃ ms ∈ setsM 6, p = duo T ms := by
  rw [mem_closed]
  constructor
  · rintro ⟨ms, h, rfl⟩
    refine ⟨commonM T (rowsM T ms), row_in_sets (commonM_row T _), ?_⟩
    unfold duo
    rw [galois h]
  · rintro ⟨ms, h, rfl⟩
    exact ⟨ms, sets_lt h, rfl⟩
theorem okPair (p : List Nat × List Nat) : okD (ppE p) = true := by
  obtain ⟨a, b⟩ := p
  have ha := okRow a
  have hb := okRow b
  unfold okD at ha hb ⊢
  simp only [Bool.and_eq_true, decide_eq_true_eq] at ha hb ⊢
  have d1 : ∀ r : List Nat, (rowD r).depth ≤ 2 := by
    intro r
    have h2 : ∀ r : List Nat, PyData.depthAll (r.map natD) ≤ 1 := by
      intro r
      induction r with
      | nil => decide
      | cons x r ih => rw [List.map_cons, PyData.depthAll]; exact Nat.max_le.mpr ⟨by show PyData.depth (.int _) ≤ 1; rw [PyData.depth]; decide, ih⟩
    unfold rowD tupE
    rw [PyData.depth]
    have := h2 r
    omega
  show (PyData.tuple [rowD a, rowD b]).canLay0 = true ∧ (PyData.tuple [rowD a, rowD b]).depth ≤ 60
  rw [PyData.canLay0, PyData.canLayAll0, PyData.canLayAll0, PyData.canLayAll0, ha.1, hb.1, PyData.depth, PyData.depthAll, PyData.depthAll, PyData.depthAll]
  have := d1 a
  have := d1 b
  refine ⟨rfl, ?_⟩
  omega
theorem notin_lst {α : Type} [DecidableEq α] {enc : α → D} {lt : α → α → Bool} (O : OrdE enc lt) (ok : ∀ a, okD (enc a) = true) (x : α) (l : List α) : o2F .notIn (enc x) (.list (l.map enc)) = some (.bool (!decide (x ∈ l))) := by
  have h := in_lst O ok x l
  have h : (inF (enc x) (.list (l.map enc))).map PyData.bool = _ := h
  obtain ⟨t, h1, h2⟩ := Option.map_eq_some_iff.mp h
  show (inF (enc x) (.list (l.map enc))).map (fun t => PyData.bool (!t)) = _
  rw [h1]
  cases h2
  rfl
theorem sorted_ok {α : Type} [DecidableEq α] {enc : α → D} {lt : α → α → Bool} (O : OrdE enc lt) (ok : ∀ a, okD (enc a) = true) (l : List α) : o1F .sorted (.list (l.map enc)) = some (.list ((sortO lt l).map enc)) := by
  show (if alkL (l.map enc) = true then some (PyData.list (sortD (l.map enc))) else none) = _
  rw [if_pos (alkL_map O ok l), sortD_map O]
end Orp

/-! Symbolic evaluation, part 1: expressions and statements as functions of what their parts give. -/
namespace Orp
open PySem (PyData)
variable {Φ : Nat → List D → Option D} {α β : Type}
/-! ### typed items -/
def encL (enc : α → D) (l : List α) : Option (List D) := some (l.map enc)
def lstE (enc : α → D) (l : List α) : D := .list (l.map enc)
def flatA (g : α → Option (List D)) : List α → Option (List D)
  | [] => some []
  | a :: l => (g a).bind fun xs => (flatA g l).map fun ys => xs ++ ys
theorem flatA_eq {enc : α → D} {f : D → Option (List D)} : ∀ l : List α, flatF f (l.map enc) = flatA (fun a => f (enc a)) l
  | [] => rfl
  | a :: l => by rw [List.map_cons, flatF, flatA, flatA_eq l]
theorem flatA_congr {l : List α} {g g' : α → Option (List D)} (h : ∀ a, a ∈ l → g a = g' a) : flatA g l = flatA g' l := by
  induction l with
  | nil => rfl
  | cons a l ih => rw [flatA, flatA, h a List.mem_cons_self, ih fun b hb => h b (List.mem_cons_of_mem _ hb)]
/-- the same, with what is known of the items at hand -/
def flatM (l : List α) (g : (a : α) → a ∈ l → Option (List D)) : Option (List D) := flatA (fun x : {x // x ∈ l} => g x.1 x.2) l.attach
theorem flatA_map {γ : Type} {f : γ → α} {g : α → Option (List D)} : ∀ l : List γ, flatA (fun x => g (f x)) l = flatA g (l.map f)
  | [] => rfl
  | a :: l => by rw [List.map_cons, flatA, flatA, flatA_map l]
theorem flatM_eq {l : List α} {g : α → Option (List D)} : flatM l (fun a _ => g a) = flatA g l := by
  unfold flatM
  rw [flatA_map (f := Subtype.val) (g := g), List.attach_map_subtype_val]
theorem flatA_enc {enc : β → D} {g : α → List β} : ∀ l : List α, flatA (fun a => encL enc (g a)) l = encL enc (l.flatMap g)
  | [] => rfl
  | a :: l => by
    rw [flatA, flatA_enc l, encL, encL, encL, Option.bind_some, Option.map_some, List.flatMap_cons, List.map_append]
theorem flatM_enc {enc : β → D} {g : α → List β} {l : List α} : flatM l (fun a _ => encL enc (g a)) = encL enc (l.flatMap g) := flatM_eq.trans (flatA_enc l)
/-! ### comprehensions -/
def oneF (o : Option D) : Option (List D) := o.map fun d => [d]
def okF (o : Option (List D)) : Option D := o.bind fun ds => if okL ds = true then some (.list ds) else none
def evCE (Φ : Nat → List D → Option D) (c : Cl) (elt : Ep) (ρ : Rho) : Option (List D) := evC Φ c ρ fun ρ' => (evX Φ elt ρ').map fun d => [d]
def qF (Φ : Nat → List D → Option D) (r : Cl) (elt : Ep) (ρ : Rho) (o : Option D) : Option (List D) := o.bind fun x => (truthF x).bind fun b => if b = true then evCE Φ r elt ρ else some []
def stF (Φ : Nat → List D → Option D) (q : Ep) (r : Cl) (elt : Ep) (o : Option Rho) : Option (List D) := o.bind fun ρ => qF Φ r elt ρ (evX Φ q ρ)
def clF (Φ : Nat → List D → Option D) (t : Tg) (q : Ep) (r : Cl) (elt : Ep) (ρ : Rho) (o : Option (List D)) : Option (List D) := o.bind fun ds => flatF (fun d => stF Φ q r elt (bindT t d ρ)) ds
theorem x_comp {own : List Nat} {elt : Ep} {c : Cl} {ρ : Rho} : evX Φ (.comp own elt c) ρ = okF (evCE Φ c elt ρ) := by rw [evX]; rfl
theorem ce_nil {elt : Ep} {ρ : Rho} : evCE Φ .nil elt ρ = oneF (evX Φ elt ρ) := by rw [evCE, evC]; rfl
theorem ce_cons {elt : Ep} {t : Tg} {w : Wk} {q : Ep} {r : Cl} {ρ : Rho} : evCE Φ (.cons t w q r) elt ρ = clF Φ t q r elt ρ (evW Φ w ρ) := by rw [evCE, evC]; rfl
theorem cl_enc {elt : Ep} {t : Tg} {q : Ep} {r : Cl} {ρ : Rho} {enc : α → D} {l : List α} : clF Φ t q r elt ρ (encL enc l) = flatM l (fun a _ => stF Φ q r elt (bindT t (enc a) ρ)) := by
  rw [clF, encL, Option.bind_some, flatA_eq, flatM_eq]
theorem st_some {q : Ep} {r : Cl} {elt : Ep} {ρ : Rho} : stF Φ q r elt (some ρ) = qF Φ r elt ρ (evX Φ q ρ) := rfl
theorem q_true {r : Cl} {elt : Ep} {ρ : Rho} : qF Φ r elt ρ (some (.bool true)) = evCE Φ r elt ρ := rfl
theorem q_bool {r : Cl} {elt : Ep} {ρ : Rho} {b : Bool} : qF Φ r elt ρ (some (.bool b)) = if b = true then evCE Φ r elt ρ else some [] := rfl
theorem one_some {enc : α → D} {a : α} : oneF (some (enc a)) = encL enc [a] := rfl
theorem one_nat {a : Nat} : oneF (some (natD a)) = encL natD [a] := rfl
theorem one_int {a : Int} : oneF (some (.int a)) = encL PyData.int [a] := rfl
theorem one_bool {a : Bool} : oneF (some (.bool a)) = encL PyData.bool [a] := rfl
theorem one_tup {enc : α → D} {a : List α} : oneF (some (tupE enc a)) = encL (tupE enc) [a] := rfl
theorem one_lst {enc : α → D} {a : List α} : oneF (some (lstE enc a)) = encL (lstE enc) [a] := rfl
theorem ite_enc {enc : α → D} {a : List α} {c : Prop} [Decidable c] : (if c then encL enc a else some []) = encL enc (if c then a else []) := by split <;> rfl
theorem flat_filter' {b : α → Bool} {e : α → β} (l : List α) : (l.flatMap fun a => if b a = true then [e a] else []) = (l.filter b).map e := by
  induction l with
  | nil => rfl
  | cons a l ih =>
    rw [List.flatMap_cons, ih, List.filter_cons]
    split <;> rfl
theorem flat_filterp {b : α → Prop} [DecidablePred b] {e : α → β} (l : List α) : (l.flatMap fun a => if b a then [e a] else []) = (l.filter fun a => decide (b a)).map e := by
  induction l with
  | nil => rfl
  | cons a l ih =>
    rw [List.flatMap_cons, ih, List.filter_cons]
    by_cases h : b a <;> simp [h]
theorem flat_one {e : α → β} (l : List α) : (l.flatMap fun a => [e a]) = l.map e := by
  induction l with
  | nil => rfl
  | cons a l ih => rw [List.flatMap_cons, ih]; rfl
def Sz (l : List α) : Prop := l.length ≤ BIG
theorem ok_enc {enc : α → D} {l : List α} (h : Sz l) : okF (encL enc l) = some (lstE enc l) := by
  rw [okF, encL, Option.bind_some, if_pos]
  · rfl
  · unfold okL
    rw [decide_eq_true_eq, List.length_map]
    exact h
/-! ### expressions -/
def o1B (o : O1) (x : Option D) : Option D := x.bind fun x => o1F o x
def o2B (o : O2) (x y : Option D) : Option D := x.bind fun x => y.bind fun y => o2F o x y
def o3B (o : O3) (x y z : Option D) : Option D := x.bind fun x => y.bind fun y => z.bind fun z => o3F o x y z
def andF (x y : Option D) : Option D := x.bind fun x => (boolOf x).bind fun t => if t = true then y else some (.bool false)
def orF (x y : Option D) : Option D := x.bind fun x => (boolOf x).bind fun t => if t = true then some (.bool true) else y
def notF (x : Option D) : Option D := x.bind fun x => (truthF x).map fun t => .bool (!t)
def itF (x y z : Option D) : Option D := x.bind fun x => (truthF x).bind fun t => if t = true then y else z
def consF (x : Option D) (xs : Option (List D)) : Option (List D) := x.bind fun x => xs.map fun xs => x :: xs
def tupF (xs : Option (List D)) : Option D := xs.map .tuple
def lstF (xs : Option (List D)) : Option D := xs.map .list
def callE (Φ : Nat → List D → Option D) (f : Nat) (xs : Option (List D)) : Option D := xs.bind fun ds => Φ f ds
def chF (o p : O2) (x y z : Option D) : Option D := x.bind fun x => y.bind fun y => (o2F o x y).bind fun r => (boolOf r).bind fun t => if t = true then z.bind fun z => o2F p y z else some (.bool false)
def rglF (t : Bool) (x y : Option D) : Option D := x.bind fun x => y.bind fun y => (intOf x).bind fun i => (intOf y).bind fun j => if rngOk i = true ∧ rngOk j = true then some (if t = true then .tuple (rangeD i j) else .list (rangeD i j)) else none
theorem x_var {i : Nat} {ρ : Rho} : evX Φ (.var i) ρ = ρ[i]? := by rw [evX]
theorem x_cst {d : D} {ρ : Rho} : evX Φ (.cst d) ρ = some d := by rw [evX]
theorem x_o1 {o : O1} {a : Ep} {ρ : Rho} : evX Φ (.o1 o a) ρ = o1B o (evX Φ a ρ) := by rw [evX]; rfl
theorem x_o2 {o : O2} {a b : Ep} {ρ : Rho} : evX Φ (.o2 o a b) ρ = o2B o (evX Φ a ρ) (evX Φ b ρ) := by rw [evX]; rfl
theorem x_o3 {o : O3} {a b c : Ep} {ρ : Rho} : evX Φ (.o3 o a b c) ρ = o3B o (evX Φ a ρ) (evX Φ b ρ) (evX Φ c ρ) := by rw [evX]; rfl
theorem x_chain {o p : O2} {a b c : Ep} {ρ : Rho} : evX Φ (.chain o p a b c) ρ = chF o p (evX Φ a ρ) (evX Φ b ρ) (evX Φ c ρ) := by rw [evX]; rfl
theorem x_and {a b : Ep} {ρ : Rho} : evX Φ (.and a b) ρ = andF (evX Φ a ρ) (evX Φ b ρ) := by rw [evX]; rfl
theorem x_or {a b : Ep} {ρ : Rho} : evX Φ (.or a b) ρ = orF (evX Φ a ρ) (evX Φ b ρ) := by rw [evX]; rfl
theorem x_not {a : Ep} {ρ : Rho} : evX Φ (.not a) ρ = notF (evX Φ a ρ) := by rw [evX]; rfl
theorem x_ite {c a b : Ep} {ρ : Rho} : evX Φ (.ite c a b) ρ = itF (evX Φ c ρ) (evX Φ a ρ) (evX Φ b ρ) := by rw [evX]; rfl
theorem x_tup {es : Eps} {ρ : Rho} : evX Φ (.tup es) ρ = tupF (evXs Φ es ρ) := by rw [evX]; rfl
theorem x_lst {es : Eps} {ρ : Rho} : evX Φ (.lst es) ρ = lstF (evXs Φ es ρ) := by rw [evX]; rfl
theorem x_rgl {t : Bool} {a b : Ep} {ρ : Rho} : evX Φ (.rgl t a b) ρ = rglF t (evX Φ a ρ) (evX Φ b ρ) := by rw [evX]; rfl
theorem x_call {f : Nat} {es : Eps} {ρ : Rho} : evX Φ (.call f es) ρ = callE Φ f (evXs Φ es ρ) := by rw [evX]; rfl
theorem xs_nil {ρ : Rho} : evXs Φ .nil ρ = some [] := by rw [evXs]
theorem xs_cons {e : Ep} {r : Eps} {ρ : Rho} : evXs Φ (.cons e r) ρ = consF (evX Φ e ρ) (evXs Φ r ρ) := by rw [evXs]; rfl
theorem o1_some {o : O1} {x : D} : o1B o (some x) = o1F o x := rfl
theorem o2_some {o : O2} {x y : D} : o2B o (some x) (some y) = o2F o x y := rfl
theorem o3_some {o : O3} {x y z : D} : o3B o (some x) (some y) (some z) = o3F o x y z := rfl
theorem cons_some {x : D} {xs : List D} : consF (some x) (some xs) = some (x :: xs) := rfl
theorem tup_some {xs : List D} : tupF (some xs) = some (.tuple xs) := rfl
theorem lst_some {xs : List D} : lstF (some xs) = some (.list xs) := rfl
theorem call_some {f : Nat} {xs : List D} : callE Φ f (some xs) = Φ f xs := rfl
theorem and_some {p : Bool} {y : Option D} : andF (some (.bool p)) y = if p = true then y else some (.bool false) := rfl
theorem or_some {p : Bool} {y : Option D} : orF (some (.bool p)) y = if p = true then some (.bool true) else y := rfl
theorem if_and {p q : Bool} : (if p = true then some (PyData.bool q) else some (.bool false)) = some (.bool (p && q)) := by cases p <;> rfl
theorem if_andp {p : Prop} [Decidable p] {q : Bool} : (if p then some (PyData.bool q) else some (.bool false)) = some (.bool (decide p && q)) := by by_cases h : p <;> simp [h]
theorem if_or {p q : Bool} : (if p = true then some (PyData.bool true) else some (.bool q)) = some (.bool (p || q)) := by cases p <;> rfl
theorem if_orp {p : Prop} [Decidable p] {q : Bool} : (if p then some (PyData.bool true) else some (.bool q)) = some (.bool (decide p || q)) := by by_cases h : p <;> simp [h]
theorem ch_some {o p : O2} {x y : D} {z : Option D} : chF o p (some x) (some y) z = ((o2F o x y).bind boolOf).bind fun t => if t = true then o2B p (some y) z else some (.bool false) := by
  show (o2F o x y).bind _ = _
  cases o2F o x y with
  | none => rfl
  | some r =>
    cases boolOf r with
    | none => rfl
    | some t => cases z <;> cases t <;> rfl
theorem boolOf_bool {b : Bool} : boolOf (.bool b) = some b := rfl
theorem not_some {p : Bool} : notF (some (.bool p)) = some (.bool (!p)) := rfl
theorem not_lst {enc : α → D} {l : List α} : notF (some (lstE enc l)) = some (.bool l.isEmpty) := by cases l <;> rfl
theorem not_tup {enc : α → D} {l : List α} : notF (some (tupE enc l)) = some (.bool l.isEmpty) := by cases l <;> rfl
theorem it_bool {p : Bool} {y z : Option D} : itF (some (.bool p)) y z = if p = true then y else z := rfl
theorem it_lst {enc : α → D} {l : List α} {y z : Option D} : itF (some (lstE enc l)) y z = if l.isEmpty = true then z else y := by cases l <;> rfl
theorem it_tup {enc : α → D} {l : List α} {y z : Option D} : itF (some (tupE enc l)) y z = if l.isEmpty = true then z else y := by cases l <;> rfl
/-! ### walks -/
def datF (x : Option D) : Option (List D) := x.bind itemsF
def rngF (x : Option D) : Option (List D) := x.bind fun x => (intOf x).bind fun i => if rngOk i = true then some (rangeD 0 i) else none
def rng2F (x y : Option D) : Option (List D) := x.bind fun x => y.bind fun y => (intOf x).bind fun i => (intOf y).bind fun j => if rngOk i = true ∧ rngOk j = true then some (rangeD i j) else none
def enuF (x : Option D) : Option (List D) := x.bind fun x => (seqOf x).map fun ds => enuD 0 ds
theorem w_dat {e : Ep} {ρ : Rho} : evW Φ (.dat e) ρ = datF (evX Φ e ρ) := by rw [evW]; rfl
theorem w_rng {e : Ep} {ρ : Rho} : evW Φ (.rng e) ρ = rngF (evX Φ e ρ) := by rw [evW]; rfl
theorem w_rng2 {a b : Ep} {ρ : Rho} : evW Φ (.rng2 a b) ρ = rng2F (evX Φ a ρ) (evX Φ b ρ) := by rw [evW]; rfl
theorem w_enu {e : Ep} {ρ : Rho} : evW Φ (.enu e) ρ = enuF (evX Φ e ρ) := by rw [evW]; rfl
theorem dat_lst {enc : α → D} {l : List α} : datF (some (lstE enc l)) = encL enc l := rfl
theorem dat_tup {enc : α → D} {l : List α} : datF (some (tupE enc l)) = encL enc l := rfl
theorem rng_nat {n : Nat} (h : n ≤ 8000000) : rngF (some (natD n)) = encL natD (List.range n) := by
  show (if rngOk (n : Int) = true then some (rangeD 0 n) else none) = _
  rw [if_pos (rngOk_nat h), rangeD_nat]
  rfl
theorem rng2_nat {m n : Nat} (h : m ≤ 8000000) (h2 : n ≤ 8000000) : rng2F (some (natD m)) (some (natD n)) = encL natD (List.range' m (n - m)) := by
  show (if rngOk (m : Int) = true ∧ rngOk (n : Int) = true then some (rangeD m n) else none) = _
  rw [if_pos ⟨rngOk_nat h, rngOk_nat h2⟩]
  unfold rangeD encL
  rw [List.range'_eq_map_range, List.map_map, show ((n : Int) - m).toNat = n - m by omega]
  refine congrArg some (List.map_congr_left fun i _ => ?_)
  show PyData.int ((m : Int) + i) = PyData.int ((m + i : Nat) : Int)
  rw [Int.natCast_add]
def enuP (enc : α → D) (p : Nat × α) : D := .tuple [natD p.1, enc p.2]
def enumL (l : List α) : List (Nat × α) := (List.range l.length).zip l
theorem enuD_zip {enc : α → D} : ∀ (l : List α) (k : Nat), enuD k (l.map enc) = ((List.range' k l.length).zip l).map (enuP enc)
  | [], _ => rfl
  | a :: l, k => by
    rw [List.map_cons, enuD, enuD_zip l, List.length_cons, List.range'_succ, List.zip_cons_cons, List.map_cons]
    rfl
theorem enu_lst {enc : α → D} {l : List α} : enuF (some (lstE enc l)) = encL (enuP enc) (enumL l) := by
  show some (enuD 0 (l.map enc)) = _
  rw [enuD_zip, encL, enumL, List.range_eq_range']
theorem enu_tup {enc : α → D} {l : List α} : enuF (some (tupE enc l)) = encL (enuP enc) (enumL l) := by
  show some (enuD 0 (l.map enc)) = _
  rw [enuD_zip, encL, enumL, List.range_eq_range']
theorem rgl_nat {t : Bool} {n : Nat} (h : n ≤ 8000000) : rglF t (some (.int 0)) (some (natD n)) = some (if t = true then tupE natD (List.range n) else lstE natD (List.range n)) := by
  show (if rngOk 0 = true ∧ rngOk (n : Int) = true then some (if t = true then PyData.tuple (rangeD 0 n) else .list (rangeD 0 n)) else none) = _
  rw [if_pos ⟨by decide, rngOk_nat h⟩, rangeD_nat]
  rfl
theorem rgl_nat0 {t : Bool} {n : Nat} (h : n ≤ 8000000) : rglF t (some (natD 0)) (some (natD n)) = some (if t = true then tupE natD (List.range n) else lstE natD (List.range n)) := rgl_nat h
/-! ### statements -/
def seqF (Φ : Nat → List D → Option D) (r : Bk) (o : Option Res) : Option Res := o.bind fun q => match q with
  | .next ρ2 => exB Φ r ρ2
  | .ret x => some (.ret x)
def asgF (t : Tg) (ρ : Rho) (x : Option D) : Option Res := x.bind fun d => (bindT t d ρ).map .next
def parF (is : List Nat) (ρ : Rho) (x : Option (List D)) : Option Res := x.bind fun ds => (setAll is ds ρ).map .next
def retF (x : Option D) : Option Res := x.map .ret
def ifF (Φ : Nat → List D → Option D) (a b : Bk) (ρ : Rho) (o : Option D) : Option Res := (o.bind truthF).bind fun t => if t = true then exB Φ a ρ else exB Φ b ρ
def putF (i : Nat) (ρ : Rho) (o : Option D) : Option Res := o.map fun d => .next (ρ.set i d)
def appB (x y : Option D) : Option D := x.bind fun x => y.bind fun y => appF x y
def extB (x y : Option D) : Option D := x.bind fun x => y.bind fun y => extF x y
def augB (o : O2) (x y : Option D) : Option D := x.bind fun x => y.bind fun y => augF o x y
def setB (y x z : Option D) : Option D := y.bind fun y => x.bind fun x => z.bind fun z => setF x z y
def forF (Φ : Nat → List D → Option D) (t : Tg) (b : Bk) (ρ : Rho) (o : Option (List D)) : Option Res := o.bind fun ds => loopF (exB Φ b) t ds ρ
theorem b_nil {ρ : Rho} : exB Φ .nil ρ = some (.next ρ) := by rw [exB]
theorem b_cons {s : Sm} {r : Bk} {ρ : Rho} : exB Φ (.cons s r) ρ = seqF Φ r (exS Φ s ρ) := by rw [exB]; rfl
theorem seq_next {r : Bk} {ρ : Rho} : seqF Φ r (some (.next ρ)) = exB Φ r ρ := rfl
theorem seq_ret {r : Bk} {d : D} : seqF Φ r (some (.ret d)) = some (.ret d) := rfl
theorem seq_ite {r : Bk} {c : Prop} [Decidable c] {x y : Option Res} : seqF Φ r (if c then x else y) = if c then seqF Φ r x else seqF Φ r y := by split <;> rfl
theorem s_asg {t : Tg} {e : Ep} {ρ : Rho} : exS Φ (.asg t e) ρ = asgF t ρ (evX Φ e ρ) := by rw [exS]; rfl
theorem s_par {is : List Nat} {es : Eps} {ρ : Rho} : exS Φ (.par is es) ρ = parF is ρ (evXs Φ es ρ) := by rw [exS]; rfl
theorem s_ret {e : Ep} {ρ : Rho} : exS Φ (.ret e) ρ = retF (evX Φ e ρ) := by rw [exS]; rfl
theorem s_ite {c : Ep} {a b : Bk} {ρ : Rho} : exS Φ (.ite c a b) ρ = ifF Φ a b ρ (evX Φ c ρ) := by rw [exS, evT]; rfl
theorem s_app {i : Nat} {e : Ep} {ρ : Rho} : exS Φ (.app i e) ρ = putF i ρ (appB ρ[i]? (evX Φ e ρ)) := by
  rw [exS, putF, appB]
  cases ρ[i]? with
  | none => rfl
  | some x => cases evX Φ e ρ <;> rfl
theorem s_ext {i : Nat} {e : Ep} {ρ : Rho} : exS Φ (.ext i e) ρ = putF i ρ (extB ρ[i]? (evX Φ e ρ)) := by
  rw [exS, putF, extB]
  cases ρ[i]? with
  | none => rfl
  | some x => cases evX Φ e ρ <;> rfl
theorem s_aug {i : Nat} {o : O2} {e : Ep} {ρ : Rho} : exS Φ (.aug i o e) ρ = putF i ρ (augB o ρ[i]? (evX Φ e ρ)) := by
  rw [exS, putF, augB]
  cases ρ[i]? with
  | none => rfl
  | some x => cases evX Φ e ρ <;> rfl
theorem s_set {i : Nat} {k e : Ep} {ρ : Rho} : exS Φ (.set i k e) ρ = putF i ρ (setB (evX Φ e ρ) ρ[i]? (evX Φ k ρ)) := by
  rw [exS, putF, setB]
  cases evX Φ e ρ with
  | none => rfl
  | some y =>
    cases ρ[i]? with
    | none => rfl
    | some x => cases evX Φ k ρ <;> rfl
theorem s_for {t : Tg} {w : Wk} {b : Bk} {st : List Stat} {ρ : Rho} : exS Φ (.for_ t w b st) ρ = forF Φ t b ρ (evW Φ w ρ) := by rw [exS]; rfl
theorem s_pass {ρ : Rho} : exS Φ .pass ρ = some (.next ρ) := by rw [exS]
theorem s_frz {i : Nat} {ρ : Rho} : exS Φ (.frz i) ρ = some (.next ρ) := by rw [exS]
theorem s_mov {i j : Nat} {ρ : Rho} : exS Φ (.mov i j) ρ = putF i ρ ρ[j]? := by rw [exS]; rfl
theorem asg_one {i : Nat} {ρ : Rho} {d : D} : asgF (.one i) ρ (some d) = some (.next (ρ.set i d)) := rfl
theorem asg_tup {is : List Nat} {ρ : Rho} {ds : List D} : asgF (.tup is) ρ (some (.tuple ds)) = (setAll is ds ρ).map .next := rfl
theorem par_some {is : List Nat} {ρ : Rho} {ds : List D} : parF is ρ (some ds) = (setAll is ds ρ).map .next := rfl
theorem ret_some {d : D} : retF (some d) = some (.ret d) := rfl
theorem if_bool {a b : Bk} {ρ : Rho} {p : Bool} : ifF Φ a b ρ (some (.bool p)) = if p = true then exB Φ a ρ else exB Φ b ρ := rfl
theorem if_lst {enc : α → D} {l : List α} {a b : Bk} {ρ : Rho} : ifF Φ a b ρ (some (lstE enc l)) = if l.isEmpty = true then exB Φ b ρ else exB Φ a ρ := by cases l <;> rfl
theorem put_some {i : Nat} {ρ : Rho} {d : D} : putF i ρ (some d) = some (.next (ρ.set i d)) := rfl
theorem set_nil {ρ : Rho} : setAll [] [] ρ = some ρ := rfl
theorem set_cons {i : Nat} {is : List Nat} {d : D} {ds : List D} {ρ : Rho} : setAll (i :: is) (d :: ds) ρ = setAll is ds (ρ.set i d) := rfl
theorem bind_one {i : Nat} {d : D} {ρ : Rho} : bindT (.one i) d ρ = some (ρ.set i d) := rfl
theorem bind_tup {is : List Nat} {ds : List D} {ρ : Rho} : bindT (.tup is) (.tuple ds) ρ = setAll is ds ρ := rfl
theorem app_lst {enc : α → D} {l : List α} {a : α} (h : l.length < BIG) : appB (some (lstE enc l)) (some (enc a)) = some (lstE enc (l ++ [a])) := by
  show (if (l.map enc).length < BIG then some (PyData.list (l.map enc ++ [enc a])) else none) = _
  rw [if_pos (by rw [List.length_map]; exact h), lstE, List.map_append]
  rfl
theorem ext_lst {enc : α → D} {l m : List α} (h : l.length + m.length ≤ BIG) : extB (some (lstE enc l)) (some (lstE enc m)) = some (lstE enc (l ++ m)) := by
  show (if (l.map enc).length + (m.map enc).length ≤ BIG then some (PyData.list (l.map enc ++ m.map enc)) else none) = _
  rw [if_pos (by rw [List.length_map, List.length_map]; exact h), lstE, List.map_append]
/-! ### loops -/
/-- a for loop by an invariant, and what comes behind it -/
theorem for_use {enc : α → D} {t : Tg} {bd rest : Bk} {l : List α} {ρ : Rho} {X : Option Res} (R : Nat → Rho → Prop) (h0 : R 0 ρ)
    (hs : ∀ n a ρ, l[n]? = some a → R n ρ → ∃ ρ2, (bindT t (enc a) ρ).bind (exB Φ bd) = some (.next ρ2) ∧ R (n + 1) ρ2)
    (hk : ∀ ρ, R l.length ρ → exB Φ rest ρ = X) : seqF Φ rest (forF Φ t bd ρ (encL enc l)) = X := by
  obtain ⟨ρ', h1, h2⟩ := loop_inv (f := exB Φ bd) (t := t) (enc := enc) h0 fun n a ρ e h => by
    obtain ⟨ρ2, h3, h4⟩ := hs n a ρ e h
    obtain ⟨ρ1, h5, h6⟩ := Option.bind_eq_some_iff.mp h3
    exact ⟨ρ1, ρ2, h5, h6, h4⟩
  show seqF Φ rest (loopF (exB Φ bd) t (l.map enc) ρ) = X
  rw [h1]
  exact hk ρ' h2
/-- how a run ends -/
def Post (o : Option Res) (Q : Res → Prop) : Prop := ∃ r, o = some r ∧ Q r
theorem post_some {r : Res} {Q : Res → Prop} : Post (some r) Q = Q r := propext ⟨fun ⟨_, h, q⟩ => by injection h with h; exact h ▸ q, fun h => ⟨r, rfl, h⟩⟩
theorem post_eq {o : Option Res} {r : Res} (h : Post o fun q => q = r) : o = some r := by
  obtain ⟨q, h1, rfl⟩ := h
  exact h1
/-- going on in R, or ending in Q -/
def GoR (R : Rho → Prop) (Q : D → Prop) : Res → Prop
  | .next ρ => R ρ
  | .ret d => Q d
theorem go_next {R : Rho → Prop} {Q : D → Prop} {ρ : Rho} : GoR R Q (.next ρ) = R ρ := rfl
theorem go_ret {R : Rho → Prop} {Q : D → Prop} {d : D} : GoR R Q (.ret d) = Q d := rfl
theorem loop_post {enc : α → D} {f : Rho → Option Res} {t : Tg} {Q : D → Prop} : ∀ {l : List α} {R : Nat → Rho → Prop} {ρ : Rho}, R 0 ρ → (∀ n a ρ, l[n]? = some a → R n ρ → Post ((bindT t (enc a) ρ).bind f) (GoR (R (n + 1)) Q)) → Post (loopF f t (l.map enc) ρ) (GoR (R l.length) Q)
  | [], R, ρ, h, _ => ⟨.next ρ, rfl, h⟩
  | a :: l, R, ρ, h, hs => by
    obtain ⟨r, h1, h2⟩ := hs 0 a ρ rfl h
    obtain ⟨ρ1, h3, h4⟩ := Option.bind_eq_some_iff.mp h1
    rw [List.map_cons, loopF, h3, Option.bind_some, h4, Option.bind_some]
    cases r with
    | next ρ2 => exact loop_post (R := fun n => R (n + 1)) h2 fun n b ρ e => hs (n + 1) b ρ e
    | ret d => exact ⟨_, rfl, h2⟩
/-- a for loop and what comes behind it -/
theorem for_post {enc : α → D} {t : Tg} {bd rest : Bk} {l : List α} {ρ : Rho} {Q : Res → Prop} (R : Nat → Rho → Prop) (h0 : R 0 ρ)
    (hs : ∀ n a ρ, l[n]? = some a → R n ρ → Post ((bindT t (enc a) ρ).bind (exB Φ bd)) (GoR (R (n + 1)) fun d => Q (.ret d)))
    (hk : ∀ ρ, R l.length ρ → Post (exB Φ rest ρ) Q) : Post (seqF Φ rest (forF Φ t bd ρ (encL enc l))) Q := by
  obtain ⟨r, h1, h2⟩ := loop_post (f := exB Φ bd) (t := t) (enc := enc) h0 hs
  show Post (seqF Φ rest (loopF (exB Φ bd) t (l.map enc) ρ)) Q
  rw [h1]
  cases r with
  | next ρ' => exact hk ρ' h2
  | ret d => exact ⟨_, rfl, h2⟩
/-- a for loop that returns False at the first bad item -/
theorem for_all {enc : α → D} {t : Tg} {bd rest : Bk} {l : List α} {ρ : Rho} {Q : Res → Prop} (R : Rho → Prop) (p : α → Bool) (h0 : R ρ)
    (hs : ∀ a ρ, a ∈ l → R ρ → Post ((bindT t (enc a) ρ).bind (exB Φ bd)) (GoR (fun ρ' => p a = true ∧ R ρ') fun d => p a = false ∧ d = .bool false))
    (hk : ∀ ρ, l.all p = true → R ρ → Post (exB Φ rest ρ) Q) (hf : l.all p = false → Q (.ret (.bool false))) : Post (seqF Φ rest (forF Φ t bd ρ (encL enc l))) Q := by
  refine for_post (fun i ρ => (l.take i).all p = true ∧ R ρ) ⟨rfl, h0⟩ ?_ ?_
  · rintro n a ρ hn ⟨h1, h2⟩
    have ha := List.mem_of_getElem? hn
    obtain ⟨r, h3, h4⟩ := hs a ρ ha h2
    refine ⟨r, h3, ?_⟩
    cases r with
    | next ρ' =>
      refine ⟨?_, h4.2⟩
      rw [List.take_add_one, hn, List.all_append, h1]
      show [a].all p = true
      rw [List.all_cons, h4.1]
      rfl
    | ret d =>
      obtain ⟨h5, h6⟩ := h4
      subst h6
      refine hf ?_
      rw [Bool.eq_false_iff]
      intro h
      rw [List.all_eq_true.mp h a ha] at h5
      cases h5
  · rintro ρ ⟨h1, h2⟩
    rw [List.take_length] at h1
    exact hk ρ h1 h2
theorem asg_step {i : Nat} {e : Ep} {r : Bk} {ρ : Rho} {d : D} {Q : Res → Prop} (h : evX Φ e ρ = some d) (h2 : Post (exB Φ r (ρ.set i d)) Q) : Post (exB Φ (.cons (.asg (.one i) e) r) ρ) Q := by
  rw [b_cons, s_asg, h]
  exact h2
/-- a cut behind the first statements -/
theorem cut1 {s1 : Sm} {r : Bk} {ρ : Rho} {Q : Res → Prop} (R : Rho → Prop) (h1 : Post (exB Φ (.cons s1 .nil) ρ) (GoR R fun d => Q (.ret d))) (h2 : ∀ ρ', R ρ' → Post (exB Φ r ρ') Q) : Post (exB Φ (.cons s1 r) ρ) Q := by
  obtain ⟨q, h, h3⟩ := h1
  rw [exB] at h ⊢
  cases e : exS Φ s1 ρ with
  | none => rw [e] at h; cases h
  | some q1 =>
    rw [e] at h
    cases q1 with
    | next ρ1 =>
      have h : exB Φ .nil ρ1 = some q := h
      rw [exB] at h
      cases h
      exact h2 _ h3
    | ret d =>
      have h : some (Res.ret d) = some q := h
      cases h
      exact ⟨_, rfl, h3⟩
theorem cut2 {s1 s2 : Sm} {r : Bk} {ρ : Rho} {Q : Res → Prop} (R : Rho → Prop) (h1 : Post (exB Φ (.cons s1 (.cons s2 .nil)) ρ) (GoR R fun d => Q (.ret d))) (h2 : ∀ ρ', R ρ' → Post (exB Φ r ρ') Q) : Post (exB Φ (.cons s1 (.cons s2 r)) ρ) Q := by
  obtain ⟨q, h, h3⟩ := h1
  rw [exB] at h ⊢
  cases e : exS Φ s1 ρ with
  | none => rw [e] at h; cases h
  | some q1 =>
    rw [e] at h
    cases q1 with
    | next ρ1 => exact cut1 R ⟨q, h, h3⟩ h2
    | ret d =>
      have h : some (Res.ret d) = some q := h
      cases h
      exact ⟨_, rfl, h3⟩
theorem cut3 {s1 s2 s3 : Sm} {r : Bk} {ρ : Rho} {Q : Res → Prop} (R : Rho → Prop) (h1 : Post (exB Φ (.cons s1 (.cons s2 (.cons s3 .nil))) ρ) (GoR R fun d => Q (.ret d))) (h2 : ∀ ρ', R ρ' → Post (exB Φ r ρ') Q) : Post (exB Φ (.cons s1 (.cons s2 (.cons s3 r))) ρ) Q := by
  obtain ⟨q, h, h3⟩ := h1
  rw [exB] at h ⊢
  cases e : exS Φ s1 ρ with
  | none => rw [e] at h; cases h
  | some q1 =>
    rw [e] at h
    cases q1 with
    | next ρ1 => exact cut2 R ⟨q, h, h3⟩ h2
    | ret d =>
      have h : some (Res.ret d) = some q := h
      cases h
      exact ⟨_, rfl, h3⟩
/-- a while loop and what comes behind it -/
theorem while_post {c : Rho → Option Bool} {f : Rho → Option Res} {rest : Bk} {Q : Res → Prop} (R : Nat → Rho → Prop) {ρ : Rho} (k : Nat) (hk : k < TURNS) (h0 : R k ρ)
    (hs : ∀ k ρ, R k ρ → (c ρ = some false ∧ Post (exB Φ rest ρ) Q) ∨ (c ρ = some true ∧ Post (f ρ) (GoR (fun ρ' => ∃ k', k' < k ∧ R k' ρ') fun d => Q (.ret d)))) : Post (seqF Φ rest (whileF c f TURNS ρ)) Q := by
  have go : ∀ n k ρ, k < n → R k ρ → Post (seqF Φ rest (whileF c f n ρ)) Q := by
    intro n
    induction n with
    | zero => exact fun k ρ h _ => absurd h (Nat.not_lt_zero _)
    | succ n ih =>
      intro k ρ h hr
      rw [whileF]
      rcases hs k ρ hr with ⟨h1, h2⟩ | ⟨h1, r, h2, h3⟩
      · rw [h1]
        exact h2
      · rw [h1, Option.bind_some, if_pos rfl, h2, Option.bind_some]
        cases r with
        | next ρ' =>
          obtain ⟨k', h4, h5⟩ := h3
          exact ih k' ρ' (by omega) h5
        | ret d => exact ⟨_, rfl, h3⟩
  exact go TURNS k ρ hk h0
/-- a while loop by a measure -/
theorem while_gen {c : Rho → Option Bool} {f : Rho → Option Res} (Q : Res → Prop) (R : Nat → Rho → Prop)
    (hs : ∀ k ρ, R k ρ → (c ρ = some false ∧ Q (.next ρ)) ∨ (c ρ = some true ∧ ((∃ d, f ρ = some (.ret d) ∧ Q (.ret d)) ∨ ∃ k' ρ', k' < k ∧ f ρ = some (.next ρ') ∧ R k' ρ'))) : ∀ n k ρ, k < n → R k ρ → ∃ r, whileF c f n ρ = some r ∧ Q r
  | 0, _, _, h, _ => absurd h (Nat.not_lt_zero _)
  | n + 1, k, ρ, h, hr => by
    rw [whileF]
    rcases hs k ρ hr with ⟨h1, h2⟩ | ⟨h1, ⟨d, h2, h3⟩ | ⟨k', ρ', h2, h3, h4⟩⟩
    · rw [h1]
      exact ⟨_, rfl, h2⟩
    · rw [h1, h2]
      exact ⟨_, rfl, h3⟩
    · obtain ⟨r, h5, h6⟩ := while_gen Q R hs n k' ρ' (by omega) h4
      refine ⟨r, ?_, h6⟩
      rw [h1, h3]
      exact h5
theorem s_while {c : Ep} {b : Bk} {st : List Stat} {ρ : Rho} : exS Φ (.while_ c b st) ρ = whileF (evT Φ c) (exB Φ b) TURNS ρ := by rw [exS]
end Orp

/-! Symbolic evaluation, part 2: what the operators give. -/
namespace Orp
open PySem (PyData)
variable {Φ : Nat → List D → Option D} {α β : Type}
/-! ### whole numbers from 0 on -/
theorem n_int {a : Nat} : o1F .int (natD a) = some (natD a) := rfl
theorem b_int {b : Bool} : o1F .int (.bool b) = some (natD b.toNat) := by cases b <;> rfl
theorem n_add {a b : Nat} : o2F .add (natD a) (natD b) = some (natD (a + b)) := add_nat a b
theorem n_sub {a b : Nat} (h : b ≤ a) : o2F .sub (natD a) (natD b) = some (natD (a - b)) := by
  show some (PyData.int ((a : Int) - b)) = some (PyData.int ((a - b : Nat) : Int))
  rw [Int.natCast_sub h]
theorem n_mul {a b : Nat} (h : a < 2 ^ 64) : o2F .mul (natD a) (natD b) = some (natD (a * b)) := by
  rw [natD, natD, o2_mul (.inl ?_), ← Int.natCast_mul]
  · rfl
  · unfold sm64
    simp only [Bool.and_eq_true, decide_eq_true_eq]
    omega
theorem n_mul' {a b : Nat} (h : b < 2 ^ 64) : o2F .mul (natD a) (natD b) = some (natD (a * b)) := by
  rw [natD, natD, o2_mul (.inr ?_), ← Int.natCast_mul]
  · rfl
  · unfold sm64
    simp only [Bool.and_eq_true, decide_eq_true_eq]
    omega
theorem n_mod {a b : Nat} (h : 0 < b) : o2F .mod (natD a) (natD b) = some (natD (a % b)) := by
  rw [natD, natD, o2_mod (by omega)]
  rfl
theorem n_fdiv {a b : Nat} (h : 0 < b) (h2 : b < 1073741824) : o2F .fdiv (natD a) (natD b) = some (natD (a / b)) := by
  rw [natD, natD, o2_fdiv (by omega) (by omega)]
  rfl
theorem n_fdivp {a m : Nat} (h : m < 30) : o2F .fdiv (natD a) (natD (2 ^ m)) = some (natD (a / 2 ^ m)) :=
  n_fdiv (Nat.pos_of_ne_zero (by simp)) (Nat.lt_of_lt_of_le (Nat.pow_lt_pow_right (by decide) h) (by decide))
theorem n_shl {m : Nat} (h : m ≤ 1000) : o2F .shl (natD 1) (natD m) = some (natD (2 ^ m)) := by
  rw [show natD 1 = PyData.int 1 from rfl, shl_nat h]
  show some (PyData.int (2 ^ m)) = some (PyData.int ((2 ^ m : Nat) : Int))
  rw [Int.natCast_pow]
  rfl
theorem n_le {a b : Nat} : o2F .le (natD a) (natD b) = some (.bool (decide (a ≤ b))) := by
  show some (PyData.bool (decide ((a : Int) ≤ b))) = _
  rw [decide_eq_decide.mpr (Int.ofNat_le)]
theorem n_gt {a b : Nat} : o2F .gt (natD a) (natD b) = some (.bool (decide (b < a))) := by
  show some (PyData.bool (decide ((b : Int) < a))) = _
  rw [decide_eq_decide.mpr (Int.ofNat_lt)]
theorem n_ge {a b : Nat} : o2F .ge (natD a) (natD b) = some (.bool (decide (b ≤ a))) := by
  show some (PyData.bool (decide ((b : Int) ≤ a))) = _
  rw [decide_eq_decide.mpr (Int.ofNat_le)]
theorem n_lt {a b : Nat} : o2F .lt (natD a) (natD b) = some (.bool (decide (a < b))) := by
  show (ltF (natD a) (natD b)).map PyData.bool = _
  rw [ltF, if_pos ⟨rfl, rfl, rfl⟩, ordN.hlt]
  rfl
theorem lt_ord [DecidableEq α] {enc : α → D} {lt : α → α → Bool} (O : OrdE enc lt) (ok : ∀ a, okD (enc a) = true) (a b : α) : o2F .lt (enc a) (enc b) = some (.bool (lt a b)) := by
  show (ltF (enc a) (enc b)).map PyData.bool = _
  rw [ltF, if_pos ⟨O.halk a b, ok a, ok b⟩, O.hlt]
  rfl
theorem ne_ord [DecidableEq α] {enc : α → D} {lt : α → α → Bool} (O : OrdE enc lt) (ok : ∀ a, okD (enc a) = true) (a b : α) : o2F .ne (enc a) (enc b) = some (.bool (decide (a ≠ b))) := by
  show (eqF (enc a) (enc b)).map (fun t => PyData.bool (!t)) = _
  rw [eqF, if_pos ⟨ok a, ok b⟩, O.heqv, decide_not]
  rfl
theorem n_eq {a b : Nat} : o2F .eq (natD a) (natD b) = some (.bool (decide (a = b))) := eq_ord ordN okN a b
theorem n_ne {a b : Nat} : o2F .ne (natD a) (natD b) = some (.bool (decide (a ≠ b))) := ne_ord ordN okN a b
theorem n_max2 {a b : Nat} : o2F .max2 (natD a) (natD b) = some (natD (max a b)) := by
  show some (PyData.int (if (a : Int) < b then b else a)) = some (PyData.int ((max a b : Nat) : Int))
  congr 2
  split <;> omega
theorem n_min2 {a b : Nat} : o2F .min2 (natD a) (natD b) = some (natD (min a b)) := by
  show some (PyData.int (if (b : Int) < a then b else a)) = some (PyData.int ((min a b : Nat) : Int))
  congr 2
  split <;> omega
theorem n_isN {a : Nat} : o1F .isN (natD a) = some (.bool false) := rfl
theorem n_notN {a : Nat} : o1F .notN (natD a) = some (.bool true) := rfl
theorem none_isN : o1F .isN .none = some (.bool true) := rfl
theorem none_notN : o1F .notN .none = some (.bool false) := rfl
theorem t_isN {enc : α → D} {l : List α} : o1F .isN (tupE enc l) = some (.bool false) := rfl
theorem t_notN {enc : α → D} {l : List α} : o1F .notN (tupE enc l) = some (.bool true) := rfl
theorem b_isT {b : Bool} : o1F .isT (.bool b) = some (.bool b) := rfl
theorem b_isF {b : Bool} : o1F .isF (.bool b) = some (.bool (!b)) := rfl
theorem b_eq {a b : Bool} : o2F .eq (.bool a) (.bool b) = some (.bool (a == b)) := by cases a <;> cases b <;> rfl
theorem b_ne {a b : Bool} : o2F .ne (.bool a) (.bool b) = some (.bool (a != b)) := by cases a <;> cases b <;> rfl
/-! ### pairs of places -/
def pD (p : Nat × Nat) : D := pairE natD natD p
abbrev ltPN : Nat × Nat → Nat × Nat → Bool := lexP (fun a b => decide (a < b)) (fun a b => decide (a < b))
theorem ordPN : OrdE pD ltPN := ordP ordN ordN
theorem okPN (p : Nat × Nat) : okD (pD p) = true := rfl
theorem pD_mk {a b : Nat} : PyData.tuple [natD a, natD b] = pD (a, b) := rfl
theorem one_pD {a : Nat × Nat} : oneF (some (pD a)) = encL pD [a] := rfl
theorem bind_pD {is : List Nat} {p : Nat × Nat} {ρ : Rho} : bindT (.tup is) (pD p) ρ = setAll is [natD p.1, natD p.2] ρ := rfl
theorem bind_enu {enc : α → D} {is : List Nat} {p : Nat × α} {ρ : Rho} : bindT (.tup is) (enuP enc p) ρ = setAll is [natD p.1, enc p.2] ρ := rfl
theorem pD_idx0 {p : Nat × Nat} : o2F .idx (pD p) (natD 0) = some (natD p.1) := rfl
theorem pD_idx1 {p : Nat × Nat} : o2F .idx (pD p) (natD 1) = some (natD p.2) := rfl
abbrev prsD (l : List (Nat × Nat)) : D := tupE pD l
/-- an order, as the program tells it -/
def ordD (o : Nat × List (Nat × Nat)) : D := .tuple [natD o.1, prsD o.2]
theorem ordD_mk {n : Nat} {l : List (Nat × Nat)} : PyData.tuple [natD n, tupE pD l] = ordD (n, l) := rfl
theorem ordD_0 {o : Nat × List (Nat × Nat)} : o2F .idx (ordD o) (natD 0) = some (natD o.1) := rfl
theorem ordD_1 {o : Nat × List (Nat × Nat)} : o2F .idx (ordD o) (natD 1) = some (tupE pD o.2) := rfl
theorem asg_ordD {is : List Nat} {ρ : Rho} {o : Nat × List (Nat × Nat)} : asgF (.tup is) ρ (some (ordD o)) = (setAll is [natD o.1, tupE pD o.2] ρ).map .next := rfl
/-! ### sequences -/
theorem len_tup {enc : α → D} {l : List α} : o1F .len (tupE enc l) = some (natD l.length) := by
  show some (PyData.int ((l.map enc).length : Nat)) = _
  rw [List.length_map]
  rfl
theorem len_lst {enc : α → D} {l : List α} : o1F .len (lstE enc l) = some (natD l.length) := len_tup (enc := enc) (l := l)
theorem tup_lst {enc : α → D} {l : List α} : o1F .tuple (lstE enc l) = some (tupE enc l) := rfl
theorem tup_tup {enc : α → D} {l : List α} : o1F .tuple (tupE enc l) = some (tupE enc l) := rfl
theorem list_tup {enc : α → D} {l : List α} : o1F .list (tupE enc l) = some (lstE enc l) := rfl
theorem list_lst {enc : α → D} {l : List α} : o1F .list (lstE enc l) = some (lstE enc l) := rfl
theorem in_tN {x : Nat} {l : List Nat} : o2F .isIn (natD x) (tupE natD l) = some (.bool (decide (x ∈ l))) := in_tup ordN okN x l
theorem in_lN {x : Nat} {l : List Nat} : o2F .isIn (natD x) (lstE natD l) = some (.bool (decide (x ∈ l))) := in_lst ordN okN x l
theorem in_tP {x : Nat × Nat} {l : List (Nat × Nat)} : o2F .isIn (pD x) (tupE pD l) = some (.bool (decide (x ∈ l))) := (in_tup ordPN okPN x l).trans (by congr)
theorem in_lP {x : Nat × Nat} {l : List (Nat × Nat)} : o2F .isIn (pD x) (lstE pD l) = some (.bool (decide (x ∈ l))) := (in_lst ordPN okPN x l).trans (by congr)
theorem in_lR {x : List Nat} {l : List (List Nat)} : o2F .isIn (tupE natD x) (lstE (tupE natD) l) = some (.bool (decide (x ∈ l))) := (in_lst ordR okRow x l).trans (by congr)
theorem in_tR {x : List Nat} {l : List (List Nat)} : o2F .isIn (tupE natD x) (tupE (tupE natD) l) = some (.bool (decide (x ∈ l))) := (in_tup ordR okRow x l).trans (by congr)
theorem notin_of {x y : D} {b : Bool} (h : o2F .isIn x y = some (.bool b)) : o2F .notIn x y = some (.bool (!b)) := by
  have h : (inF x y).map PyData.bool = _ := h
  obtain ⟨t, h1, h2⟩ := Option.map_eq_some_iff.mp h
  show (inF x y).map (fun t => PyData.bool (!t)) = _
  rw [h1]
  cases h2
  rfl
theorem nin_tN {x : Nat} {l : List Nat} : o2F .notIn (natD x) (tupE natD l) = some (.bool (!decide (x ∈ l))) := notin_of in_tN
theorem nin_lN {x : Nat} {l : List Nat} : o2F .notIn (natD x) (lstE natD l) = some (.bool (!decide (x ∈ l))) := notin_of in_lN
theorem nin_tP {x : Nat × Nat} {l : List (Nat × Nat)} : o2F .notIn (pD x) (tupE pD l) = some (.bool (!decide (x ∈ l))) := notin_of in_tP
theorem nin_lP {x : Nat × Nat} {l : List (Nat × Nat)} : o2F .notIn (pD x) (lstE pD l) = some (.bool (!decide (x ∈ l))) := notin_of in_lP
theorem all_lst {l : List Bool} : o1F .all (lstE PyData.bool l) = some (.bool (l.all id)) := by
  show (boolsOf (l.map fun a => PyData.bool a)).map (fun bs => PyData.bool (bs.all id)) = _
  rw [boolsOf_map (fun a => a)]
  simp
theorem any_lst {l : List Bool} : o1F .any (lstE PyData.bool l) = some (.bool (l.any id)) := by
  show (boolsOf (l.map fun a => PyData.bool a)).map (fun bs => PyData.bool (bs.any id)) = _
  rw [boolsOf_map (fun a => a)]
  simp
theorem all_map_id {p : α → Bool} {l : List α} : (l.map p).all id = l.all p := by rw [List.all_map]; rfl
theorem any_map_id {p : α → Bool} {l : List α} : (l.map p).any id = l.any p := by rw [List.any_map]; rfl
theorem all_flat_id {p : α → List Bool} {l : List α} : (l.flatMap p).all id = l.all fun a => (p a).all id := by rw [List.all_flatMap]
theorem any_flat_id {p : α → List Bool} {l : List α} : (l.flatMap p).any id = l.any fun a => (p a).any id := by rw [List.any_flatMap]
theorem idx_tup [Inhabited α] {enc : α → D} {l : List α} {i : Nat} (h : i < l.length) : o2F .idx (tupE enc l) (natD i) = some (enc (l.getD i default)) :=
  atD_nat (by rw [List.getElem?_map, List.getElem?_eq_getElem h, List.getD_eq_getElem?_getD, List.getElem?_eq_getElem h]; rfl)
theorem idx_lst [Inhabited α] {enc : α → D} {l : List α} {i : Nat} (h : i < l.length) : o2F .idx (lstE enc l) (natD i) = some (enc (l.getD i default)) := idx_tup (enc := enc) h
theorem add_tup {enc : α → D} {l m : List α} (h : l.length + m.length ≤ BIG) : o2F .add (tupE enc l) (tupE enc m) = some (tupE enc (l ++ m)) := by
  show (if (l.map enc).length + (m.map enc).length ≤ BIG then some (PyData.tuple (l.map enc ++ m.map enc)) else none) = _
  rw [if_pos (by rw [List.length_map, List.length_map]; exact h), tupE, List.map_append]
theorem add_lst {enc : α → D} {l m : List α} (h : l.length + m.length ≤ BIG) : o2F .add (lstE enc l) (lstE enc m) = some (lstE enc (l ++ m)) := by
  show (if (l.map enc).length + (m.map enc).length ≤ BIG then some (PyData.list (l.map enc ++ m.map enc)) else none) = _
  rw [if_pos (by rw [List.length_map, List.length_map]; exact h), lstE, List.map_append]
theorem sorted_lN {l : List Nat} : o1F .sorted (lstE natD l) = some (lstE natD (sortO (fun a b => decide (a < b)) l)) := sorted_ok ordN okN l
theorem sorted_lP {l : List (Nat × Nat)} : o1F .sorted (lstE pD l) = some (lstE pD (sortO ltPN l)) := (sorted_ok ordPN okPN l).trans (by congr)
theorem sorted_lR {l : List (List Nat)} : o1F .sorted (lstE (tupE natD) l) = some (lstE (tupE natD) (sortO ltR l)) := (sorted_ok ordR okRow l).trans (by congr)
/-! ### sorted(set(..)) -/
def dedupO [DecidableEq α] : List α → List α
  | [] => []
  | x :: r => if x ∈ r then dedupO r else x :: dedupO r
theorem dedupO_map [DecidableEq α] {enc : α → D} {lt : α → α → Bool} (O : OrdE enc lt) : ∀ l : List α, dedup (l.map enc) = (dedupO l).map enc
  | [] => rfl
  | x :: l => by
    rw [List.map_cons, dedup, dedupO, dedupO_map O l, any_eqv O]
    by_cases h : x ∈ l <;> simp [h]
theorem mem_dedupO [DecidableEq α] {y : α} : ∀ {l : List α}, y ∈ dedupO l ↔ y ∈ l
  | [] => Iff.rfl
  | x :: l => by
    rw [dedupO]
    by_cases h : x ∈ l
    · rw [if_pos h, mem_dedupO, List.mem_cons]
      exact ⟨.inr, fun e => e.elim (fun e => e ▸ h) id⟩
    · rw [if_neg h, List.mem_cons, List.mem_cons, mem_dedupO]
theorem nodup_dedupO [DecidableEq α] : ∀ l : List α, (dedupO l).Nodup
  | [] => .nil
  | x :: l => by
    rw [dedupO]
    split
    · exact nodup_dedupO l
    · rename_i h
      exact List.nodup_cons.mpr ⟨fun e => h (mem_dedupO.mp e), nodup_dedupO l⟩
theorem dedupO_len [DecidableEq α] : ∀ l : List α, (dedupO l).length ≤ l.length
  | [] => Nat.le_refl _
  | x :: l => by
    rw [dedupO]
    have := dedupO_len l
    split <;> simp only [List.length_cons] <;> omega
/-- sorted(set(l)) -/
def ssO [DecidableEq α] (lt : α → α → Bool) (l : List α) : List α := sortO lt (dedupO l)
theorem mem_ssO [DecidableEq α] {lt : α → α → Bool} {l : List α} {x : α} : x ∈ ssO lt l ↔ x ∈ l := ((sortO_perm _).mem_iff).trans mem_dedupO
theorem ssO_nodup [DecidableEq α] {lt : α → α → Bool} {l : List α} : (ssO lt l).Nodup := (sortO_perm _).nodup_iff.mpr (nodup_dedupO l)
theorem ssO_strict [DecidableEq α] {enc : α → D} {lt : α → α → Bool} (O : OrdE enc lt) (l : List α) : (ssO lt l).Pairwise fun a b => lt a b = true := strict_of O (sortO_srt O _) ((sortO_perm _).nodup_iff.mpr (nodup_dedupO l))
theorem ssO_eq [DecidableEq α] {enc : α → D} {lt : α → α → Bool} (O : OrdE enc lt) {l m : List α} (h : ∀ x, x ∈ l ↔ x ∈ m) : ssO lt l = ssO lt m :=
  strict_uniq O (ssO_strict O l) (ssO_strict O m) fun x => mem_ssO.trans ((h x).trans mem_ssO.symm)
theorem ssO_uniq [DecidableEq α] {enc : α → D} {lt : α → α → Bool} (O : OrdE enc lt) {l m : List α} (hm : m.Pairwise fun a b => lt a b = true) (h : ∀ x, x ∈ l ↔ x ∈ m) : ssO lt l = m :=
  strict_uniq O (ssO_strict O l) hm fun x => mem_ssO.trans (h x)
theorem isInt_all (l : List Nat) : (l.map natD).all isIntK = true := by simp [natD, isIntK]
theorem sset_N {l : List Nat} (h : l.length < 4000) : o1F .sset (.list (l.map natD)) = some (lstE natD (ssO (fun a b => decide (a < b)) l)) := by
  show (if alkL (l.map natD) = true ∧ (((l.map natD).all isTupK = true ∧ (dedup (l.map natD)).length < 63) ∨ ((l.map natD).all isIntK = true ∧ (l.map natD).length < 4000)) then some (PyData.list (sortD (dedup (l.map natD)))) else none) = _
  rw [if_pos ⟨alkL_map ordN okN l, .inr ⟨isInt_all l, by rw [List.length_map]; exact h⟩⟩, dedupO_map ordN, sortD_map ordN]
  rfl
theorem sset_lN {l : List Nat} (h : l.length < 4000) : o1F .sset (lstE natD l) = some (lstE natD (ssO (fun a b => decide (a < b)) l)) := sset_N h
theorem sset_tN {l : List Nat} (h : l.length < 4000) : o1F .sset (tupE natD l) = some (lstE natD (ssO (fun a b => decide (a < b)) l)) := sset_N h
theorem sset_P {l : List (Nat × Nat)} (h : (dedupO l).length < 63) : o1F .sset (.list (l.map pD)) = some (lstE pD (ssO ltPN l)) := by
  show (if alkL (l.map pD) = true ∧ (((l.map pD).all isTupK = true ∧ (dedup (l.map pD)).length < 63) ∨ ((l.map pD).all isIntK = true ∧ (l.map pD).length < 4000)) then some (PyData.list (sortD (dedup (l.map pD)))) else none) = _
  rw [if_pos ⟨alkL_map ordPN okPN l, .inl ⟨by simp [pD, pairE, isTupK, natD, isIntK], by rw [dedupO_map ordPN, List.length_map]; exact h⟩⟩, dedupO_map ordPN, sortD_map ordPN]
  rfl
theorem sset_lP {l : List (Nat × Nat)} (h : (dedupO l).length < 63) : o1F .sset (lstE pD l) = some (lstE pD (ssO ltPN l)) := sset_P h
theorem sset_tP {l : List (Nat × Nat)} (h : (dedupO l).length < 63) : o1F .sset (tupE pD l) = some (lstE pD (ssO ltPN l)) := sset_P h
theorem sset_R {l : List (List Nat)} (h : (dedupO l).length < 63) : o1F .sset (.list (l.map (tupE natD))) = some (lstE (tupE natD) (ssO ltR l)) := by
  show (if alkL (l.map (tupE natD)) = true ∧ (((l.map (tupE natD)).all isTupK = true ∧ (dedup (l.map (tupE natD))).length < 63) ∨ ((l.map (tupE natD)).all isIntK = true ∧ (l.map (tupE natD)).length < 4000)) then some (PyData.list (sortD (dedup (l.map (tupE natD))))) else none) = _
  rw [if_pos ⟨alkL_map ordR okRow l, .inl ⟨by simp [tupE, isTupK, natD, isIntK], by rw [dedupO_map ordR, List.length_map]; exact h⟩⟩, dedupO_map ordR, sortD_map ordR]
  rfl
theorem sset_lR {l : List (List Nat)} (h : (dedupO l).length < 63) : o1F .sset (lstE (tupE natD) l) = some (lstE (tupE natD) (ssO ltR l)) := sset_R h
theorem r_eq {a b : List Nat} : o2F .eq (tupE natD a) (tupE natD b) = some (.bool (decide (a = b))) := (eq_ord ordR okRow a b).trans (by congr)
theorem r_ne {a b : List Nat} : o2F .ne (tupE natD a) (tupE natD b) = some (.bool (decide (a ≠ b))) := (ne_ord ordR okRow a b).trans (by congr)
theorem p_eq {a b : Nat × Nat} : o2F .eq (pD a) (pD b) = some (.bool (decide (a = b))) := (eq_ord ordPN okPN a b).trans (by congr)
/-! ### sums, slices -/
theorem intsOf_nat : ∀ l : List Nat, intsOf (l.map natD) = some (l.map fun n : Nat => (n : Int))
  | [] => rfl
  | a :: l => by
    rw [List.map_cons, intsOf, intsOf_nat l]
    rfl
theorem sum_cast (l : List Nat) : (l.map fun n : Nat => (n : Int)).sum = ((l.sum : Nat) : Int) := by
  induction l with
  | nil => rfl
  | cons a l ih => rw [List.map_cons, List.sum_cons, List.sum_cons, ih, Int.natCast_add]
theorem sum_lN {l : List Nat} : o1F .sum (lstE natD l) = some (natD l.sum) := by
  show (intsOf (l.map natD)).map (fun is => PyData.int is.sum) = _
  rw [intsOf_nat]
  show some (PyData.int (l.map fun n : Nat => (n : Int)).sum) = _
  rw [sum_cast]
  rfl
theorem sIx_nat {n d i : Nat} : sIxD n d (some (i : Int)) = min i n := by
  show (if (i : Int) < 0 then ((i : Int) + (n : Int)).toNat else min (i : Int).toNat n) = _
  rw [if_neg (by omega), Int.toNat_natCast]
theorem cut_from {l : List α} {i : Nat} : cutD l (some (i : Int)) none = l.drop i := by
  show (l.drop (sIxD l.length 0 (some (i : Int)))).take (l.length - sIxD l.length 0 (some (i : Int))) = _
  rw [sIx_nat, List.take_of_length_le (by rw [List.length_drop]; exact Nat.le_refl _)]
  by_cases h : i ≤ l.length
  · rw [Nat.min_eq_left h]
  · rw [Nat.min_eq_right (by omega), List.drop_eq_nil_of_le (Nat.le_refl _), List.drop_eq_nil_of_le (by omega)]
theorem cut_upto {l : List α} {i : Nat} : cutD l none (some (i : Int)) = l.take i := by
  show (l.drop 0).take (sIxD l.length l.length (some (i : Int)) - 0) = _
  rw [sIx_nat, List.drop_zero, Nat.sub_zero]
  by_cases h : i ≤ l.length
  · rw [Nat.min_eq_left h]
  · rw [Nat.min_eq_right (by omega), List.take_of_length_le (Nat.le_refl _), List.take_of_length_le (by omega)]
theorem from_tup {enc : α → D} {l : List α} {i : Nat} : o2F .from_ (tupE enc l) (natD i) = some (tupE enc (l.drop i)) := by
  show some (PyData.tuple (cutD (l.map enc) (some (i : Int)) none)) = _
  rw [cut_from, tupE, List.map_drop]
theorem from_lst {enc : α → D} {l : List α} {i : Nat} : o2F .from_ (lstE enc l) (natD i) = some (lstE enc (l.drop i)) := by
  show some (PyData.list (cutD (l.map enc) (some (i : Int)) none)) = _
  rw [cut_from, lstE, List.map_drop]
theorem upto_tup {enc : α → D} {l : List α} {i : Nat} : o2F .upto (tupE enc l) (natD i) = some (tupE enc (l.take i)) := by
  show some (PyData.tuple (cutD (l.map enc) none (some (i : Int)))) = _
  rw [cut_upto, tupE, List.map_take]
theorem maxI_nat : ∀ (l : List Nat) (a : Nat), (l.map fun n : Nat => (n : Int)).foldl (fun m y => if m < y then y else m) (a : Int) = ((l.foldl max a : Nat) : Int)
  | [], _ => rfl
  | b :: l, a => by
    rw [List.map_cons, List.foldl_cons, List.foldl_cons, ← maxI_nat l (max a b)]
    congr 1
    split <;> omega
theorem max_N {l : List Nat} (h : 0 < l.length) : o1F .max (.list (l.map natD)) = some (natD (l.foldl max 0)) := by
  show (intsOf (l.map natD)).bind (fun is => (maxI is).map PyData.int) = _
  rw [intsOf_nat, Option.bind_some]
  cases l with
  | nil => cases h
  | cons a l =>
    show some (PyData.int ((l.map fun n : Nat => (n : Int)).foldl (fun m y => if m < y then y else m) (a : Int))) = _
    rw [maxI_nat, List.foldl_cons, Nat.zero_max]
    rfl
theorem max_lN {l : List Nat} (h : 0 < l.length) : o1F .max (lstE natD l) = some (natD (l.foldl max 0)) := max_N h
/-! ### sizes -/
theorem sz_of {l : List α} {k : Nat} (h : l.length ≤ k) (hk : k ≤ BIG) : Sz l := Nat.le_trans h hk
theorem sz_map {f : α → β} {l : List α} {k : Nat} (h : l.length ≤ k) : (l.map f).length ≤ k := by rw [List.length_map]; exact h
theorem sz_filter {p : α → Bool} {l : List α} {k : Nat} (h : l.length ≤ k) : (l.filter p).length ≤ k := Nat.le_trans (List.length_filter_le _ _) h
theorem sz_range {n k : Nat} (h : n ≤ k) : (List.range n).length ≤ k := by rw [List.length_range]; exact h
theorem sz_range' {m n k : Nat} (h : n ≤ k) : (List.range' m n).length ≤ k := by rw [List.length_range']; exact h
theorem sz_enum {l : List α} {k : Nat} (h : l.length ≤ k) : (enumL l).length ≤ k := by rw [enumL, List.length_zip, List.length_range, Nat.min_self]; exact h
theorem sz_sort [DecidableEq α] {lt : α → α → Bool} {l : List α} {k : Nat} (h : l.length ≤ k) : (sortO lt l).length ≤ k := by rw [(sortO_perm l).length_eq]; exact h
theorem sz_ss [DecidableEq α] {lt : α → α → Bool} {l : List α} {k : Nat} (h : l.length ≤ k) : (ssO lt l).length ≤ k := by rw [ssO, (sortO_perm _).length_eq]; exact Nat.le_trans (dedupO_len l) h
theorem sz_flat {f : α → List β} {l : List α} {k m : Nat} (h : l.length ≤ k) (h2 : ∀ a ∈ l, (f a).length ≤ m) : (l.flatMap f).length ≤ k * m := by
  induction l generalizing k with
  | nil => exact Nat.zero_le _
  | cons a l ih =>
    rw [List.flatMap_cons, List.length_append]
    rw [List.length_cons] at h
    obtain ⟨k, rfl⟩ : ∃ j, k = j + 1 := ⟨k - 1, by omega⟩
    have h1 := h2 a List.mem_cons_self
    have h3 := ih (k := k) (by omega) fun b hb => h2 b (List.mem_cons_of_mem _ hb)
    rw [Nat.succ_mul]
    omega
end Orp

/-! Symbolic evaluation, part 3: the tactic. -/
namespace Orp
open PySem (PyData)
variable {Φ : Nat → List D → Option D} {α β : Type}
theorem int_lit (n : Nat) : PyData.int (@OfNat.ofNat Int n _) = natD (@OfNat.ofNat Nat n _) := rfl
theorem call_eq {f : Fn} {ds : List D} {d : D} (hl : ds.length = f.np) (h : exB Φ f.body (ds ++ List.replicate (f.ns - f.np) .none) = some (.ret d)) : callF Φ f ds = some d := call_of hl h
theorem ppE_mk' {a b : List Nat} : PyData.tuple [tupE natD a, tupE natD b] = ppE (a, b) := rfl
theorem lt6_of {s : List Nat} (hs : ∀ m ∈ s, m < 6) {m : Nat} (h : m ∈ s) : m < 6 := hs m h
/-- nothing, or one -/
def optE (enc : α → D) : Option α → D
  | none => .none
  | some a => enc a
theorem optE_none {enc : α → D} : optE enc none = .none := rfl
theorem optE_some {enc : α → D} {a : α} : optE enc (some a) = enc a := rfl
theorem opt_isN {o : Option Nat} : o1F .isN (optE natD o) = some (.bool o.isNone) := by cases o <;> rfl
theorem opt_notN {o : Option Nat} : o1F .notN (optE natD o) = some (.bool o.isSome) := by cases o <;> rfl
theorem head_if {l : List Nat} : (if l.isEmpty = true then some PyData.none else o2F .idx (lstE natD l) (natD 0)) = some (optE natD l.head?) := by
  cases l with
  | nil => rfl
  | cons a l =>
    rw [if_neg (by simp), show o2F .idx (lstE natD (a :: l)) (natD 0) = _ from idx_lst (by simp)]
    rfl
theorem sz100 {l : List α} (h : l.length ≤ 200) : l.length ≤ 200 := h
theorem ite_someD {c : Prop} [Decidable c] {x y : D} : (if c then some x else some y) = some (if c then x else y) := by split <;> rfl
theorem ifD_and {p q : Bool} : (if p = true then PyData.bool q else .bool false) = .bool (p && q) := by cases p <;> rfl
theorem ifD_or {p q : Bool} : (if p = true then PyData.bool true else .bool q) = .bool (p || q) := by cases p <;> rfl
theorem ifD_andp {p : Prop} [Decidable p] {q : Bool} : (if p then PyData.bool q else .bool false) = .bool (decide p && q) := by by_cases h : p <;> simp [h]
theorem ifD_orp {p : Prop} [Decidable p] {q : Bool} : (if p then PyData.bool true else .bool q) = .bool (decide p || q) := by by_cases h : p <;> simp [h]
theorem call_post {f : Fn} {ds : List D} {d : D} (hl : ds.length = f.np) (h : Post (exB Φ f.body (ds ++ List.replicate (f.ns - f.np) .none)) fun q => q = .ret d) : callF Φ f ds = some d := call_eq hl (post_eq h)
theorem obind_some {α β : Type} {a : α} {f : α → Option β} : (some a).bind f = f a := rfl
theorem tup1N {a : Nat} : PyData.tuple [natD a] = tupE natD [a] := rfl
theorem tup1P {a : Nat × Nat} : PyData.tuple [pD a] = tupE pD [a] := rfl
theorem tup1T {enc : α → D} {a : List α} : PyData.tuple [tupE enc a] = tupE (tupE enc) [a] := rfl
theorem lst1 {enc : α → D} {a : List α} : PyData.list [tupE enc a] = lstE (tupE enc) [a] := rfl
theorem lst1P {a : Nat × Nat} : PyData.list [pD a] = lstE pD [a] := rfl
theorem lst1PP {a : List Nat × List Nat} : PyData.list [ppE a] = lstE ppE [a] := rfl
theorem tup5N {a b c d e : Nat} : PyData.tuple [natD a, natD b, natD c, natD d, natD e] = tupE natD [a, b, c, d, e] := rfl
theorem tup4N {a b c d : Nat} : PyData.tuple [natD a, natD b, natD c, natD d] = tupE natD [a, b, c, d] := rfl
theorem tup3N {a b c : Nat} : PyData.tuple [natD a, natD b, natD c] = tupE natD [a, b, c] := rfl
theorem bind_tup4 {is : List Nat} {l : List Nat} {ρ : Rho} : bindT (.tup is) (tupE natD l) ρ = setAll is (l.map natD) ρ := rfl
theorem one_ppE {a : List Nat × List Nat} : oneF (some (ppE a)) = encL ppE [a] := rfl
theorem ite_natD {c : Prop} [Decidable c] {x y : Nat} : (if c then natD x else natD y) = natD (if c then x else y) := by split <;> rfl
theorem bool_beq {b : Bool} : (b = true) = (b = true) := rfl
theorem ppE_mk {a b : List Nat} : PyData.tuple [tupE natD a, tupE natD b] = ppE (a, b) := rfl
theorem ppE_0 {p : List Nat × List Nat} : o2F .idx (ppE p) (natD 0) = some (tupE natD p.1) := rfl
theorem ppE_1 {p : List Nat × List Nat} : o2F .idx (ppE p) (natD 1) = some (tupE natD p.2) := rfl
theorem bind_ppE {is : List Nat} {p : List Nat × List Nat} {ρ : Rho} : bindT (.tup is) (ppE p) ρ = setAll is [tupE natD p.1, tupE natD p.2] ρ := rfl
end Orp

/-! Orders, part 1: what grows out of pairs. -/
namespace Orp
open PySem (PyData)
abbrev Prs := List (Nat × Nat)
/-- ways through pairs whose inner places are below m -/
inductive Pth (e : Prs) (m : Nat) : Nat → Nat → Prop
  | base {x y : Nat} : (x, y) ∈ e → Pth e m x y
  | step {x z y : Nat} : Pth e m x z → z < m → Pth e m z y → Pth e m x y
theorem take_succ' {α : Type} {l : List α} {i : Nat} {a : α} (h : l[i]? = some a) : l.take (i + 1) = l.take i ++ [a] := by
  rw [List.take_add_one, h]
  rfl
theorem foldl_take {α β : Type} {f : β → α → β} {l : List α} {i : Nat} {a : α} {b : β} (h : l[i]? = some a) : (l.take (i + 1)).foldl f b = f ((l.take i).foldl f b) a := by
  rw [take_succ' h, List.foldl_append]
  rfl
theorem get_range {n i k : Nat} (h : (List.range n)[i]? = some k) : k = i ∧ i < n := by
  obtain ⟨h1, h2⟩ := List.getElem?_eq_some_iff.mp h
  rw [List.length_range] at h1
  rw [List.getElem_range] at h2
  exact ⟨h2.symm, h1⟩
/-- what follows from pairs -/
inductive TC (e : Prs) : Nat → Nat → Prop
  | base {x y : Nat} : (x, y) ∈ e → TC e x y
  | step {x z y : Nat} : TC e x z → TC e z y → TC e x y
theorem Pth.mono {e : Prs} {m x y : Nat} (h : Pth e m x y) : Pth e (m + 1) x y := by
  induction h with
  | base h => exact .base h
  | step _ hz _ a b => exact .step a (by omega) b
theorem pth_succ {e : Prs} {m x y : Nat} : Pth e (m + 1) x y ↔ Pth e m x y ∨ (Pth e m x m ∧ Pth e m m y) := by
  constructor
  · intro h
    induction h with
    | base h => exact .inl (.base h)
    | step h1 hz h2 a b =>
      rename_i x z y
      by_cases e1 : z = m
      · subst e1
        exact .inr ⟨a.elim id (·.1), b.elim id (·.2)⟩
      · have hz : z < m := by omega
        rcases a with a | ⟨a1, a2⟩
        · rcases b with b | ⟨b1, b2⟩
          · exact .inl (.step a hz b)
          · exact .inr ⟨.step a hz b1, b2⟩
        · rcases b with b | ⟨b1, b2⟩
          · exact .inr ⟨a1, .step a2 hz b⟩
          · exact .inr ⟨a1, b2⟩
  · rintro (h | ⟨h1, h2⟩)
    · exact h.mono
    · exact .step h1.mono (by omega) h2.mono
theorem pth_zero {e : Prs} {x y : Nat} : Pth e 0 x y ↔ (x, y) ∈ e := by
  constructor
  · intro h
    cases h with
    | base h => exact h
    | step _ hz _ => omega
  · exact .base
theorem TC.ends {e : Prs} {n x y : Nat} (he : ∀ p ∈ e, p.1 < n ∧ p.2 < n) (h : TC e x y) : x < n ∧ y < n := by
  induction h with
  | base h => exact he _ h
  | step _ _ a b => exact ⟨a.1, b.2⟩
theorem pth_tc {e : Prs} {n x y : Nat} (he : ∀ p ∈ e, p.1 < n ∧ p.2 < n) : Pth e n x y ↔ TC e x y := by
  constructor
  · intro h
    induction h with
    | base h => exact .base h
    | step _ _ _ a b => exact .step a b
  · intro h
    induction h with
    | base h => exact .base h
    | step h1 _ a b => exact .step a (h1.ends he).2 b
theorem TC.of {e f : Prs} {x y : Nat} (h : TC e x y) (hf : ∀ p ∈ e, TC f p.1 p.2) : TC f x y := by
  induction h with
  | base h => exact hf _ h
  | step _ _ a b => exact .step a b
/-- things in order, each pair told once, ascending -/
structure IsOrd (n : Nat) (l : Prs) : Prop where
  lt : ∀ p ∈ l, p.1 < n ∧ p.2 < n
  irr : ∀ x, (x, x) ∉ l
  tr : ∀ x y z, (x, y) ∈ l → (y, z) ∈ l → (x, z) ∈ l
  st : l.Pairwise fun a b => ltPN a b = true
theorem IsOrd.nodup {n : Nat} {l : Prs} (h : IsOrd n l) : l.Nodup := nodup_of_strict ordPN h.st
/-- so many different pairs below n there are -/
theorem nodup_sub {α : Type} [DecidableEq α] : ∀ {l m : List α}, l.Nodup → (∀ x ∈ l, x ∈ m) → l.length ≤ m.length
  | [], _, _, _ => Nat.zero_le _
  | a :: l, m, h, hs => by
    obtain ⟨h1, h2⟩ := List.nodup_cons.mp h
    have ha := hs a List.mem_cons_self
    have := nodup_sub (m := m.erase a) h2 fun x hx => (List.mem_erase_of_ne fun e => h1 (by rw [← e]; exact hx)).mpr (hs x (List.mem_cons_of_mem _ hx))
    rw [List.length_erase_of_mem ha] at this
    have := List.length_pos_of_mem ha
    rw [List.length_cons]
    omega
theorem pairs_len {l : Prs} {n : Nat} (h : l.Nodup) (hl : ∀ p ∈ l, p.1 < n ∧ p.2 < n) : l.length ≤ n * n := by
  have := nodup_sub (m := (List.range n).flatMap fun a => (List.range n).map fun b => (a, b)) h fun p hp => by
    obtain ⟨h1, h2⟩ := hl p hp
    exact List.mem_flatMap.mpr ⟨p.1, List.mem_range.mpr h1, List.mem_map.mpr ⟨p.2, List.mem_range.mpr h2, rfl⟩⟩
  refine Nat.le_trans this ?_
  refine sz_flat (by rw [List.length_range]; exact Nat.le_refl _) fun a _ => ?_
  rw [List.length_map, List.length_range]
  exact Nat.le_refl _
theorem pairs_len7 {l : Prs} {n : Nat} (hn : n ≤ 7) (h : l.Nodup) (hl : ∀ p ∈ l, p.1 < n ∧ p.2 < n) : l.length ≤ 49 := by
  have h1 := pairs_len h hl
  have : n * n ≤ 7 * 7 := Nat.mul_le_mul hn hn
  omega
/-! ### _law_closed -/
def lowM (k : Prs) (m : Nat) : List Nat := (k.filter fun p => decide (p.2 = m)).map fun p => p.1
def uppM (k : Prs) (m : Nat) : List Nat := (k.filter fun p => decide (p.1 = m)).map fun p => p.2
/-- what one thing before the middle adds -/
def addM (upper : List Nat) (k : Prs) (x : Nat) : Prs := k ++ (upper.filter fun y => !decide ((x, y) ∈ k)).map fun y => (x, y)
def midM (k : Prs) (m : Nat) : Prs := (lowM k m).foldl (addM (uppM k m)) k
def knownM (e : Prs) (m : Nat) : Prs := (List.range m).foldl midM e
def closeM (n : Nat) (e : Prs) : Prs := ssO ltPN (knownM e n)
theorem mem_addM {u : List Nat} {k : Prs} {x : Nat} {p : Nat × Nat} : p ∈ addM u k x ↔ p ∈ k ∨ (p.1 = x ∧ p.2 ∈ u) := by
  unfold addM
  rw [List.mem_append, List.mem_map]
  constructor
  · rintro (h | ⟨y, h, rfl⟩)
    · exact .inl h
    · exact .inr ⟨rfl, (List.mem_filter.mp h).1⟩
  · rintro (h | ⟨h1, h2⟩)
    · exact .inl h
    · by_cases hk : p ∈ k
      · exact .inl hk
      · refine .inr ⟨p.2, List.mem_filter.mpr ⟨h2, ?_⟩, by rw [← h1]⟩
        rw [← h1]
        simpa using hk
theorem mem_foldAdd {u : List Nat} : ∀ {ls : List Nat} {k : Prs} {p : Nat × Nat}, p ∈ ls.foldl (addM u) k ↔ p ∈ k ∨ (p.1 ∈ ls ∧ p.2 ∈ u)
  | [], k, p => by simp
  | x :: ls, k, p => by
    rw [List.foldl_cons, mem_foldAdd, mem_addM, List.mem_cons]
    constructor
    · rintro ((h | ⟨h, h2⟩) | ⟨h, h2⟩)
      · exact .inl h
      · exact .inr ⟨.inl h, h2⟩
      · exact .inr ⟨.inr h, h2⟩
    · rintro (h | ⟨h | h, h2⟩)
      · exact .inl (.inl h)
      · exact .inl (.inr ⟨h, h2⟩)
      · exact .inr ⟨h, h2⟩
theorem mem_low {k : Prs} {m x : Nat} : x ∈ lowM k m ↔ (x, m) ∈ k := by
  unfold lowM
  simp only [List.mem_map, List.mem_filter, decide_eq_true_eq]
  exact ⟨fun ⟨p, ⟨h1, h2⟩, h3⟩ => by rw [← h2, ← h3]; exact h1, fun h => ⟨(x, m), ⟨h, rfl⟩, rfl⟩⟩
theorem mem_upp {k : Prs} {m y : Nat} : y ∈ uppM k m ↔ (m, y) ∈ k := by
  unfold uppM
  simp only [List.mem_map, List.mem_filter, decide_eq_true_eq]
  exact ⟨fun ⟨p, ⟨h1, h2⟩, h3⟩ => by rw [← h2, ← h3]; exact h1, fun h => ⟨(m, y), ⟨h, rfl⟩, rfl⟩⟩
theorem mem_mid {k : Prs} {m : Nat} {p : Nat × Nat} : p ∈ midM k m ↔ p ∈ k ∨ ((p.1, m) ∈ k ∧ (m, p.2) ∈ k) := by
  unfold midM
  rw [mem_foldAdd, mem_low, mem_upp]
theorem known_succ (e : Prs) (m : Nat) : knownM e (m + 1) = midM (knownM e m) m := by
  unfold knownM
  rw [List.range_succ, List.foldl_append]
  rfl
theorem mem_known {e : Prs} : ∀ {m : Nat} {p : Nat × Nat}, p ∈ knownM e m ↔ Pth e m p.1 p.2
  | 0, p => by
    rw [pth_zero]
    exact Iff.rfl
  | m + 1, p => by
    rw [known_succ, mem_mid, mem_known, mem_known, mem_known, pth_succ]
theorem nodup_addM {u : List Nat} (hu : u.Nodup) {k : Prs} (hk : k.Nodup) (x : Nat) : (addM u k x).Nodup := by
  unfold addM
  refine List.nodup_append.mpr ⟨hk, ?_, fun a ha b hb e => ?_⟩
  · exact List.pairwise_map.mpr ((List.Pairwise.filter _ hu).imp fun {a b} h e => h (Prod.mk.inj e).2)
  · obtain ⟨y, hy, rfl⟩ := List.mem_map.mp hb
    have := (List.mem_filter.mp hy).2
    subst e
    simp [ha] at this
theorem nodup_foldAdd {u : List Nat} (hu : u.Nodup) : ∀ {ls : List Nat} {k : Prs}, k.Nodup → (ls.foldl (addM u) k).Nodup
  | [], _, h => h
  | x :: ls, k, h => by
    rw [List.foldl_cons]
    exact nodup_foldAdd hu (nodup_addM hu h x)
theorem nodup_upp {k : Prs} (h : k.Nodup) (m : Nat) : (uppM k m).Nodup := by
  unfold uppM
  refine List.pairwise_map.mpr ?_
  refine List.Pairwise.imp_of_mem (fun {a b} ha hb h e => ?_) (List.Pairwise.filter _ h)
  have h1 := of_decide_eq_true (List.mem_filter.mp ha).2
  have h2 := of_decide_eq_true (List.mem_filter.mp hb).2
  exact h (Prod.ext (h1.trans h2.symm) e)
theorem nodup_known {e : Prs} (h : e.Nodup) : ∀ m, (knownM e m).Nodup
  | 0 => h
  | m + 1 => by
    rw [known_succ]
    exact nodup_foldAdd (nodup_upp (nodup_known h m) m) (nodup_known h m)
theorem known_lt {e : Prs} {n : Nat} (he : ∀ p ∈ e, p.1 < n ∧ p.2 < n) (m : Nat) : ∀ p ∈ knownM e m, p.1 < n ∧ p.2 < n := by
  intro p hp
  have h := mem_known.mp hp
  clear hp
  generalize p.1 = x at h
  generalize p.2 = y at h
  induction h with
  | base h => exact he _ h
  | step _ _ _ a b => exact ⟨a.1, b.2⟩
theorem mem_close {e : Prs} {n : Nat} (he : ∀ p ∈ e, p.1 < n ∧ p.2 < n) {p : Nat × Nat} : p ∈ closeM n e ↔ TC e p.1 p.2 := by
  unfold closeM
  rw [mem_ssO, mem_known, pth_tc he]
/-- pairs that all go up by some measure -/
theorem close_ord {e : Prs} {n : Nat} (he : ∀ p ∈ e, p.1 < n ∧ p.2 < n) (r : Nat → Nat) (hr : ∀ p ∈ e, r p.1 < r p.2) : IsOrd n (closeM n e) where
  lt p hp := ((mem_close he).mp hp).ends he
  irr x hx := by
    have h := (mem_close he).mp hx
    have up : ∀ {x y}, TC e x y → r x < r y := fun h => by
      induction h with
      | base h => exact hr _ h
      | step _ _ a b => omega
    exact absurd (up h) (by simp)
  tr x y z h1 h2 := (mem_close he (p := (x, z))).mpr (.step ((mem_close he (p := (x, y))).mp h1) ((mem_close he (p := (y, z))).mp h2))
  st := ssO_strict ordPN _
end Orp

/-! What every law begins with. -/
namespace Orp
open PySem (PyData)
theorem intsD_nat (r : List Nat) : intsD (r.map fun n : Nat => (n : Int)) = lstE natD r := by
  unfold intsD lstE
  rw [List.map_map]
  rfl
theorem nats_of {l : List Int} (h : ∀ x ∈ l, 0 ≤ x) : ∃ r : List Nat, l = r.map fun n : Nat => (n : Int) := by
  refine ⟨l.map Int.toNat, ?_⟩
  rw [List.map_map]
  exact (List.map_id l).symm.trans (List.map_congr_left fun x hx => by
    show x = ((x.toNat : Nat) : Int)
    have := h x hx
    omega)
theorem row_run {P : List Fn} {jm jr : Nat} (hm : P[jm]? = some F__law_mixed) (hr : P[jr]? = some (F__law_row jm)) (ns : List Int) (many : Nat) (hb : many ≤ 1000) (d : Nat) : ∃ r : List Nat, r.length = many ∧ run P (d + 2) jr [intsD ns, natD many] = some (lstE natD r) := by
  obtain ⟨mx, hmx⟩ : ∃ mx : Nat → Int, ∀ k, 0 ≤ mx k ∧ callF (run P d) fMixed [intsD ns, natD k] = some (.int (mx k)) := ⟨fun k => Classical.choose (mixed_ok ns k), fun k => Classical.choose_spec (mixed_ok ns k)⟩
  obtain ⟨row, hrl, hr0, hrow⟩ := row_ok (Φ := run P (d + 1)) (jm := jm) (mx := mx) (ns := ns) (many := many) (fun k => (run_succ _ _ _ _ _ hm).trans (hmx k).2) (fun k => (hmx k).1) hb
  obtain ⟨r, rfl⟩ := nats_of hr0
  rw [List.length_map] at hrl
  refine ⟨r, hrl, ?_⟩
  rw [← intsD_nat]
  exact (run_succ _ _ _ _ _ hr).trans hrow
theorem lk_nat (n i : Nat) : Lk n (natD i) := by cases n <;> trivial
theorem lk_bool (n : Nat) (b : Bool) : Lk n (.bool b) := by cases n <;> trivial
theorem lk_none (n : Nat) : Lk n .none := by cases n <;> trivial
theorem lk_tup {α : Type} {enc : α → D} {n : Nat} {l : List α} (h : l.length ≤ 8000000) (he : ∀ a ∈ l, Lk n (enc a)) : Lk (n + 1) (tupE enc l) := by
  refine ⟨by rw [List.length_map]; exact h, fun d hd => ?_⟩
  obtain ⟨a, ha, rfl⟩ := List.mem_map.mp hd
  exact he a ha
theorem lk_rowD {n : Nat} {l : List Nat} (h : l.length ≤ 8000000) : Lk (n + 1) (tupE natD l) := lk_tup h fun a _ => lk_nat n a
theorem lk_pD (n : Nat) (p : Nat × Nat) : Lk (n + 1) (pD p) := ⟨by show 2 ≤ 8000000; decide, fun d hd => by
  rcases List.mem_cons.mp hd with rfl | hd
  · exact lk_nat _ _
  · rw [List.mem_singleton.mp hd]
    exact lk_nat _ _⟩
theorem lk_prs {n : Nat} {l : List (Nat × Nat)} (h : l.length ≤ 8000000) : Lk (n + 2) (tupE pD l) := lk_tup h fun a _ => lk_pD n a
theorem lk_ordD {n : Nat} {o : Nat × List (Nat × Nat)} (h : o.2.length ≤ 8000000) : Lk (n + 3) (ordD o) := ⟨by show 2 ≤ 8000000; decide, fun d hd => by
  rcases List.mem_cons.mp hd with rfl | hd
  · exact lk_nat _ _
  · rw [List.mem_singleton.mp hd]
    exact lk_prs h⟩
end Orp

/-! The law k25: all shapes of a sum up to nine; the kernel runs it. -/
namespace Orp
open PySem (PyData)
namespace Shp
def P25 : List Fn := [F_turned_shape, F_count_fillings 0, F_shapes, F__law_mixed, F__law_row 3, F__law_is_int, F__law_like 6 5, F__law_shapes 7, F__law_fillings 8, F_law_k25 4 7 6 2 8 1 0]
def tlB : Bk → Bk
  | .cons _ r => r
  | .nil => .nil
def rest25 : Bk := tlB (tlB (F_law_k25 4 7 6 2 8 1 0).body)
def isT : Option Res → Bool
  | some (.ret (.bool true)) => true
  | _ => false
abbrev st25 (d0 d1 : D) (t : Nat) : Rho := [d0, d1, natD t, .none, .none, .none, .none, .none, .none, .none, .none, .none]
theorem e0 (d0 d1 : D) : isT (exB (run P25 11) rest25 (st25 d0 d1 0)) = true := by kernel_rfl
theorem e1 (d0 d1 : D) : isT (exB (run P25 11) rest25 (st25 d0 d1 1)) = true := by kernel_rfl
theorem e2 (d0 d1 : D) : isT (exB (run P25 11) rest25 (st25 d0 d1 2)) = true := by kernel_rfl
theorem e3 (d0 d1 : D) : isT (exB (run P25 11) rest25 (st25 d0 d1 3)) = true := by kernel_rfl
theorem e4 (d0 d1 : D) : isT (exB (run P25 11) rest25 (st25 d0 d1 4)) = true := by kernel_rfl
theorem e5 (d0 d1 : D) : isT (exB (run P25 11) rest25 (st25 d0 d1 5)) = true := by kernel_rfl
theorem e6 (d0 d1 : D) : isT (exB (run P25 11) rest25 (st25 d0 d1 6)) = true := by kernel_rfl
theorem e7 (d0 d1 : D) : isT (exB (run P25 11) rest25 (st25 d0 d1 7)) = true := by kernel_rfl
theorem e8 (d0 d1 : D) : isT (exB (run P25 11) rest25 (st25 d0 d1 8)) = true := by kernel_rfl
theorem e9 (d0 d1 : D) : isT (exB (run P25 11) rest25 (st25 d0 d1 9)) = true := by kernel_rfl
end Shp
end Orp

/-! The law k25, its head. -/
namespace Orp
open PySem (PyData)
namespace Shp
variable {Φ : Nat → List D → Option D}
local macro_rules | `(tactic| array_get_dec) => `(tactic| repeat' (first
  | apply sz_map | apply sz_filter | apply sz_enum | apply sz_sort | apply sz_ss
  | (refine sz_range (k := 200) ?_; first | omega | (simp only [List.mem_range, List.mem_range'_1] at *; omega))
  | (refine sz_range' (k := 200) ?_; first | omega | (simp only [List.mem_range, List.mem_range'_1] at *; omega))
  | (refine sz100 ?_; first | assumption | omega | solve_by_elim (maxDepth := 4) | (simp; done) | (simp; omega))
  | apply sz_flat | intro _))
local macro_rules | `(tactic| sizeOf_list_dec) => `(tactic| first
  | assumption
  | decide
  | (apply sz_of; (focus (array_get_dec; done)); decide)
  | omega
  | (have := lt6_of ‹∀ m ∈ _, m < 6› ‹_ ∈ _›; omega)
  | (simp only [List.mem_range, BIG, Option.some.injEq, PyData.bool.injEq, decide_eq_true_eq, decide_eq_false_iff_not, List.length_range, List.length_map, List.mem_filter, List.mem_range'_1, List.length_append, List.length_cons, List.length_nil] at *; omega)
  | solve_by_elim (maxDepth := 4))
local macro_rules | `(tactic| simp_arith [$ls:simpLemma,*]) => `(tactic| simp -implicitDefEqProofs (disch := sizeOf_list_dec) only [
  x_var, x_cst, x_o1, x_o2, x_o3, x_chain, x_and, x_or, x_not, x_ite, x_tup, x_lst, x_rgl, x_call, x_comp, xs_nil, xs_cons, o1_some, o2_some, o3_some, cons_some, tup_some, lst_some, call_some, and_some, or_some, not_some, not_lst, not_tup, it_bool, it_lst, it_tup,
  ce_nil, ce_cons, cl_enc, st_some, q_true, q_bool, one_nat, one_int, one_bool, one_tup, one_lst, one_pD, ite_enc, flat_filter', flat_filterp, flat_one, List.map_id', flatM_enc, ok_enc, if_and, if_andp, if_or, if_orp, ifD_and, ifD_or, ifD_andp, ifD_orp, Bool.decide_eq_true, decide_eq_true_eq, decide_true, decide_false, r_eq, r_ne, p_eq, post_some, go_next, go_ret, tup1N, tup1P, tup1T, lst1, lst1P, lst1PP, tup5N, tup4N, tup3N, one_ppE, opt_isN, opt_notN, optE_none, optE_some, head_if, and_true, true_and,  ch_some, boolOf_bool, s_while,
  w_dat, w_rng, w_rng2, w_enu, dat_lst, dat_tup, rng_nat, rng2_nat, enu_lst, enu_tup, rgl_nat, rgl_nat0,
  b_nil, b_cons, seq_next, seq_ret, seq_ite, s_asg, s_par, s_ret, s_ite, s_app, s_ext, s_aug, s_set, s_for, s_pass, s_frz, s_mov, asg_one, asg_tup, par_some, ret_some, if_bool, if_lst, put_some, set_nil, set_cons, bind_one, bind_tup, app_lst, ext_lst,
  n_int, b_int, n_add, n_mod, n_mul, n_fdiv, n_fdivp, n_sub, n_shl, n_le, n_gt, n_ge, n_lt, n_eq, n_ne, n_max2, n_min2, n_isN, n_notN, none_isN, none_notN, t_isN, t_notN, b_isT, b_isF, b_eq, b_ne,
  pD_mk, bind_pD, bind_enu, pD_idx0, pD_idx1, ordD_mk, ordD_0, ordD_1, asg_ordD, ppE_mk, ppE_0, ppE_1, bind_ppE,
  len_tup, len_lst, tup_lst, tup_tup, list_tup, list_lst, in_tN, in_lN, in_tP, in_lP, in_lR, in_tR, nin_tN, nin_lN, nin_tP, nin_lP, all_lst, any_lst, all_map_id, any_map_id, idx_tup, idx_lst, add_tup, add_lst, sorted_lN, sorted_lP, sorted_lR, sset_lN, sset_tN, sset_lP, sset_tP, sset_lR, sum_lN, max_lN, from_tup, from_lst, upto_tup,
  int_lit, ite_someD, ite_natD, Option.map_some, Option.bind_some,
  List.getElem?_cons_zero, List.getElem?_cons_succ, List.set_cons_zero, List.set_cons_succ, List.cons_append, List.nil_append, List.replicate_succ, List.replicate_zero, Nat.reduceSub, Nat.reduceAdd, Bool.true_and, Bool.and_true, Bool.false_eq_true, bne_self_eq_false, Bool.not_true, Bool.not_false, Bool.or_false, Bool.false_or, Bool.or_self, Bool.true_or, Bool.or_true, Bool.false_and, Bool.and_false, Bool.not_not, if_true, if_false, eq_self, $ls,*])
theorem isT_post {o : Option Res} (h : isT o = true) : Post o fun q => q = .ret (.bool true) := by
  unfold isT at h
  split at h
  · exact ⟨_, rfl, rfl⟩
  · cases h
theorem e_all (d0 d1 : D) : ∀ t, t < 10 → isT (exB (run P25 11) rest25 (st25 d0 d1 t)) = true
  | 0, _ => e0 d0 d1
  | 1, _ => e1 d0 d1
  | 2, _ => e2 d0 d1
  | 3, _ => e3 d0 d1
  | 4, _ => e4 d0 d1
  | 5, _ => e5 d0 d1
  | 6, _ => e6 d0 d1
  | 7, _ => e7 d0 d1
  | 8, _ => e8 d0 d1
  | 9, _ => e9 d0 d1
  | t + 10, h => by omega
theorem pure25 (ns : List Int) : run P25 12 9 [.list (ns.map .int)] = some (.bool true) := by
  obtain ⟨row, hrl, hrow⟩ := row_run (P := P25) (jm := 3) (jr := 4) rfl rfl ns 4 (by decide) 9
  have h9 : P25[9]? = some (F_law_k25 4 7 6 2 8 1 0) := rfl
  rw [run_succ _ _ _ _ _ h9]
  have ht : row.getD 0 default % 10 < 10 := Nat.mod_lt _ (by decide)
  have he := isT_post (e_all (intsD ns) (lstE natD row) _ ht)
  refine call_post rfl ?_
  show Post (exB (run P25 11) (F_law_k25 4 7 6 2 8 1 0).body [intsD ns, .none, .none, .none, .none, .none, .none, .none, .none, .none, .none, .none]) _
  generalize run P25 11 = Φ at *
  have hr : rest25 = tlB (tlB (F_law_k25 4 7 6 2 8 1 0).body) := rfl
  unfold F_law_k25 at hr ⊢
  refine cut2 (fun ρ => ρ = st25 (intsD ns) (lstE natD row) (row.getD 0 default % 10)) ?_ ?_
  · simp_arith [hrow]
  · rintro ρ rfl
    rw [hr] at he
    exact he
end Shp
end Orp

namespace Lk25
open PySem PySem.Spec PyProof.Rows L2 Orp
/-- 0 shape 1 most 2 column 3 length -/
def b_turned_shape : Orp.Bk := (.cons (.asg (.one 1) (.ite (.var 0) (.o2 .idx (.var 0) (.cst (.int (0)))) (.cst (.int (0))))) (.cons (.ret (.o1 .tuple (.comp [2] (.o1 .len (.comp [3] (.var 3) (.cons (.one 3) (.dat (.var 0)) (.o2 .gt (.var 3) (.var 2)) .nil))) (.cons (.one 2) (.rng (.var 1)) (.cst (.bool true)) .nil)))) .nil))
def f_turned_shape : Orp.Fn := ⟨1, 4, b_turned_shape⟩
/-- 0 shape 1 columns 2 product 3 hooks 4 count 5 row 6 length 7 column -/
def b_count_fillings : Orp.Bk := (.cons (.asg (.one 1) (.call 0 (.cons (.var 0) .nil))) (.cons (.asg (.tup [2, 3]) (.tup (.cons (.cst (.int (1))) (.cons (.cst (.int (1))) .nil)))) (.cons (.asg (.one 4) (.cst (.int (0)))) (.cons (.for_ (.tup [5, 6]) (.enu (.var 0)) (.cons (.for_ (.one 7) (.rng (.var 6)) (.cons (.aug 4 .add (.cst (.int (1)))) (.cons (.aug 2 .mul (.var 4)) (.cons (.aug 3 .mul (.o2 .sub (.o2 .sub (.o2 .add (.o2 .sub (.var 6) (.var 7)) (.o2 .idx (.var 1) (.var 7))) (.var 5)) (.cst (.int (1))))) .nil))) [.sh, .sh, .sh, .sh, .sh, .sh, .sh, .dead]) .nil) [.sh, .sh, .sh, .sh, .sh, .dead, .dead, .dead]) (.cons (.ret (.o2 .fdiv (.var 2) (.var 3))) .nil)))))
def f_count_fillings : Orp.Fn := ⟨1, 8, b_count_fillings⟩
/-- 0 total 1 rows 2 found 3 grown 4 row 5 left 6 most 7 length -/
def b_shapes : Orp.Bk := (.cons (.asg (.one 1) (.lst (.cons (.tup (.cons (.tup .nil) (.cons (.var 0) .nil))) .nil))) (.cons (.asg (.one 2) (.lst .nil)) (.cons (.frz 1) (.cons (.while_ (.var 1) (.cons (.asg (.one 3) (.lst .nil)) (.cons (.for_ (.tup [4, 5]) (.dat (.var 1)) (.cons (.ite (.o2 .eq (.var 5) (.cst (.int (0)))) (.cons (.app 2 (.var 4)) .nil) (.cons (.asg (.one 6) (.ite (.var 4) (.o2 .min2 (.o2 .idx (.var 4) (.o1 .neg (.cst (.int (1))))) (.var 5)) (.var 5))) (.cons (.ext 3 (.comp [7] (.tup (.cons (.o2 .add (.var 4) (.tup (.cons (.var 7) .nil))) (.cons (.o2 .sub (.var 5) (.var 7)) .nil))) (.cons (.one 7) (.rng2 (.cst (.int (1))) (.o2 .add (.var 6) (.cst (.int (1))))) (.cst (.bool true)) .nil))) .nil))) .nil) [.sh, .sh, .own, .own, .dead, .dead, .dead, .dead]) (.cons (.frz 3) (.cons (.asg (.one 1) (.var 3)) .nil)))) [.sh, .sh, .own, .dead, .dead, .dead, .dead, .dead]) (.cons (.ret (.o1 .tuple (.o1 .sorted (.var 2)))) .nil)))))
def f_shapes : Orp.Fn := ⟨1, 8, b_shapes⟩
/-- 0 script 1 k 2 cell 3 first 4 second 5 third -/
def b__law_mixed : Orp.Bk := (.cons (.asg (.one 2) (.cst (.int (0)))) (.cons (.ite (.o2 .gt (.o1 .len (.var 0)) (.cst (.int (0)))) (.cons (.asg (.one 2) (.o2 .idx (.var 0) (.o2 .mod (.var 1) (.o1 .len (.var 0))))) .nil) .nil) (.cons (.asg (.one 3) (.o2 .mod (.o1 .int (.o2 .add (.o2 .add (.o2 .mul (.var 2) (.cst (.int (48271)))) (.o2 .mul (.var 1) (.cst (.int (69621))))) (.cst (.int (8191))))) (.cst (.int (2147483647))))) (.cons (.asg (.one 4) (.o2 .mod (.o1 .int (.o2 .add (.o2 .add (.o2 .mul (.var 3) (.var 3)) (.o2 .fdiv (.var 3) (.cst (.int (7))))) (.o2 .mul (.var 1) (.cst (.int (16807)))))) (.cst (.int (2147483629))))) (.cons (.asg (.one 5) (.o2 .mod (.o1 .int (.o2 .add (.o2 .add (.o2 .mul (.var 4) (.var 4)) (.o2 .fdiv (.var 4) (.cst (.int (11))))) (.cst (.int (40692))))) (.cst (.int (2147483563))))) (.cons (.ret (.o2 .mod (.o2 .fdiv (.var 5) (.cst (.int (5)))) (.cst (.int (1000003))))) .nil))))))
def f__law_mixed : Orp.Fn := ⟨2, 6, b__law_mixed⟩
/-- 0 script 1 many 2 big 3 row 4 k -/
def b__law_row : Orp.Bk := (.cons (.asg (.one 2) (.cst (.int (0)))) (.cons (.ite (.and (.o2 .gt (.o1 .len (.var 0)) (.cst (.int (0)))) (.o2 .ge (.o2 .idx (.var 0) (.cst (.int (0)))) (.o2 .pow (.cst (.int (10))) (.cst (.int (18)))))) (.cons (.asg (.one 2) (.o2 .idx (.var 0) (.cst (.int (0))))) .nil) .nil) (.cons (.asg (.one 3) (.lst .nil)) (.cons (.for_ (.one 4) (.rng (.var 1)) (.cons (.ite (.o2 .gt (.var 2) (.cst (.int (0)))) (.cons (.app 3 (.o2 .mod (.o1 .int (.var 2)) (.cst (.int (1000))))) (.cons (.asg (.one 2) (.o2 .fdiv (.var 2) (.cst (.int (1000))))) .nil)) (.cons (.app 3 (.call 3 (.cons (.var 0) (.cons (.var 4) .nil)))) .nil)) .nil) [.sh, .sh, .sh, .own, .dead]) (.cons (.frz 3) (.cons (.ret (.var 3)) .nil))))))
def f__law_row : Orp.Fn := ⟨2, 5, b__law_row⟩
/-- 0 value -/
def b__law_is_int : Orp.Bk := (.cons (.ret (.and (.o1 .tInt (.var 0)) (.not (.o1 .tBool (.var 0))))) .nil)
def f__law_is_int : Orp.Fn := ⟨1, 1, b__law_is_int⟩
/-- 0 value 1 due 2 k -/
def b__law_like : Orp.Bk := (.cons (.ite (.o1 .isN (.var 1)) (.cons (.ret (.o1 .isN (.var 0))) .nil) .nil) (.cons (.ite (.o1 .tBool (.var 1)) (.cons (.ret (.and (.o1 .tBool (.var 0)) (.o2 .eq (.var 0) (.var 1)))) .nil) .nil) (.cons (.ite (.o1 .tTuple (.var 1)) (.cons (.ite (.or (.not (.o1 .tTuple (.var 0))) (.o2 .ne (.o1 .len (.var 0)) (.o1 .len (.var 1)))) (.cons (.ret (.cst (.bool false))) .nil) .nil) (.cons (.ret (.o1 .all (.comp [2] (.call 6 (.cons (.o2 .idx (.var 0) (.var 2)) (.cons (.o2 .idx (.var 1) (.var 2)) .nil))) (.cons (.one 2) (.rng (.o1 .len (.var 1))) (.cst (.bool true)) .nil)))) .nil)) .nil) (.cons (.ite (.o1 .tStr (.var 1)) (.cons (.ret (.and (.o1 .tStr (.var 0)) (.o2 .eq (.var 0) (.var 1)))) .nil) .nil) (.cons (.ret (.and (.call 5 (.cons (.var 0) .nil)) (.o2 .eq (.var 0) (.var 1)))) .nil)))))
def f__law_like : Orp.Fn := ⟨2, 3, b__law_like⟩
/-- 0 total 1 most 2 found 3 length 4 rest -/
def b__law_shapes : Orp.Bk := (.cons (.ite (.o2 .eq (.var 0) (.cst (.int (0)))) (.cons (.ret (.lst (.cons (.tup .nil) .nil))) .nil) .nil) (.cons (.asg (.one 2) (.lst .nil)) (.cons (.for_ (.one 3) (.rng2 (.cst (.int (1))) (.o2 .add (.o2 .min2 (.var 0) (.var 1)) (.cst (.int (1))))) (.cons (.ext 2 (.comp [4] (.o2 .add (.tup (.cons (.var 3) .nil)) (.var 4)) (.cons (.one 4) (.dat (.call 7 (.cons (.o2 .sub (.var 0) (.var 3)) (.cons (.var 3) .nil)))) (.cst (.bool true)) .nil))) .nil) [.sh, .sh, .own, .dead, .dead]) (.cons (.frz 2) (.cons (.ret (.var 2)) .nil)))))
def f__law_shapes : Orp.Fn := ⟨2, 5, b__law_shapes⟩
/-- 0 shape 1 known 2 total 3 k 4 less 5 part -/
def b__law_fillings : Orp.Bk := (.cons (.ite (.o2 .eq (.o1 .len (.var 0)) (.cst (.int (0)))) (.cons (.retm (.cst (.int (1))) 1) .nil) .nil) (.cons (.ite (.o2 .notIn (.var 0) (.var 1)) (.cons (.asg (.one 2) (.cst (.int (0)))) (.cons (.for_ (.one 3) (.rng (.o1 .len (.var 0))) (.cons (.ite (.or (.o2 .eq (.var 3) (.o2 .sub (.o1 .len (.var 0)) (.cst (.int (1))))) (.o2 .gt (.o2 .idx (.var 0) (.var 3)) (.o2 .idx (.var 0) (.o2 .add (.var 3) (.cst (.int (1))))))) (.cons (.asg (.one 4) (.o2 .add (.o2 .add (.o2 .upto (.var 0) (.var 3)) (.tup (.cons (.o2 .sub (.o2 .idx (.var 0) (.var 3)) (.cst (.int (1)))) .nil))) (.o2 .from_ (.var 0) (.o2 .add (.var 3) (.cst (.int (1))))))) (.cons (.mc true 2 8 (.cons (.o1 .tuple (.comp [5] (.var 5) (.cons (.one 5) (.dat (.var 4)) (.o2 .gt (.var 5) (.cst (.int (0)))) .nil))) .nil) 1) .nil)) .nil) .nil) [.sh, .dT, .sh, .dead, .dead, .dead]) (.cons (.set 1 (.var 0) (.var 2)) .nil))) .nil) (.cons (.retm (.o2 .idx (.var 1) (.var 0)) 1) .nil)))
def f__law_fillings : Orp.Fn := ⟨2, 6, b__law_fillings⟩
/-- 0 script 1 row 2 total 3 due 4 known 5 squares 6 product 7 k 8 one 9 number 10 columns 11 part -/
def b_law : Orp.Bk := (.cons (.asg (.one 1) (.call 4 (.cons (.var 0) (.cons (.cst (.int (4))) .nil)))) (.cons (.asg (.one 2) (.o2 .mod (.o1 .int (.o2 .idx (.var 1) (.cst (.int (0))))) (.cst (.int (10))))) (.cons (.asg (.one 3) (.o1 .sorted (.call 7 (.cons (.var 2) (.cons (.var 2) .nil))))) (.cons (.ite (.not (.call 6 (.cons (.call 2 (.cons (.var 2) .nil)) (.cons (.o1 .tuple (.var 3)) .nil)))) (.cons (.ret (.cst (.bool false))) .nil) .nil) (.cons (.asg (.one 4) (.dnew true)) (.cons (.asg (.tup [5, 6]) (.tup (.cons (.cst (.int (0))) (.cons (.cst (.int (1))) .nil)))) (.cons (.for_ (.one 7) (.rng2 (.cst (.int (1))) (.o2 .add (.var 2) (.cst (.int (1))))) (.cons (.asg (.one 6) (.o2 .mul (.var 6) (.var 7))) .nil) [.sh, .sh, .sh, .own, .dT, .sh, .sh, .dead, .dead, .dead, .dead, .dead]) (.cons (.for_ (.one 8) (.dat (.var 3)) (.cons (.mc false 9 8 (.cons (.var 8) .nil) 4) (.cons (.asg (.one 5) (.o2 .add (.var 5) (.o2 .mul (.var 9) (.var 9)))) (.cons (.asg (.one 10) (.o1 .tuple (.comp [7] (.o1 .len (.comp [11] (.var 11) (.cons (.one 11) (.dat (.var 8)) (.o2 .gt (.var 11) (.var 7)) .nil))) (.cons (.one 7) (.rng (.o1 .sum (.o2 .upto (.var 8) (.cst (.int (1)))))) (.cst (.bool true)) .nil)))) (.cons (.ite (.or (.not (.call 6 (.cons (.call 1 (.cons (.var 8) .nil)) (.cons (.var 9) .nil)))) (.not (.call 6 (.cons (.call 0 (.cons (.var 8) .nil)) (.cons (.var 10) .nil))))) (.cons (.ret (.cst (.bool false))) .nil) .nil) .nil)))) [.sh, .sh, .sh, .lck, .dT, .sh, .sh, .dead, .dead, .dead, .dead, .dead]) (.cons (.ret (.o2 .eq (.var 5) (.var 6))) .nil)))))))))
def f_law : Orp.Fn := ⟨1, 12, b_law⟩
def prog : List Orp.Fn := [f_turned_shape, f_count_fillings, f_shapes, f__law_mixed, f__law_row, f__law_is_int, f__law_like, f__law_shapes, f__law_fillings, f_law]
abbrev topS (i : Nat) : Stmt := PySem.Challenge.pw_orderstold_k25_shapes.main.body.getD i (.Pass ⟨0, 0, 0, 0⟩)
def d_turned_shape : DefT := ⟨"turned_shape", topS 1, ["shape", "most", "column", "length"], 1⟩
def d_count_fillings : DefT := ⟨"count_fillings", topS 2, ["shape", "columns", "product", "hooks", "count", "row", "length", "column"], 1⟩
def d_shapes : DefT := ⟨"shapes", topS 3, ["total", "rows", "found", "grown", "row", "left", "most", "length"], 1⟩
def d__law_mixed : DefT := ⟨"_law_mixed", topS 5, ["script", "k", "cell", "first", "second", "third"], 2⟩
def d__law_row : DefT := ⟨"_law_row", topS 6, ["script", "many", "big", "row", "k"], 2⟩
def d__law_is_int : DefT := ⟨"_law_is_int", topS 7, ["value"], 1⟩
def d__law_like : DefT := ⟨"_law_like", topS 8, ["value", "due", "k"], 2⟩
def d__law_shapes : DefT := ⟨"_law_shapes", topS 9, ["total", "most", "found", "length", "rest"], 2⟩
def d__law_fillings : DefT := ⟨"_law_fillings", topS 10, ["shape", "known", "total", "k", "less", "part"], 2⟩
def d_law : DefT := ⟨"law", topS 11, ["script", "row", "total", "due", "known", "squares", "product", "k", "one", "number", "columns", "part"], 1⟩
def defs : List DefT := [d_turned_shape, d_count_fillings, d_shapes, d__law_mixed, d__law_row, d__law_is_int, d__law_like, d__law_shapes, d__law_fillings, d_law]
def cst : Cst := ⟨[], ["turned_shape", "count_fillings", "shapes", "_law_mixed", "_law_row", "_law_is_int", "_law_like", "_law_shapes", "_law_fillings", "law"], [.sh, .sh, .sh, .sh, .sh, .sh, .sh, .sh, .mu 1 .dT, .sh], []⟩
theorem ck_turned_shape : ckDef cst d_turned_shape f_turned_shape (cst.R.getD 0 .sh) = true := by decide +kernel
theorem ck_count_fillings : ckDef cst d_count_fillings f_count_fillings (cst.R.getD 1 .sh) = true := by decide +kernel
theorem ck_shapes : ckDef cst d_shapes f_shapes (cst.R.getD 2 .sh) = true := by decide +kernel
theorem ck__law_mixed : ckDef cst d__law_mixed f__law_mixed (cst.R.getD 3 .sh) = true := by decide +kernel
theorem ck__law_row : ckDef cst d__law_row f__law_row (cst.R.getD 4 .sh) = true := by decide +kernel
theorem ck__law_is_int : ckDef cst d__law_is_int f__law_is_int (cst.R.getD 5 .sh) = true := by decide +kernel
theorem ck__law_like : ckDef cst d__law_like f__law_like (cst.R.getD 6 .sh) = true := by decide +kernel
theorem ck__law_shapes : ckDef cst d__law_shapes f__law_shapes (cst.R.getD 7 .sh) = true := by decide +kernel
theorem ck__law_fillings : ckDef cst d__law_fillings f__law_fillings (cst.R.getD 8 .sh) = true := by decide +kernel
theorem ck_law : ckDef cst d_law f_law (cst.R.getD 9 .sh) = true := by decide +kernel
theorem ck : ckAll cst defs prog 0 = true := by
  simp only [ckAll, defs, prog, ck_turned_shape, ck_count_fillings, ck_shapes, ck__law_mixed, ck__law_row, ck__law_is_int, ck__law_like, ck__law_shapes, ck__law_fillings, ck_law, Nat.zero_add, Nat.reduceAdd, Bool.and_self]
theorem fns : cst.fns = defs.map DefT.x := rfl
theorem pure : ∀ ns : List Int, ns.length ≤ 63 → Orp.run prog 12 9 [.list (ns.map .int)] = some (.bool true) := fun ns _ =>
  Orp.Shp.pure25 ns

end Lk25
open PySem PySem.W PyProof.Rows
set_option maxHeartbeats 0 in
theorem PySem.Challenge.cw_orderstold_k25_shapes_holds : PySem.Challenge.rw_orderstold_k25_shapes.Holds := by
  w_on; o_law; k_head; (case hw => w_witness2)
  k_fill
  refine L2.walk_of (l := PySem.Challenge.rw_orderstold_k25_shapes) (n := 63) (k := 36) (x := "script") (CX := fun _ => L2.CX0) (sp := fun w => Orp.spP _ .sh (Orp.run Lk25.prog 12 9)) rfl (by decide) rfl ⟨rfl, by decide, by decide⟩ (fun w h Y => PySem.W.kIn_of Y) ?F (fun _ H a ns hl _ hS => Orp.law_sp Lk25.pure H a ns hl hS) (fun _ _ _ _ _ h => h)
  case F =>
    intro w mg fa h KX G hmg
    refine Orp.law_F (C0 := Lk25.cst) (Ps := Lk25.prog) (ds := Lk25.defs) (d := Lk25.d_law) 12 9 Lk25.fns Lk25.ck rfl rfl rfl KX G hmg ?A ?B ?C
    case A =>
      refine' ⟨Orp.defK_mk "turned_shape" (Lk25.topS 1) ["shape", "most", "column", "length"] 1 ["shape"] rfl ?a0 ?l0 ?c0 ?k0 (fun _ _ _ _ _ _ us hl => match us, hl with | [_], _ => rfl), Orp.defK_mk "count_fillings" (Lk25.topS 2) ["shape", "columns", "product", "hooks", "count", "row", "length", "column"] 1 ["shape"] rfl ?a1 ?l1 ?c1 ?k1 (fun _ _ _ _ _ _ us hl => match us, hl with | [_], _ => rfl), Orp.defK_mk "shapes" (Lk25.topS 3) ["total", "rows", "found", "grown", "row", "left", "most", "length"] 1 ["total"] rfl ?a2 ?l2 ?c2 ?k2 (fun _ _ _ _ _ _ us hl => match us, hl with | [_], _ => rfl), Orp.defK_mk "_law_mixed" (Lk25.topS 5) ["script", "k", "cell", "first", "second", "third"] 2 ["script", "k"] rfl ?a3 ?l3 ?c3 ?k3 (fun _ _ _ _ _ _ us hl => match us, hl with | [_, _], _ => rfl), Orp.defK_mk "_law_row" (Lk25.topS 6) ["script", "many", "big", "row", "k"] 2 ["script", "many"] rfl ?a4 ?l4 ?c4 ?k4 (fun _ _ _ _ _ _ us hl => match us, hl with | [_, _], _ => rfl), Orp.defK_mk "_law_is_int" (Lk25.topS 7) ["value"] 1 ["value"] rfl ?a5 ?l5 ?c5 ?k5 (fun _ _ _ _ _ _ us hl => match us, hl with | [_], _ => rfl), Orp.defK_mk "_law_like" (Lk25.topS 8) ["value", "due", "k"] 2 ["value", "due"] rfl ?a6 ?l6 ?c6 ?k6 (fun _ _ _ _ _ _ us hl => match us, hl with | [_, _], _ => rfl), Orp.defK_mk "_law_shapes" (Lk25.topS 9) ["total", "most", "found", "length", "rest"] 2 ["total", "most"] rfl ?a7 ?l7 ?c7 ?k7 (fun _ _ _ _ _ _ us hl => match us, hl with | [_, _], _ => rfl), Orp.defK_mk "_law_fillings" (Lk25.topS 10) ["shape", "known", "total", "k", "less", "part"] 2 ["shape", "known"] rfl ?a8 ?l8 ?c8 ?k8 (fun _ _ _ _ _ _ us hl => match us, hl with | [_, _], _ => rfl), Orp.defK_mk "law" (Lk25.topS 11) ["script", "row", "total", "due", "known", "squares", "product", "k", "one", "number", "columns", "part"] 1 ["script"] rfl ?a9 ?l9 ?c9 ?k9 (fun _ _ _ _ _ _ us hl => match us, hl with | [_], _ => rfl), trivial⟩
      (case a0 => k_is); (case l0 => k_is); (case c0 => k_is); (case k0 => k_is); (case a1 => k_is); (case l1 => k_is); (case c1 => k_is); (case k1 => k_is); (case a2 => k_is); (case l2 => k_is); (case c2 => k_is); (case k2 => k_is); (case a3 => k_is); (case l3 => k_is); (case c3 => k_is); (case k3 => k_is); (case a4 => k_is); (case l4 => k_is); (case c4 => k_is); (case k4 => k_is); (case a5 => k_is); (case l5 => k_is); (case c5 => k_is); (case k5 => k_is); (case a6 => k_is); (case l6 => k_is); (case c6 => k_is); (case k6 => k_is); (case a7 => k_is); (case l7 => k_is); (case c7 => k_is); (case k7 => k_is); (case a8 => k_is); (case l8 => k_is); (case c8 => k_is); (case k8 => k_is); (case a9 => k_is); (case l9 => k_is); (case c9 => k_is); (case k9 => k_is)
    case B =>
      refine' ⟨?b0, ?b1, ?b2, ?b3, ?b4, ?b5, ?b6, ?b7, ?b8, ?b9, ?b10, ?b11, ?b12, ?b13, ?b14, ?b15, ?b16, trivial⟩
      (case b0 => k_is); (case b1 => k_is); (case b2 => k_is); (case b3 => k_is); (case b4 => k_is); (case b5 => k_is); (case b6 => k_is); (case b7 => k_is); (case b8 => k_is); (case b9 => k_is); (case b10 => k_is); (case b11 => k_is); (case b12 => k_is); (case b13 => k_is); (case b14 => k_is); (case b15 => k_is); (case b16 => k_is)
    case C =>
      trivial

