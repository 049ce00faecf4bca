import PyProof.Rows.All
import Wide.All
import OpenK.AllK
import Wide.FinOn
import HandS.ForMost
import KE.SortData
import HandS.TupAny
import HandS.TupMul
import HandS.IsInst
import HandS.Wide
import HandS.Deep
import HandS.Conv
import KE.KTupSum
import KE.GoesEnum
import HandS.Codes
import HandS.Small
import HandS.Style
import HandS.Ends
import HandS.HeadHook1
import HandS.HeadHook2
import HandS.Head0
import HandS.Head1
import HandS.Head2
import PySem.Challenge.RW_evenlags_k02_whole_covers
set_option Elab.async false
set_option linter.all false
set_option maxRecDepth 100000
set_option maxHeartbeats 0
section -- Core
/-! Core: a small language, its values and its evaluator. -/
namespace Ev
open PySem
noncomputable section

/-- values: tuples and frozen lists and dicts by value; ref: a thing in the store -/
inductive PV where
  | non | bl (b : Bool) | int (i : Int) | str (s : Str)
  | tup (xs : List PV) | lst (xs : List PV) | dct (ks vs : List PV) | ref (i : Nat) | scr (xs : List PV)
  deriving Inhabited
/-- what stands in the store -/
inductive MO where
  | ins (c : Nat) (fs : List (Str × PV)) | lst (xs : List PV) | dct (ks vs : List PV)
  deriving Inhabited
abbrev Mem := List MO
inductive Slot where
  | non | val (v : PV) | own (xs : List PV) | ownD (ks vs : List PV)
  deriving Inhabited
abbrev Slots := List Slot
abbrev R (α : Type) := Option (α × Mem)

mutual
def toD : PV → PyData
  | .non => .none
  | .bl b => .bool b
  | .int i => .int i
  | .str s => .str s
  | .tup xs => .tuple (toDs xs)
  | .lst xs => .list (toDs xs)
  | .dct _ _ => .dict []
  | .ref _ => .dict []
  | .scr _ => .dict []
def toDs : List PV → List PyData
  | [] => []
  | x :: xs => toD x :: toDs xs
end
theorem toDs_eq (xs : List PV) : toDs xs = xs.map toD := by
  induction xs with
  | nil => rfl
  | cons x xs ih => rw [toDs, ih] <;> rfl
/-- plain data of a depth: no store, no dicts -/
def isD : Nat → PV → Bool
  | _, .non => true
  | _, .bl _ => true
  | _, .int _ => true
  | _, .str s => PyData.strOk s
  | n + 1, .tup xs => xs.all (isD n)
  | n + 1, .lst xs => xs.all (isD n)
  | _, _ => false
/-- no store below a depth -/
def noRef : Nat → PV → Bool
  | _, .non => true
  | _, .bl _ => true
  | _, .int _ => true
  | _, .str _ => true
  | n + 1, .tup xs => xs.all (noRef n)
  | n + 1, .lst xs => xs.all (noRef n)
  | n + 1, .dct ks vs => ks.all (noRef n) && vs.all (noRef n)
  | _, _ => false
/-- == of data -/
def eqv (a b : PV) : Bool := PyData.eqv (toD a) (toD b)
def isNon : PV → Bool
  | .non => true
  | _ => false
def flat : PV → Bool
  | .non => true
  | .bl _ => true
  | .int _ => true
  | .str _ => true
  | _ => false
/-- scalars: compared without a look at the depth -/
def scal : PV → Bool
  | .non => true
  | .bl _ => true
  | .int _ => true
  | .str s => PyData.strOk s
  | _ => false

inductive BOp where
  | add | sub | mul | fdiv | mod | pow
  deriving DecidableEq
inductive COp where
  | eq | ne | lt | le | gt | ge | is | isnot | isin | notin
  deriving DecidableEq
inductive Ty where
  | int | bool | str | tup | lst | dct
  deriving DecidableEq
inductive Bi where
  | len | sum | max | min | max2 | min2 | all | any | tupOf | listOf | sorted | intOf | strOf | reprOf | sortedSet
  deriving DecidableEq

/-- expressions; lists of expressions (nil, cons); what a loop walks (rng1 .. zip) -/
inductive E where
  | var (i : Nat) | cst (v : PV) | glo (x : Str) (v : PV)
  | bin (op : BOp) (a b : E) | neg (a : E) | no (a : E) | and (a b : E) | or (a b : E)
  | cmp (op : COp) (a b : E) | cmp2 (o1 o2 : COp) (a b c : E) | ite (c a b : E)
  | tup (es : E) | call (f : Nat) (es : E) | callB (f : Nat) (es : E) | meth (c : Nat) (m : Str) (f : Nat) (o es : E) | make (c f : Nat) (es : E)
  | idx (a b : E) | slc (a lo hi : E) | fld (a : E) (f : Str)
  | bi (b : Bi) (es : E) | isi (a : E) (t : Ty)
  | nil | cons (a b : E)
  | disp (es : E) | comp (elt it cond tg : E) (own : List Nat) | comp2 (elt it it2 cond tg tg2 : E) (own : List Nat)
  | dkeys (elt it cond tg : E) (own : List Nat) | box (e : E) | boxD (ks : List Str) (es : E)
  | rngl (a b : E) (one tp : Bool)
  | seq (a : E) | rng1 (a : E) | rng2 (a b : E) | enum (a : E) | zip (a b : E)

/-- statements; blocks (nil, cons) -/
inductive S where
  | asg (i : Nat) (e : E) | own (i : Nat) (e : E) | ownD (i : Nat) | frz (i : Nat)
  | par (is : List (Nat × Bool)) (es : E) | multi (ts : E) (e : E)
  | set (t e : E) | augN (i : Nat) (e : E) | augS (t e : E)
  | app (i : Nat) (e : E) | ext (i : Nat) (e : E) | appPop (i j : Nat) (e : E) | appR (o e : E)
  | ex (e : E) | ite (c : E) (a b : S) | for (tg it : E) (b : S) | whl (c : E) (b : S)
  | ret (e : E) | retN | rai
  | nil | cons (a b : S)

inductive Out where
  | nx (ρ : Slots) (M : Mem) | rt (v : PV) (M : Mem)

def bnd {α β : Type} (r : R α) (k : α → Mem → Option β) : Option β := match r with
  | some (a, M) => k a M
  | none => none
@[simp] theorem bnd_some {α β : Type} (a : α) (M : Mem) (k : α → Mem → Option β) : bnd (some (a, M)) k = k a M := rfl
@[simp] theorem bnd_none {α β : Type} (k : α → Mem → Option β) : bnd none k = none := rfl
theorem bnd_inv {α β : Type} {r : R α} {k : α → Mem → Option β} {z : β} (h : bnd r k = some z) : ∃ a M, r = some (a, M) ∧ k a M = some z := by
  cases r with
  | none => cases h
  | some p => exact ⟨p.1, p.2, rfl, h⟩

/-! ### values -/
def at? {α : Type} (xs : List α) (i : Int) : Option α := L2.atI xs i
def sl {α : Type} (xs : List α) (lo hi : Option Int) : List α := (xs.drop (HT.sIx xs.length 0 lo)).take (HT.sIx xs.length xs.length hi - HT.sIx xs.length 0 lo)
/-- sizes of products and quotients -/
def mulOk (i j : Int) : Bool := decide (i.natAbs.log2 < 64) || decide (j.natAbs.log2 < 64) || decide (i.natAbs.log2 + j.natAbs.log2 < 1000000)
def binV : BOp → PV → PV → Option PV
  | .add, .int i, .int j => some (.int (i + j))
  | .add, .str i, .str j => if i.length + j.length ≤ sizeLine then some (.str (i ++ j)) else none
  | .add, .tup xs, .tup ys => if xs.length + ys.length ≤ sizeLine then some (.tup (xs ++ ys)) else none
  | .add, .scr xs, .lst ys => if xs.length + ys.length ≤ sizeLine then some (.lst (xs ++ ys)) else none
  | .add, .lst xs, .lst ys => if xs.length + ys.length ≤ sizeLine then some (.lst (xs ++ ys)) else none
  | .sub, .int i, .int j => some (.int (i - j))
  | .mul, .int i, .int j => if mulOk i j then some (.int (i * j)) else none
  | .mul, .lst xs, .int k => if k.natAbs.log2 < 63 ∧ xs.length * k.toNat ≤ sizeLine then some (.lst (List.replicate k.toNat xs).flatten) else none
  | .mul, .tup xs, .int k => if -1000 ≤ k ∧ k ≤ 1000 ∧ xs.length ≤ 1000 then some (.tup (List.replicate k.toNat xs).flatten) else none
  | .fdiv, .int i, .int j => if 0 < j ∧ j.natAbs.log2 < 9000 then some (.int (i / j)) else none
  | .mod, .int i, .int j => if 0 < j then some (.int (i % j)) else none
  | .pow, .int i, .int j => if 0 ≤ j ∧ j ≤ 1000000 ∧ i.natAbs < 2 ^ 64 then some (.int (i ^ j.toNat)) else none
  | _, _, _ => none
def ltI : PV → PV → Option (Int × Int)
  | .int i, .int j => some (i, j)
  | _, _ => none
/-- < of tuples of ints -/
def ints? : List PV → Option (List Int)
  | [] => some []
  | .int i :: r => (ints? r).map (i :: ·)
  | _ => none
def dget : List PV → List PV → PV → Option PV
  | k :: ks, v :: vs, x => if eqv k x then some v else dget ks vs x
  | _, _, _ => none
def keyOk : PV → Bool
  | .int _ => true
  | .str _ => true
  | _ => false
/-- what a thing that is looked into holds, at depth 0 -/
def look (M : Mem) : PV → Option (List PV)
  | .lst xs => some xs
  | .tup xs => some xs
  | .ref i => match M[i]? with
    | some (.lst xs) => some xs
    | _ => none
  | _ => none
def inV (M : Mem) (x y : PV) : Option Bool := match y with
  | .dct ks _ => if keyOk x then some (ks.any fun k => eqv k x) else none
  | .ref i => match M[i]? with
    | some (.dct ks _) => if keyOk x then some (ks.any fun k => eqv k x) else none
    | some (.lst xs) => if isD 60 x && xs.all (isD 59) then some (xs.any fun k => eqv k x) else none
    | _ => none
  | .lst xs => if isD 60 x && xs.all (isD 59) then some (xs.any fun k => eqv k x) else none
  | .tup xs => if flat x && xs.all flat then some (xs.any fun k => eqv k x) else none
  | .str s => match x with
    | .str c => some (!(Builtin.Str.occurrences s c 0 s.length 1).isEmpty)
    | _ => none
  | _ => none
def cmpV (M : Mem) : COp → PV → PV → Option Bool
  | .eq, a, b => if (scal a || isD 60 a) && (scal b || isD 60 b) then some (eqv a b) else none
  | .ne, a, b => if (scal a || isD 60 a) && (scal b || isD 60 b) then some (!eqv a b) else none
  | .lt, .int i, .int j => some (decide (i < j))
  | .lt, .tup xs, .tup ys => (ints? xs).bind fun a => (ints? ys).bind fun b => some (HT.lexLt a b)
  | .le, .int i, .int j => some (decide (i ≤ j))
  | .gt, .int i, .int j => some (decide (j < i))
  | .ge, .int i, .int j => some (decide (j ≤ i))
  | .is, a, .non => some (isNon a)
  | .isnot, a, .non => some (!isNon a)
  | .isin, a, b => inV M a b
  | .notin, a, b => (inV M a b).map (!·)
  | _, _, _ => none
def idxV (M : Mem) : PV → PV → Option PV
  | .str s, .int i => if s.length ≤ sizeLine then (at? s.cps.toList i).map fun c => .str ⟨#[c]⟩ else none
  | .dct ks vs, k => if keyOk k then dget ks vs k else none
  | .lst xs, .int i => at? xs i
  | .tup xs, .int i => at? xs i
  | .ref j, k => match M[j]? with
    | some (.lst xs) => (match k with
      | .int i => at? xs i
      | _ => none)
    | some (.dct ks vs) => if keyOk k then dget ks vs k else none
    | _ => none
  | _, _ => none
def slcO : PV → Option Int → Option Int → Option PV
  | .tup xs, l, h => some (.tup (sl xs l h))
  | .lst xs, l, h => some (.lst (sl xs l h))
  | .str s, l, h => if s.length ≤ sizeLine then some (.str (L2.cutS s l h)) else none
  | _, _, _ => none
/-- a bound's expression and its value -/
def boundE (e : E) (v : PV) : Option (Option Int) := match e with
  | .cst .non => some none
  | _ => (match v with
    | .int i => some (some i)
    | _ => none)
def slcV (lo hi : E) (x l h : PV) : Option PV := (boundE lo l).bind fun l => (boundE hi h).bind fun h => slcO x l h
def fldV (M : Mem) (f : Str) : PV → Option PV
  | .ref i => match M[i]? with
    | some (.ins _ fs) => fs.lookup f
    | _ => none
  | _ => none
def bools? : List PV → Option (List Bool)
  | [] => some []
  | .bl b :: r => (bools? r).map (b :: ·)
  | _ => none
def maxL : List Int → Option Int
  | [] => none
  | x :: xs => some (xs.foldl (fun a b => if b > a then b else a) x)
def minL : List Int → Option Int
  | [] => none
  | x :: xs => some (xs.foldl (fun a b => if b < a then b else a) x)
def sortV (xs : List PV) : List PV := xs.mergeSort (PySem.W.dataLe false toD)
/-- what may be sorted: ints; texts; tuples with an item, alike at each place -/
def alikeB (xs : List PV) : Bool := xs.all fun x => xs.all fun y => PySem.W.alike (toD x) (toD y)
def tupsB (xs : List PV) : Bool := (xs.all fun x => match x with
    | .tup (_ :: _) => true
    | _ => false) || xs.all fun x => match x with
    | .int _ => true
    | .str _ => true
    | _ => false
def biV (M : Mem) : Bi → List PV → Option PV
  | .len, [x] => match x with
    | .str s => if s.length ≤ sizeLine then some (.int s.length) else none
    | .dct ks _ => some (.int ks.length)
    | .ref i => (match M[i]? with
      | some (.dct ks _) => some (.int ks.length)
      | some (.lst xs) => some (.int xs.length)
      | _ => none)
    | x => (look M x).map fun xs => .int xs.length
  | .sum, [.lst xs] => (ints? xs).map fun ns => .int ns.sum
  | .sum, [.tup xs] => (ints? xs).map fun ns => .int ns.sum
  | .max, [.lst xs] => (ints? xs).bind fun ns => (maxL ns).map .int
  | .min, [.lst xs] => (ints? xs).bind fun ns => (minL ns).map .int
  | .max2, [.int i, .int j] => some (.int (if j > i then j else i))
  | .min2, [.int i, .int j] => some (.int (if j < i then j else i))
  | .all, [.lst xs] => (bools? xs).map fun bs => .bl (bs.all id)
  | .any, [.lst xs] => (bools? xs).map fun bs => .bl (bs.any id)
  | .tupOf, [x] => (look M x).map .tup
  | .listOf, [x] => (look M x).map .lst
  | .intOf, [.bl b] => some (.int (if b then 1 else 0))
  | .intOf, [.int i] => some (.int i)
  | .reprOf, [x] => if isD 60 x && ((toD x).showable && decide ((toD x).shown.length ≤ sizeLine)) then some (.str (toD x).shown) else none
  | .sorted, [.lst xs] => if tupsB xs && (alikeB xs && xs.all (isD 60)) then some (.lst (sortV xs)) else none
  | _, _ => none
def tyV (M : Mem) : Ty → PV → Option Bool
  | t, v => match v with
    | .non => some false
    | .bl _ => some (t == .bool || t == .int)
    | .int _ => some (t == .int)
    | .str _ => some (t == .str)
    | .tup _ => some (t == .tup)
    | .lst _ => some (t == .lst)
    | .dct _ _ => some (t == .dct)
    | .ref _ => none
    | .scr _ => none
def slotOf (ρ : Slots) (i : Nat) : Option PV := match ρ[i]? with
  | some (.val v) => some v
  | _ => none
/-- a value that is only looked at: a local list of one's own may be read so -/
def bor (ρ : Slots) (M : Mem) : E → R PV → R PV
  | .var i, r => match ρ[i]? with
    | some (.own xs) => some (.lst xs, M)
    | some (.ownD ks vs) => some (.dct ks vs, M)
    | _ => r
  | _, r => r
def wipeL (ρ : Slots) : List Nat → Slots
  | [] => ρ
  | v :: vs => (wipeL ρ vs).set v .non
/-! the targets of a loop: a name (var), a tuple of targets -/
mutual
def setTg : E → PV → Slots → Option Slots
  | .var i, v, ρ => some (ρ.set i (.val v))
  | .tup es, .tup vs, ρ => setTgs es vs ρ
  | _, _, _ => none
def setTgs : E → List PV → Slots → Option Slots
  | .nil, [], ρ => some ρ
  | .cons a b, v :: vs, ρ => (setTg a v ρ).bind fun ρ1 => setTgs b vs ρ1
  | _, _, _ => none
end
def tgN : E → List Nat
  | .var i => [i]
  | .tup es => tgN es
  | .cons a b => tgN a ++ tgN b
  | _ => []
def pairs (n : Nat) : List PV → List PV
  | [] => []
  | x :: xs => .tup [.int n, x] :: pairs (n + 1) xs
def zipV (xs ys : List PV) : List PV := (xs.zip ys).map fun p => .tup [p.1, p.2]
def rangeV (a b : Int) : List PV := (List.range (b - a).toNat).map fun (i : Nat) => .int (a + (i : Nat))
def smallI (i : Int) : Bool := decide (i.natAbs.log2 < 62)
theorem log2_abs {i : Int} {k : Nat} (h : i.natAbs.log2 < k) : -(2 ^ k : Int) < i ∧ i < (2 ^ k : Int) := by
  have hk : i.natAbs < 2 ^ k := by
    by_cases e : i.natAbs = 0
    · rw [e]
      exact Nat.two_pow_pos k
    · exact (Nat.log2_lt e).mp h
  have hk2 : ((i.natAbs : Nat) : Int) < (2 ^ k : Int) := by
    have := Int.ofNat_lt.mpr hk
    simpa using this
  omega
theorem smallI_b {i : Int} (h : smallI i = true) : -(2 ^ 62) ≤ i ∧ i < 2 ^ 62 := by
  have := log2_abs (of_decide_eq_true h)
  omega
abbrev CallF := Nat → List PV → Mem → R PV
/-- a comprehension's turns -/
def compL (tg : E) (cond elt : Slots → Mem → R PV) (ρ : Slots) : List PV → List PV → Mem → R (List PV)
  | [], acc, M => some (acc, M)
  | x :: xs, acc, M => (setTg tg x ρ).bind fun ρ1 => bnd (cond ρ1 M) fun b M1 => match b with
    | .bl true => bnd (elt ρ1 M1) fun v M2 => if acc.length < sizeLine then compL tg cond elt ρ xs (acc ++ [v]) M2 else none
    | .bl false => compL tg cond elt ρ xs acc M1
    | _ => none
def comp2L (tg tg2 : E) (it2 : Slots → Mem → R (List PV)) (cond elt : Slots → Mem → R PV) (ρ : Slots) : List PV → List PV → Mem → R (List PV)
  | [], acc, M => some (acc, M)
  | x :: xs, acc, M => (setTg tg x ρ).bind fun ρ1 => bnd (it2 ρ1 M) fun ys M1 => bnd (compL tg2 cond elt (wipeL ρ1 (tgN tg2)) ys acc M1) fun acc' M2 => comp2L tg tg2 it2 cond elt ρ xs acc' M2

def isOwn (ρ : Slots) : E → Bool
  | .var i => (match ρ[i]? with
    | some (.own _) => true
    | some (.ownD _ _) => true
    | _ => false)
  | _ => false
def itOwn (ρ : Slots) : E → Bool
  | .seq a => isOwn ρ a
  | .enum a => isOwn ρ a
  | .zip a b => isOwn ρ a || isOwn ρ b
  | _ => false
/-- nothing that could be a list of someone's own -/
def noLst : Nat → PV → Bool
  | _, .non => true
  | _, .bl _ => true
  | _, .int _ => true
  | _, .str _ => true
  | _, .ref _ => true
  | n + 1, .tup xs => xs.all (noLst n)
  | n + 1, .scr xs => xs.all (noLst n)
  | _, _ => false
def moNoLst (m : MO) : Bool := match m with
  | .ins _ fs => fs.all fun p => noLst 60 p.2
  | .lst xs => xs.all (noLst 60)
  | .dct _ vs => vs.all (noLst 60)
/-- a list made anew -/
def fresh : E → Bool
  | .disp _ => true
  | .comp .. => true
  | .comp2 .. => true
  | .bin .add _ _ => true
  | .bin .mul _ _ => true
  | .slc .. => true
  | .bi .listOf _ => true
  | .rngl _ _ _ tp => !tp
  | .bi .sorted _ => true
  | _ => false
open Classical in
mutual
def evE (cf : CallF) : E → Slots → Mem → R PV
  | .var i, ρ, M => (slotOf ρ i).map (·, M)
  | .cst v, _, M => some (v, M)
  | .glo _ v, _, M => some (v, M)
  | .bin op a b, ρ, M => bnd (bor ρ M a (evE cf a ρ M)) fun x M1 => bnd (bor ρ M1 b (evE cf b ρ M1)) fun y M2 => (binV op x y).map (·, M2)
  | .neg a, ρ, M => bnd (evE cf a ρ M) fun x M1 => match x with
    | .int i => some (.int (-i), M1)
    | _ => none
  | .no a, ρ, M => bnd (evE cf a ρ M) fun x M1 => match x with
    | .bl b => some (.bl (!b), M1)
    | _ => none
  | .and a b, ρ, M => bnd (evE cf a ρ M) fun x M1 => match x with
    | .bl true => evE cf b ρ M1
    | .bl false => some (.bl false, M1)
    | _ => none
  | .or a b, ρ, M => bnd (evE cf a ρ M) fun x M1 => match x with
    | .bl true => some (.bl true, M1)
    | .bl false => evE cf b ρ M1
    | _ => none
  | .cmp op a b, ρ, M => bnd (bor ρ M a (evE cf a ρ M)) fun x M1 => bnd (bor ρ M1 b (evE cf b ρ M1)) fun y M2 => (cmpV M2 op x y).map fun r => (.bl r, M2)
  | .cmp2 o1 o2 a b c, ρ, M => bnd (evE cf a ρ M) fun x M1 => bnd (evE cf b ρ M1) fun y M2 => (cmpV M2 o1 x y).bind fun r => match r with
    | true => bnd (evE cf c ρ M2) fun z M3 => (cmpV M3 o2 y z).map fun r => (.bl r, M3)
    | false => some (.bl false, M2)
  | .ite c a b, ρ, M => bnd (evE cf c ρ M) fun x M1 => match x with
    | .bl true => evE cf a ρ M1
    | .bl false => evE cf b ρ M1
    | _ => none
  | .tup es, ρ, M => bnd (evL cf es ρ M) fun xs M1 => if xs.length ≤ sizeLine then some (.tup xs, M1) else none
  | .call f es, ρ, M => bnd (evL cf es ρ M) fun xs M1 => cf f xs M1
  | .callB f es, ρ, M => bnd (evLB cf es ρ M) fun xs M1 => bnd (cf f xs M1) fun v M2 => if noLst 60 v = true ∧ M1.all moNoLst = true ∧ M2 = M1 then some (v, M1) else none
  | .meth c m f o es, ρ, M => bnd (evE cf o ρ M) fun x M1 => match x with
    | .ref i => bnd (evL cf es ρ M1) fun xs M2 => match M1[i]? with
      | some (.ins c' fs) => if c' = c ∧ (fs.lookup m).isNone = true then cf f (.ref i :: xs) M2 else none
      | _ => none
    | _ => none
  | .make c f es, ρ, M => bnd (evL cf es ρ M) fun xs M1 => bnd (cf f (.ref M1.length :: xs) (M1 ++ [.ins c []])) fun v M2 => match v with
    | .non => some (.ref M1.length, M2)
    | _ => none
  | .idx a b, ρ, M => bnd (bor ρ M a (evE cf a ρ M)) fun x M1 => bnd (evE cf b ρ M1) fun y M2 => (idxV M2 x y).map (·, M2)
  | .slc a lo hi, ρ, M => bnd (bor ρ M a (evE cf a ρ M)) fun x M1 => bnd (evE cf lo ρ M1) fun l M2 => bnd (evE cf hi ρ M2) fun h M3 => (slcV lo hi x l h).map (·, M3)
  | .fld a f, ρ, M => bnd (evE cf a ρ M) fun x M1 => (fldV M1 f x).map (·, M1)
  | .bi b es, ρ, M => bnd (evLB cf es ρ M) fun xs M1 => (biV M1 b xs).map (·, M1)
  | .isi a t, ρ, M => bnd (bor ρ M a (evE cf a ρ M)) fun x M1 => (tyV M1 t x).map fun b => (.bl b, M1)
  | .disp es, ρ, M => bnd (evL cf es ρ M) fun xs M1 => if xs.length ≤ sizeLine then some (.lst xs, M1) else none
  | .comp elt it cond tg own, ρ, M => bnd (evI cf it ρ M) fun items M1 => (compL tg (evE cf cond) (evE cf elt) (wipeL ρ own) items [] M1).map fun r => (.lst r.1, r.2)
  | .comp2 elt it it2 cond tg tg2 own, ρ, M => bnd (evI cf it ρ M) fun items M1 => (comp2L tg tg2 (fun ρ1 M1 => if itOwn ρ1 it2 then none else evI cf it2 ρ1 M1) (evE cf cond) (evE cf elt) (wipeL ρ own) items [] M1).map fun r => (.lst r.1, r.2)
  | .rngl a b one tp, ρ, M => bnd (evE cf a ρ M) fun x M1 => bnd (evE cf b ρ M1) fun y M2 => match x, y with
    | .int i, .int j => if smallI i && smallI j && decide ((j - i).toNat ≤ sizeLine) && (!one || decide (i = 0)) then some (if tp then .tup (rangeV i j) else .lst (rangeV i j), M2) else none
    | _, _ => none
  | .dkeys elt it cond tg own, ρ, M => none
  | .box e, ρ, M => if fresh e then bnd (evE cf e ρ M) fun v M1 => match v with
      | .lst xs => some (.ref M1.length, M1 ++ [.lst xs])
      | _ => none
    else none
  | .boxD ks es, ρ, M => if ks.Nodup ∧ ks.length ≤ 15 then bnd (evL cf es ρ M) fun xs M1 => if xs.length = ks.length then some (.ref M1.length, M1 ++ [.dct (ks.map .str) xs]) else none else none
  | .nil, _, _ => none
  | .cons _ _, _, _ => none
  | .seq _, _, _ => none
  | .rng1 _, _, _ => none
  | .rng2 _ _, _, _ => none
  | .enum _, _, _ => none
  | .zip _ _, _, _ => none
def evL (cf : CallF) : E → Slots → Mem → R (List PV)
  | .nil, _, M => some ([], M)
  | .cons a b, ρ, M => bnd (evE cf a ρ M) fun x M1 => bnd (evL cf b ρ M1) fun xs M2 => some (x :: xs, M2)
  | _, _, _ => none
def evLB (cf : CallF) : E → Slots → Mem → R (List PV)
  | .nil, _, M => some ([], M)
  | .cons a b, ρ, M => bnd (bor ρ M a (evE cf a ρ M)) fun x M1 => bnd (evLB cf b ρ M1) fun xs M2 => some (x :: xs, M2)
  | _, _, _ => none
def evI (cf : CallF) : E → Slots → Mem → R (List PV)
  | .rng1 a, ρ, M => bnd (evE cf a ρ M) fun x M1 => match x with
    | .int j => if smallI j then some (rangeV 0 j, M1) else none
    | _ => none
  | .rng2 a b, ρ, M => bnd (evE cf a ρ M) fun x M1 => bnd (evE cf b ρ M1) fun y M2 => match x, y with
    | .int i, .int j => if smallI i && smallI j then some (rangeV i j, M2) else none
    | _, _ => none
  | .enum a, ρ, M => bnd (bor ρ M a (evE cf a ρ M)) fun x M1 => match x with
    | .lst xs => some (pairs 0 xs, M1)
    | .tup xs => some (pairs 0 xs, M1)
    | _ => none
  | .zip a b, ρ, M => bnd (bor ρ M a (evE cf a ρ M)) fun x M1 => bnd (bor ρ M1 b (evE cf b ρ M1)) fun y M2 => match x, y with
    | .lst xs, .lst ys => some (zipV xs ys, M2)
    | .tup xs, .lst ys => some (zipV xs ys, M2)
    | .lst xs, .tup ys => some (zipV xs ys, M2)
    | .tup xs, .tup ys => some (zipV xs ys, M2)
    | _, _ => none
  | .seq a, ρ, M => bnd (bor ρ M a (evE cf a ρ M)) fun x M1 => match x with
    | .lst xs => some (xs, M1)
    | .tup xs => some (xs, M1)
    | _ => none
  | _, _, _ => none
end

/-! ### statements -/
def freshAll : List (Nat × Bool) → E → Bool
  | [], .nil => true
  | (_, b) :: is, .cons a r => (!b || fresh a) && freshAll is r
  | _, _ => false
def setPar (ρ : Slots) : List (Nat × Bool) → List PV → Option Slots
  | [], [] => some ρ
  | (i, false) :: is, v :: vs => setPar (ρ.set i (.val v)) is vs
  | (i, true) :: is, .lst xs :: vs => setPar (ρ.set i (.own xs)) is vs
  | _, _ => none
def dmap : List PV → List PV → PV → PV → List PV
  | k :: ks, v :: vs, x, y => (if eqv k x then y else v) :: dmap ks vs x y
  | _, vs, _, _ => vs
def dput (ks vs : List PV) (x y : PV) : List PV × List PV := if (ks.any fun k => eqv k x) then (ks, dmap ks vs x y) else (ks ++ [x], vs ++ [y])
/-- what a store into a list, a dict leaves -/
def lset (xs : List PV) (k v : PV) : Option (List PV) := match k with
  | .int i => (L2.ixN xs.length i).map fun j => xs.set j v
  | _ => none
def setItemV (M : Mem) (x k v : PV) : Option Mem := match x with
  | .ref j => (match M[j]? with
    | some (.lst xs) => (lset xs k v).map fun ys => M.set j (.lst ys)
    | some (.dct ks vs) => if keyOk k && decide (ks.length < sizeLine) then some (M.set j (.dct (dput ks vs k v).1 (dput ks vs k v).2)) else none
    | _ => none)
  | _ => none
def setSlotV (ρ : Slots) (i : Nat) (k v : PV) : Option Slots := match ρ[i]? with
  | some (.own xs) => (lset xs k v).map fun ys => ρ.set i (.own ys)
  | some (.ownD ks vs) => if keyOk k && decide (ks.length < sizeLine) then some (ρ.set i (.ownD (dput ks vs k v).1 (dput ks vs k v).2)) else none
  | _ => none
def putF (f : Str) (v : PV) : List (Str × PV) → List (Str × PV)
  | [] => [(f, v)]
  | (g, w) :: r => if g = f then (g, v) :: r else (g, w) :: putF f v r
def setFldV (M : Mem) (x : PV) (f : Str) (v : PV) : Option Mem := match x with
  | .ref j => (match M[j]? with
    | some (.ins c fs) => if fs.length < 900 then some (M.set j (.ins c (putF f v fs))) else none
    | _ => none)
  | _ => none
def ipV (op : BOp) (x y : PV) : Option PV := match op, x, y with
  | .add, .int i, .int j => some (.int (i + j))
  | _, _, _ => none
def asgT (cf : CallF) (v : PV) : E → Slots → Mem → Option (Slots × Mem)
  | .var i, ρ, M => some (ρ.set i (.val v), M)
  | .idx (.var i) k, ρ, M => match ρ[i]? with
    | some (.val x) => bnd (evE cf k ρ M) fun kv M1 => (setItemV M1 x kv v).map (ρ, ·)
    | _ => bnd (evE cf k ρ M) fun kv M1 => (setSlotV ρ i kv v).map (·, M1)
  | .idx o k, ρ, M => bnd (evE cf o ρ M) fun x M1 => bnd (evE cf k ρ M1) fun kv M2 => (setItemV M2 x kv v).map (ρ, ·)
  | .fld o f, ρ, M => bnd (evE cf o ρ M) fun x M1 => (setFldV M1 x f v).map (ρ, ·)
  | _, _, _ => none
/-- t += e -/
def augT (cf : CallF) : E → E → Slots → Mem → Option (Slots × Mem)
  | .idx (.var i) k, e, ρ, M => match ρ[i]? with
    | some (.val x) => bnd (evE cf k ρ M) fun kv M1 => (idxV M1 x kv).bind fun old => bnd (evE cf e ρ M1) fun y M2 => (ipV .add old y).bind fun z => (setItemV M2 x kv z).map (ρ, ·)
    | some (.own xs) => bnd (evE cf k ρ M) fun kv M1 => (idxV M1 (.lst xs) kv).bind fun old => bnd (evE cf e ρ M1) fun y M2 => (ipV .add old y).bind fun z => (setSlotV ρ i kv z).map (·, M2)
    | _ => none
  | .idx o k, e, ρ, M => bnd (evE cf o ρ M) fun x M1 => bnd (evE cf k ρ M1) fun kv M2 => (idxV M2 x kv).bind fun old => bnd (evE cf e ρ M2) fun y M3 => (ipV .add old y).bind fun z => (setItemV M3 x kv z).map (ρ, ·)
  | .fld o f, e, ρ, M => bnd (evE cf o ρ M) fun x M1 => (fldV M1 f x).bind fun old => bnd (evE cf e ρ M1) fun y M2 => (ipV .add old y).bind fun z => (setFldV M2 x f z).map (ρ, ·)
  | _, _, _, _ => none
def asgMany (cf : CallF) : E → List PV → Slots → Mem → Option (Slots × Mem)
  | .nil, [], ρ, M => some (ρ, M)
  | .cons t ts, v :: vs, ρ, M => (asgT cf v t ρ M).bind fun r => asgMany cf ts vs r.1 r.2
  | _, _, _, _ => none
def forL (tg : E) (body : Slots → Mem → Option Out) : List PV → Slots → Mem → Option Out
  | [], ρ, M => some (.nx ρ M)
  | x :: xs, ρ, M => (setTg tg x ρ).bind fun ρ1 => match body ρ1 M with
    | some (.nx ρ2 M2) => forL tg body xs ρ2 M2
    | r => r
def loopV (c : Slots → Mem → R PV) (b : Slots → Mem → Option Out) (ρ : Slots) (M : Mem) : Option Out :=
  match c ρ M with
  | some (.bl true, M1) => (match b ρ M1 with
    | some (.nx ρ2 M2) => loopV c b ρ2 M2
    | some (.rt v M2) => some (.rt v M2)
    | none => none)
  | some (.bl false, M1) => some (.nx ρ M1)
  | _ => none partial_fixpoint
def evS (cf : CallF) : S → Slots → Mem → Option Out
  | .asg i e, ρ, M => bnd (evE cf e ρ M) fun v M1 => some (.nx (ρ.set i (.val v)) M1)
  | .own i e, ρ, M => if fresh e then bnd (evE cf e ρ M) fun v M1 => match v with
      | .lst xs => some (.nx (ρ.set i (.own xs)) M1)
      | _ => none
    else none
  | .ownD i, ρ, M => some (.nx (ρ.set i (.ownD [] [])) M)
  | .frz i, ρ, M => match ρ[i]? with
    | some (.own xs) => some (.nx (ρ.set i (.val (.lst xs))) M)
    | some (.ownD ks vs) => some (.nx (ρ.set i (.val (.dct ks vs))) M)
    | some (.val v) => some (.nx ρ M)
    | _ => none
  | .par is es, ρ, M => if freshAll is es then bnd (evL cf es ρ M) fun vs M1 => (setPar ρ is vs).map (.nx · M1) else none
  | .multi ts e, ρ, M => bnd (evE cf e ρ M) fun v M1 => match v with
    | .tup xs => (asgMany cf ts xs ρ M1).map fun r => .nx r.1 r.2
    | _ => none
  | .set t e, ρ, M => bnd (evE cf e ρ M) fun v M1 => (asgT cf v t ρ M1).map fun r => .nx r.1 r.2
  | .augN i e, ρ, M => (slotOf ρ i).bind fun x => bnd (evE cf e ρ M) fun y M1 => (ipV .add x y).map fun z => .nx (ρ.set i (.val z)) M1
  | .augS t e, ρ, M => (augT cf t e ρ M).map fun r => .nx r.1 r.2
  | .app i e, ρ, M => match ρ[i]? with
    | some (.own xs) => bnd (evE cf e ρ M) fun v M1 => if xs.length < sizeLine then some (.nx (ρ.set i (.own (xs ++ [v]))) M1) else none
    | _ => none
  | .ext i e, ρ, M => match ρ[i]? with
    | some (.own xs) => bnd (evE cf e ρ M) fun v M1 => (match v with
      | .lst ys => if xs.length + ys.length ≤ sizeLine then some (.nx (ρ.set i (.own (xs ++ ys))) M1) else none
      | _ => none)
    | _ => none
  | .appPop i j e, ρ, M => match ρ[i]?, ρ[j]? with
    | some (.own xs), some (.own ys) => if i = j then none else bnd (evE cf e ρ M) fun v M1 => (match v with
      | .int k => if !(smallI k) then none else (L2.ixN ys.length k).bind fun n => (ys[n]?).bind fun y => if xs.length < sizeLine then some (.nx ((ρ.set j (.own (ys.eraseIdx n))).set i (.own (xs ++ [y]))) M1) else none
      | _ => none)
    | _, _ => none
  | .appR o e, ρ, M => bnd (evE cf o ρ M) fun x M1 => match x with
    | .ref j => (match M1[j]? with
      | some (.lst _) => bnd (evE cf e ρ M1) fun v M2 => (match M2[j]? with
        | some (.lst xs) => if xs.length < sizeLine then some (.nx ρ (M2.set j (.lst (xs ++ [v])))) else none
        | _ => none)
      | _ => none)
    | _ => none
  | .ex e, ρ, M => bnd (evE cf e ρ M) fun _ M1 => some (.nx ρ M1)
  | .ite c a b, ρ, M => bnd (evE cf c ρ M) fun x M1 => match x with
    | .bl true => evS cf a ρ M1
    | .bl false => evS cf b ρ M1
    | _ => none
  | .for tg it b, ρ, M => if itOwn ρ it then none else bnd (evI cf it ρ M) fun items M1 => forL tg (evS cf b) items ρ M1
  | .whl c b, ρ, M => loopV (evE cf c) (evS cf b) ρ M
  | .ret e, ρ, M => bnd (evE cf e ρ M) fun v M1 => some (.rt v M1)
  | .retN, _, M => some (.rt .non M)
  | .rai, _, _ => none
  | .nil, ρ, M => some (.nx ρ M)
  | .cons a b, ρ, M => match evS cf a ρ M with
    | some (.nx ρ1 M1) => evS cf b ρ1 M1
    | r => r
/-! ### functions -/
structure Fn where
  np : Nat
  ns : Nat
  body : S
open Classical in
/-- behind a call: what the call has made is let go if nothing leans on it -/
def fin (M : Mem) (v : PV) (M' : Mem) : R PV := if M'.take M.length = M ∧ noRef 60 v = true then some (v, M) else some (v, M')
def callF (T : Nat → Option Fn) : Nat → CallF
  | 0, _, _, _ => none
  | d + 1, f, args, M => match T f with
    | some fn => if args.length = fn.np then (match evS (callF T d) fn.body (args.map .val ++ List.replicate (fn.ns - fn.np) .non) M with
        | some (.rt v M') => fin M v M'
        | some (.nx _ M') => fin M .non M'
        | none => none) else none
    | none => none
end
end Ev
example (cf : Ev.CallF) (a b : Ev.E) (ρ : Ev.Slots) (M : Ev.Mem) : Ev.evE cf (.and a b) ρ M = Ev.bnd (Ev.evE cf a ρ M) fun x M1 => match x with
    | .bl true => Ev.evE cf b ρ M1
    | .bl false => some (.bl false, M1)
    | _ => none := rfl
end
section -- Sound1
/-! Sound1: how values and states of the small language lie in the abstract heap. -/
namespace Ev
open PySem PySem.Spec PyProof.Rows L2

/-- what the names of the text stand for -/
structure Lk where
  K : PySem.W.Frag
  cls : Nat → Option Addr
def kP : Key → PV
  | .inl i => .int i
  | .inr x => .str x
/-- the script: locked, or written -/
def Scr (K : PySem.W.Frag) (F : Hp) (a : Addr) (vs : List V) : Prop :=
  (∃ o, F a = some (.frz o (.lst vs))) ∨ ∃ (its : Array Value) (n : Nat), K.lookup a = some { cls := .type "list", data := .seq its n } ∧ its.size ≤ sizeLine ∧ Vals vs its.toList
mutual
/-- a value: tuples, frozen lists and dicts lie in F; a thing of the store at its address -/
inductive RepV (L : Lk) (F : Hp) (μ : List Addr) : V → PV → Prop
  | non : RepV L F μ .non .non
  | bl (b : Bool) : RepV L F μ (.bl b) (.bl b)
  | int (i : Int) : RepV L F μ (.int i) (.int i)
  | str (x : Str) : RepV L F μ (.str x) (.str x)
  | tup {a : Addr} {vs : List V} {ps : List PV} : SqT L.K F a vs → RepVs L F μ vs ps → RepV L F μ (.ref a) (.tup ps)
  | lst {a : Addr} {vs : List V} {ps : List PV} : F a = some (.lst vs) → RepVs L F μ vs ps → RepV L F μ (.ref a) (.lst ps)
  | scr {a : Addr} {vs : List V} {ps : List PV} : Scr L.K F a vs → RepVs L F μ vs ps → RepV L F μ (.ref a) (.scr ps)
  | dct {a : Addr} {kvs : List (Key × V)} {ks vs : List PV} : F a = some (.dK kvs) → ks = kvs.map (fun p => kP p.1) → RepVs L F μ (kvs.map (·.2)) vs → RepV L F μ (.ref a) (.dct ks vs)
  | ref {a : Addr} {i : Nat} : μ[i]? = some a → RepV L F μ (.ref a) (.ref i)
inductive RepVs (L : Lk) (F : Hp) (μ : List Addr) : List V → List PV → Prop
  | nil : RepVs L F μ [] []
  | cons {v : V} {p : PV} {vs : List V} {ps : List PV} : RepV L F μ v p → RepVs L F μ vs ps → RepVs L F μ (v :: vs) (p :: ps)
end
abbrev Sub (F F' : Hp) : Prop := ∀ a o, F a = some o → F' a = some o
theorem Sub.refl (F : Hp) : Sub F F := fun _ _ h => h
theorem Sub.trans {F F' F'' : Hp} (a : Sub F F') (b : Sub F' F'') : Sub F F'' := fun c o h => b c o (a c o h)
theorem Rd.sub {F F' : Hp} (s : Sub F F') {a : Addr} {u : HO} (h : Rd F a u) : Rd F' a u := by
  rcases h with h | ⟨o, h⟩
  · exact .inl (s _ _ h)
  · exact .inr ⟨o, s _ _ h⟩
theorem SqL.sub {K : PySem.W.Frag} {F F' : Hp} (s : Sub F F') {a : Addr} {xs : List V} (h : SqL K F a xs) : SqL K F' a xs := h.imp (Rd.sub s) id
theorem SqT.sub {K : PySem.W.Frag} {F F' : Hp} (s : Sub F F') {a : Addr} {xs : List V} (h : SqT K F a xs) : SqT K F' a xs := h.imp (Rd.sub s) id
theorem pre_get {α : Type} {l l' : List α} (p : l <+: l') {i : Nat} {a : α} (h : l[i]? = some a) : l'[i]? = some a := by
  obtain ⟨t, rfl⟩ := p
  rw [List.getElem?_append_left (List.getElem?_eq_some_iff.mp h).1]
  exact h
section
variable {L : Lk} {F F' : Hp} {μ μ' : List Addr}
mutual
theorem RepV.mono (s : Sub F F') (p : μ <+: μ') : ∀ {v : V} {x : PV}, RepV L F μ v x → RepV L F' μ' v x
  | _, _, .non => .non
  | _, _, .bl b => .bl b
  | _, _, .int i => .int i
  | _, _, .str x => .str x
  | _, _, .tup h r => .tup (SqT.sub s h) (RepVs.mono s p r)
  | _, _, .lst h r => .lst (s _ _ h) (RepVs.mono s p r)
  | _, _, .scr h r => .scr (h.imp (fun ⟨o, z⟩ => ⟨o, s _ _ z⟩) id) (RepVs.mono s p r)
  | _, _, .dct h e r => .dct (s _ _ h) e (RepVs.mono s p r)
  | _, _, .ref h => .ref (pre_get p h)
theorem RepVs.mono (s : Sub F F') (p : μ <+: μ') : ∀ {vs : List V} {xs : List PV}, RepVs L F μ vs xs → RepVs L F' μ' vs xs
  | _, _, .nil => .nil
  | _, _, .cons h r => .cons (h.mono s p) (r.mono s p)
end
theorem RepVs.length : ∀ {vs : List V} {xs : List PV}, RepVs L F μ vs xs → vs.length = xs.length
  | _, _, .nil => rfl
  | _, _, .cons _ r => by rw [List.length_cons, List.length_cons, r.length]
theorem RepVs.get : ∀ {vs : List V} {xs : List PV} {i : Nat} {x : PV}, RepVs L F μ vs xs → xs[i]? = some x → ∃ v, vs[i]? = some v ∧ RepV L F μ v x
  | _, _, _, _, .nil, e => by simp at e
  | _, _, 0, _, .cons h _, e => ⟨_, rfl, by cases (Option.some.inj e); exact h⟩
  | _, _, i + 1, x, .cons _ r, e => r.get (i := i) (x := x) e
theorem RepVs.get' : ∀ {vs : List V} {xs : List PV} {i : Nat} {v : V}, RepVs L F μ vs xs → vs[i]? = some v → ∃ x, xs[i]? = some x ∧ RepV L F μ v x
  | _, _, _, _, .nil, e => by simp at e
  | _, _, 0, _, .cons h _, e => ⟨_, rfl, by cases (Option.some.inj e); exact h⟩
  | _, _, i + 1, x, .cons _ r, e => r.get' (i := i) (v := x) e
theorem RepVs.append : ∀ {vs ws : List V} {xs ys : List PV}, RepVs L F μ vs xs → RepVs L F μ ws ys → RepVs L F μ (vs ++ ws) (xs ++ ys)
  | _, _, _, _, .nil, s => s
  | _, _, _, _, .cons h r, s => .cons h (r.append s)
theorem RepVs.set {v : V} {x : PV} (h : RepV L F μ v x) : ∀ {vs : List V} {xs : List PV} (i : Nat), RepVs L F μ vs xs → RepVs L F μ (vs.set i v) (xs.set i x)
  | _, _, _, .nil => .nil
  | _, _, 0, .cons _ r => .cons h r
  | _, _, i + 1, .cons g r => .cons g (r.set h i)
theorem RepVs.take : ∀ {vs : List V} {xs : List PV} (n : Nat), RepVs L F μ vs xs → RepVs L F μ (vs.take n) (xs.take n)
  | _, _, 0, _ => by simp; exact .nil
  | _, _, _ + 1, .nil => .nil
  | _, _, n + 1, .cons h r => .cons h (r.take n)
theorem RepVs.drop : ∀ {vs : List V} {xs : List PV} (n : Nat), RepVs L F μ vs xs → RepVs L F μ (vs.drop n) (xs.drop n)
  | _, _, 0, r => r
  | _, _, _ + 1, .nil => .nil
  | _, _, n + 1, .cons h r => r.drop n
theorem RepVs.erase : ∀ {vs : List V} {xs : List PV} (n : Nat), RepVs L F μ vs xs → RepVs L F μ (vs.eraseIdx n) (xs.eraseIdx n)
  | _, _, _, .nil => .nil
  | _, _, 0, .cons h r => r
  | _, _, n + 1, .cons h r => .cons h (r.erase n)
theorem RepVs.rep {vs : List V} {xs : List PV} (h : RepVs L F μ vs xs) : ∀ n : Nat, RepVs L F μ (List.replicate n vs).flatten (List.replicate n xs).flatten
  | 0 => .nil
  | n + 1 => by
    rw [List.replicate_succ, List.replicate_succ, List.flatten_cons, List.flatten_cons]
    exact h.append (h.rep n)
/-- .. of scalars -/
theorem RepV.inv_int {v : V} {i : Int} (h : RepV L F μ v (.int i)) : v = .int i := by cases h; rfl
theorem RepV.inv_bl {v : V} {b : Bool} (h : RepV L F μ v (.bl b)) : v = .bl b := by cases h; rfl
theorem RepV.inv_str {v : V} {x : Str} (h : RepV L F μ v (.str x)) : v = .str x := by cases h; rfl
theorem RepV.inv_non {v : V} (h : RepV L F μ v .non) : v = .non := by cases h; rfl
theorem RepV.inv_tup {v : V} {ps : List PV} (h : RepV L F μ v (.tup ps)) : ∃ a vs, v = .ref a ∧ SqT L.K F a vs ∧ RepVs L F μ vs ps := by
  cases h with
  | tup h r => exact ⟨_, _, rfl, h, r⟩
theorem RepV.inv_lst {v : V} {ps : List PV} (h : RepV L F μ v (.lst ps)) : ∃ a vs, v = .ref a ∧ F a = some (.lst vs) ∧ RepVs L F μ vs ps := by
  cases h with
  | lst h r => exact ⟨_, _, rfl, h, r⟩
theorem RepV.inv_scr {v : V} {ps : List PV} (h : RepV L F μ v (.scr ps)) : ∃ a vs, v = .ref a ∧ Scr L.K F a vs ∧ RepVs L F μ vs ps := by
  cases h with
  | scr h r => exact ⟨_, _, rfl, h, r⟩
theorem RepV.inv_ref {v : V} {i : Nat} (h : RepV L F μ v (.ref i)) : ∃ a, v = .ref a ∧ μ[i]? = some a := by
  cases h with
  | ref h => exact ⟨_, rfl, h⟩
theorem RepV.inv_dct {v : V} {ks vs : List PV} (h : RepV L F μ v (.dct ks vs)) : ∃ a kvs, v = .ref a ∧ F a = some (.dK kvs) ∧ ks = kvs.map (fun p => kP p.1) ∧ RepVs L F μ (kvs.map (·.2)) vs := by
  cases h with
  | dct h e r => exact ⟨_, _, rfl, h, e, r⟩
theorem RepVs.ints : ∀ {vs : List V} {ps : List PV} {ns : List Int}, RepVs L F μ vs ps → ints? ps = some ns → vs = ns.map V.int
  | _, _, _, .nil, e => by cases e; rfl
  | _, _, ns, .cons (p := p) (ps := ps) h r, e => by
    cases p with
    | int i =>
      obtain rfl := h.inv_int
      cases q : ints? ps with
      | none => simp [ints?, q] at e
      | some ms =>
        simp [ints?, q] at e
        subst e
        rw [r.ints q] <;> rfl
    | _ => simp [ints?] at e
theorem RepVs.bools : ∀ {vs : List V} {ps : List PV} {ns : List Bool}, RepVs L F μ vs ps → bools? ps = some ns → vs = ns.map V.bl
  | _, _, _, .nil, e => by cases e; rfl
  | _, _, ns, .cons (p := p) (ps := ps) h r, e => by
    cases p with
    | bl i =>
      obtain rfl := h.inv_bl
      cases q : bools? ps with
      | none => simp [bools?, q] at e
      | some ms =>
        simp [bools?, q] at e
        subst e
        rw [r.bools q] <;> rfl
    | _ => simp [bools?] at e
end

/-- what may change: a thing of the store -/
def MOR (L : Lk) (F : Hp) (μ : List Addr) : HO → MO → Prop
  | .lst vs, .lst ps => RepVs L F μ vs ps
  | .dK kvs, .dct ks vs => ks = kvs.map (fun p => kP p.1) ∧ RepVs L F μ (kvs.map (·.2)) vs
  | .ins C _ gs, .ins c fs => L.cls c = some C ∧ gs.map (·.1) = fs.map (·.1) ∧ RepVs L F μ (gs.map (·.2)) (fs.map (·.2))
  | _, _ => False
theorem MOR.mono {L : Lk} {F F' : Hp} {μ μ' : List Addr} (s : Sub F F') (p : μ <+: μ') : ∀ {o : HO} {m : MO}, MOR L F μ o m → MOR L F' μ' o m := fun {o m} h => by
  cases o <;> cases m <;> first
    | exact False.elim h
    | exact RepVs.mono s p h
    | exact ⟨h.1, h.2.mono s p⟩
    | exact ⟨h.1, h.2.1, h.2.2.mono s p⟩
def SlotR (L : Lk) (F : Hp) (μ : List Addr) (H : Hp) (x : Option (Option V)) : Slot → Prop
  | .non => True
  | .val v => ∃ y, x = some (some y) ∧ RepV L F μ y v
  | .own xs => ∃ a vs, x = some (some (.ref a)) ∧ H a = some (.lst vs) ∧ RepVs L F μ vs xs ∧ F a = none ∧ a ∉ μ
  | .ownD ks vs => ∃ a kvs, x = some (some (.ref a)) ∧ H a = some (.dK kvs) ∧ ks = kvs.map (fun p => kP p.1) ∧ RepVs L F μ (kvs.map (·.2)) vs ∧ F a = none ∧ a ∉ μ
def Slot.isOwn : Slot → Bool
  | .own _ => true
  | .ownD _ _ => true
  | _ => false
/-- where a body began -/
structure Pm where
  H0 : Hp
  F0 : Hp
  μ0 : List Addr
structure Stt (L : Lk) (pm : Pm) (F : Hp) (μ : List Addr) (M : Mem) (ρ : Slots) (σ : L2.St) (H : Hp) : Prop where
  fz : Sub F H
  f0 : Sub pm.F0 F
  fnew : ∀ a o, F a = some o → (∃ u, pm.F0 a = some u) ∨ pm.H0 a = none
  m0 : pm.μ0 <+: μ
  mnew : ∀ a ∈ μ, a ∈ pm.μ0 ∨ pm.H0 a = none
  keep : ∀ a o, pm.H0 a = some o → a ∉ pm.μ0 → H a = some o
  len : μ.length = M.length
  mem : ∀ (i : Nat) (a : Addr) (m : MO), μ[i]? = some a → M[i]? = some m → ∃ o, H a = some o ∧ MOR L F μ o m
  muF : ∀ a ∈ μ, F a = none
  nod : μ.Nodup
  lenS : ρ.length = σ.length
  slot : ∀ (i : Nat) (s : Slot), ρ[i]? = some s → SlotR L F μ H (σ[i]?) s
  sep : ∀ (i j : Nat) (s t : Slot) (a : Addr), ρ[i]? = some s → ρ[j]? = some t → s.isOwn = true → t.isOwn = true → σ[i]? = some (some (V.ref a)) → σ[j]? = some (some (V.ref a)) → i = j
/-- what one has of one's own is new -/
def Own (pm : Pm) (ρ : Slots) (σ : L2.St) : Prop := ∀ (i : Nat) (s : Slot) (a : Addr), ρ[i]? = some s → s.isOwn = true → σ[i]? = some (some (V.ref a)) → pm.H0 a = none

section
variable {L : Lk} {pm : Pm} {F F' : Hp} {μ μ' : List Addr} {M M' : Mem} {ρ ρ' : Slots} {σ σ' : L2.St} {H H' : Hp}
theorem SlotR.mono {x : Option (Option V)} {s : Slot} (h : SlotR L F μ H x s) (sb : Sub F F') (p : μ <+: μ') (hk : ∀ a o, H a = some o → F a = none → a ∉ μ → H' a = some o ∧ F' a = none ∧ a ∉ μ') : SlotR L F' μ' H' x s := by
  cases s with
  | non => trivial
  | val v =>
    obtain ⟨y, e, r⟩ := h
    exact ⟨y, e, r.mono sb p⟩
  | own xs =>
    obtain ⟨a, vs, e, ha, r, f, m⟩ := h
    obtain ⟨h1, h2, h3⟩ := hk a _ ha f m
    exact ⟨a, vs, e, h1, r.mono sb p, h2, h3⟩
  | ownD ks vs =>
    obtain ⟨a, kvs, e, ha, ek, r, f, m⟩ := h
    obtain ⟨h1, h2, h3⟩ := hk a _ ha f m
    exact ⟨a, kvs, e, h1, ek, r.mono sb p, h2, h3⟩
theorem Stt.there (S : Stt L pm F μ M ρ σ H) {a : Addr} (h : a ∈ μ) : ∃ o, H a = some o := by
  obtain ⟨i, hi, e⟩ := List.getElem_of_mem h
  have hm : i < M.length := by rw [← S.len]; exact hi
  obtain ⟨o, ho, _⟩ := S.mem i a M[i] (by rw [List.getElem?_eq_getElem hi, e]) (List.getElem?_eq_getElem hm)
  exact ⟨o, ho⟩
theorem Stt.new (S : Stt L pm F μ M ρ σ H) {a : Addr} (h : H a = none) : pm.H0 a = none ∧ F a = none ∧ a ∉ μ := by
  refine ⟨?_, ?_, fun hm => ?_⟩
  · cases e : pm.H0 a with
    | none => rfl
    | some o =>
      by_cases hm : a ∈ pm.μ0
      · obtain ⟨o', e'⟩ := S.there (S.m0.subset hm)
        rw [h] at e'; cases e'
      · have := S.keep a o e hm
        rw [h] at this; cases this
  · cases e : F a with
    | none => rfl
    | some o =>
      have := S.fz a o e
      rw [h] at this; cases this
  · obtain ⟨o', e'⟩ := S.there hm
    rw [h] at e'; cases e'
/-- a body within -/
theorem Stt.nest (S : Stt L pm F μ M ρ σ H) : Stt L ⟨H, F, μ⟩ F μ M ρ σ H :=
  ⟨S.fz, Sub.refl _, fun a o h => .inl ⟨o, h⟩, List.prefix_rfl, fun a h => .inl h, fun a o h _ => h, S.len, S.mem, S.muF, S.nod, S.lenS, S.slot, S.sep⟩
theorem Stt.bare (S : Stt L pm F μ M ρ σ H) : Stt L pm F μ M [] [] H :=
  ⟨S.fz, S.f0, S.fnew, S.m0, S.mnew, S.keep, S.len, S.mem, S.muF, S.nod, rfl, fun i s h => by simp at h, fun i j s t a h => by simp at h⟩
/-- behind it: the slots as they were -/
theorem Stt.unnest (S : Stt L pm F μ M ρ σ H) (S' : Stt L ⟨H, F, μ⟩ F' μ' M' ρ' σ' H') : Stt L pm F' μ' M' ρ σ H' := by
  have sb : Sub F F' := S'.f0
  have hk : ∀ a o, H a = some o → F a = none → a ∉ μ → H' a = some o ∧ F' a = none ∧ a ∉ μ' := fun a o h f m => by
    refine ⟨S'.keep a o h m, ?_, fun hm => ?_⟩
    · cases e : F' a with
      | none => rfl
      | some u =>
        rcases S'.fnew a u e with ⟨w, z⟩ | z
        · have z : F a = some w := z
          rw [f] at z; cases z
        · have z : H a = none := z
          rw [h] at z; cases z
    · rcases S'.mnew a hm with z | z
      · exact m z
      · have z : H a = none := z
        rw [h] at z; cases z
  refine ⟨S'.fz, S.f0.trans sb, fun a o h => ?_, S.m0.trans S'.m0, fun a h => ?_, fun a o h m => ?_, S'.len, S'.mem, S'.muF, S'.nod, S.lenS, fun i s h => (S.slot i s h).mono sb S'.m0 hk, S.sep⟩
  · rcases S'.fnew a o h with ⟨w, z⟩ | z
    · exact S.fnew a w z
    · exact .inr (S.new z).1
  · rcases S'.mnew a h with z | z
    · exact S.mnew a z
    · exact .inr (S.new z).1
  · have h1 := S.keep a o h m
    by_cases hm : a ∈ μ
    · rcases S.mnew a hm with z | z
      · exact absurd z m
      · rw [h] at z; cases z
    · exact S'.keep a o h1 hm
/-- the heap has grown by an object that nobody speaks of -/
theorem Stt.grow (S : Stt L pm F μ M ρ σ H) {p : Addr} (hp : H p = none) (o : HO) : Stt L pm F μ M ρ σ (upd H p o) := by
  obtain ⟨n1, n2, n3⟩ := S.new hp
  have ne : ∀ a u, H a = some u → a ≠ p := fun a u h => ne_of_none h hp
  have up : ∀ a u, H a = some u → upd H p o a = some u := fun a u h => by rw [upd_ne (ne a u h)]; exact h
  refine ⟨fun a u h => up a u (S.fz a u h), S.f0, S.fnew, S.m0, S.mnew, fun a u h m => up a u (S.keep a u h m), S.len, fun i a m h1 h2 => ?_, S.muF, S.nod, S.lenS, fun i s h => (S.slot i s h).mono (Sub.refl _) List.prefix_rfl fun a u h f m => ⟨up a u h, f, m⟩, S.sep⟩
  obtain ⟨u, h3, h4⟩ := S.mem i a m h1 h2
  exact ⟨u, up a u h3, h4⟩
theorem Sub.upd {p : Addr} (h : F p = none) (o : HO) : Sub F (L2.upd F p o) := fun a u e => by rw [upd_ne (ne_of_none e h)]; exact e
/-- a frozen object is made -/
theorem Stt.frozen (S : Stt L pm F μ M ρ σ H) {p : Addr} (hp : H p = none) (o : HO) : Stt L pm (upd F p o) μ M ρ σ (upd H p o) := by
  obtain ⟨n1, n2, n3⟩ := S.new hp
  have G := S.grow hp o
  have sb := Sub.upd n2 o
  refine ⟨fun a u h => ?_, S.f0.trans sb, fun a u h => ?_, S.m0, S.mnew, G.keep, S.len, fun i a m h1 h2 => ?_, fun a ha => ?_, S.nod, S.lenS, fun i s h => (S.slot i s h).mono sb List.prefix_rfl fun a u h f m => ?_, S.sep⟩
  · by_cases e : a = p
    · rw [e, upd_same] at h
      rw [e, upd_same]
      exact h
    · rw [upd_ne e] at h ⊢
      exact S.fz a u h
  · by_cases e : a = p
    · exact .inr (e ▸ n1)
    · rw [upd_ne e] at h
      exact S.fnew a u h
  · obtain ⟨u, h3, h4⟩ := G.mem i a m h1 h2
    exact ⟨u, h3, h4.mono sb List.prefix_rfl⟩
  · rw [upd_ne (show a ≠ p from fun e => n3 (e ▸ ha))]
    exact S.muF a ha
  · have e : a ≠ p := ne_of_none h hp
    exact ⟨by rw [upd_ne e]; exact h, by rw [upd_ne e]; exact f, m⟩
/-- a thing of the store is made -/
theorem Stt.made (S : Stt L pm F μ M ρ σ H) {p : Addr} (hp : H p = none) {o : HO} {m : MO} (h : MOR L F (μ ++ [p]) o m) : Stt L pm F (μ ++ [p]) (M ++ [m]) ρ σ (upd H p o) := by
  obtain ⟨n1, n2, n3⟩ := S.new hp
  have G := S.grow hp o
  have px : μ <+: μ ++ [p] := List.prefix_append _ _
  refine ⟨G.fz, S.f0, S.fnew, S.m0.trans px, fun a ha => ?_, G.keep, by simp [S.len], fun i a m' h1 h2 => ?_, fun a ha => ?_, ?_, S.lenS, fun i s h => (S.slot i s h).mono (Sub.refl _) px fun a u h f m => ?_, S.sep⟩
  · rcases List.mem_append.mp ha with z | z
    · exact S.mnew a z
    · rw [List.mem_singleton.mp z]
      exact .inr n1
  · by_cases hi : i < μ.length
    · rw [List.getElem?_append_left hi] at h1
      rw [List.getElem?_append_left (by rw [← S.len]; exact hi)] at h2
      obtain ⟨u, h3, h4⟩ := G.mem i a m' h1 h2
      exact ⟨u, h3, h4.mono (Sub.refl _) px⟩
    · have hlt := (List.getElem?_eq_some_iff.mp h1).1
      simp at hlt
      have ei : i = μ.length := by omega
      subst ei
      simp at h1
      rw [S.len] at h2
      simp at h2
      subst h1 h2
      exact ⟨o, upd_same, h⟩
  · rcases List.mem_append.mp ha with z | z
    · exact S.muF a z
    · rw [List.mem_singleton.mp z]
      exact n2
  · refine List.nodup_append.mpr ⟨S.nod, by simp, fun a ha b hb => ?_⟩
    rw [List.mem_singleton.mp hb]
    exact fun e => n3 (e ▸ ha)
  · have e : a ≠ p := ne_of_none h hp
    refine ⟨by rw [upd_ne e]; exact h, f, fun z => ?_⟩
    rcases List.mem_append.mp z with z | z
    · exact m z
    · exact e (List.mem_singleton.mp z)
/-- a thing of the store is changed -/
theorem Stt.store (S : Stt L pm F μ M ρ σ H) {i : Nat} {a : Addr} (hi : μ[i]? = some a) {o : HO} {m : MO} (h : MOR L F μ o m) : Stt L pm F μ (M.set i m) ρ σ (upd H a o) := by
  have ha : a ∈ μ := List.mem_of_getElem? hi
  have fa := S.muF a ha
  refine ⟨fun b u e => ?_, S.f0, S.fnew, S.m0, S.mnew, fun b u e hb => ?_, by simp [S.len], fun j b m' h1 h2 => ?_, S.muF, S.nod, S.lenS, fun j s e => (S.slot j s e).mono (Sub.refl _) List.prefix_rfl fun b u e f hm => ?_, S.sep⟩
  · rw [upd_ne (fun z => by rw [z, fa] at e; cases e)]
    exact S.fz b u e
  · have ne : b ≠ a := fun z => by
      subst z
      rcases S.mnew b ha with z | z
      · exact hb z
      · rw [e] at z; cases z
    rw [upd_ne ne]
    exact S.keep b u e hb
  · by_cases e : j = i
    · subst e
      rw [hi] at h1
      cases h1
      have hl : j < M.length := by rw [← S.len]; exact (List.getElem?_eq_some_iff.mp hi).1
      rw [List.getElem?_set_self hl] at h2
      cases h2
      exact ⟨o, upd_same, h⟩
    · rw [List.getElem?_set_ne (Ne.symm e)] at h2
      obtain ⟨u, h3, h4⟩ := S.mem j b m' h1 h2
      have ne : b ≠ a := fun z => by
        subst z
        have e1 := List.getElem?_eq_some_iff.mp h1
        have e2 := List.getElem?_eq_some_iff.mp hi
        exact e ((List.getElem_inj S.nod).mp (e1.2.trans e2.2.symm))
      exact ⟨u, by rw [upd_ne ne]; exact h3, h4⟩
  · have ne : b ≠ a := fun z => hm (z ▸ ha)
    exact ⟨by rw [upd_ne ne]; exact e, f, hm⟩
/-- a name gets a value -/
theorem Stt.setVal (S : Stt L pm F μ M ρ σ H) (i : Nat) {v : PV} {x : V} (r : RepV L F μ x v) : Stt L pm F μ M (ρ.set i (.val v)) (σ.set i (some x)) H := by
  refine ⟨S.fz, S.f0, S.fnew, S.m0, S.mnew, S.keep, S.len, S.mem, S.muF, S.nod, by simp [S.lenS], fun j s e => ?_, fun j k s t a h1 h2 h3 h4 h5 h6 => ?_⟩
  · by_cases ej : j = i
    · subst ej
      have hl : j < ρ.length := by
        have := (List.getElem?_eq_some_iff.mp e).1
        simpa using this
      rw [List.getElem?_set_self hl] at e
      cases e
      rw [List.getElem?_set_self (by rw [← S.lenS]; exact hl)]
      exact ⟨x, rfl, r⟩
    · rw [List.getElem?_set_ne (Ne.symm ej)] at e ⊢
      exact S.slot j s e
  · have nj : ∀ {j : Nat} {s : Slot}, (ρ.set i (.val v))[j]? = some s → s.isOwn = true → j ≠ i := fun {j s} h h' z => by
      subst z
      have hl : j < ρ.length := by
        have := (List.getElem?_eq_some_iff.mp h).1
        simpa using this
      rw [List.getElem?_set_self hl] at h
      cases h
      cases h'
    have ej := nj h1 h3
    have ek := nj h2 h4
    rw [List.getElem?_set_ne (Ne.symm ej)] at h1 h5
    rw [List.getElem?_set_ne (Ne.symm ek)] at h2 h6
    exact S.sep j k s t a h1 h2 h3 h4 h5 h6
theorem Own.setVal (W : Own pm ρ σ) (i : Nat) (v : PV) (x : V) : Own pm (ρ.set i (.val v)) (σ.set i (some x)) := fun j s a h1 h2 h3 => by
  have ej : j ≠ i := fun z => by
    subst z
    have hl : j < ρ.length := by
      have := (List.getElem?_eq_some_iff.mp h1).1
      simpa using this
    rw [List.getElem?_set_self hl] at h1
    cases h1
    cases h2
  rw [List.getElem?_set_ne (Ne.symm ej)] at h1 h3
  exact W j s a h1 h2 h3
/-- a name gets a new object of one's own -/
theorem Stt.setOwn (S : Stt L pm F μ M ρ σ H) (i : Nat) {s : Slot} {p : Addr} {o : HO} (hs : s.isOwn = true) (hp : H p = none) (r : SlotR L F μ (upd H p o) (some (some (V.ref p))) s) : Stt L pm F μ M (ρ.set i s) (σ.set i (some (V.ref p))) (upd H p o) := by
  have G := S.grow hp o
  have at_ : ∀ {j : Nat} {t : Slot}, (ρ.set i s)[j]? = some t → (j = i ∧ t = s ∧ (σ.set i (some (V.ref p)))[j]? = some (some (V.ref p))) ∨ (j ≠ i ∧ ρ[j]? = some t ∧ (σ.set i (some (V.ref p)))[j]? = σ[j]?) := fun {j t} h => by
    by_cases ej : j = i
    · subst ej
      have hl : j < ρ.length := by
        have := (List.getElem?_eq_some_iff.mp h).1
        simpa using this
      rw [List.getElem?_set_self hl] at h
      cases h
      exact .inl ⟨rfl, rfl, List.getElem?_set_self (by rw [← S.lenS]; exact hl)⟩
    · rw [List.getElem?_set_ne (Ne.symm ej)] at h
      exact .inr ⟨ej, h, List.getElem?_set_ne (Ne.symm ej)⟩
  have old : ∀ {j : Nat} {t : Slot} {a : Addr}, ρ[j]? = some t → t.isOwn = true → σ[j]? = some (some (V.ref a)) → a ≠ p := fun {j t a} h1 h2 h3 => by
    have q := S.slot j t h1
    cases t with
    | non => cases h2
    | val v => cases h2
    | own xs =>
      obtain ⟨b, vs, e, hb, _⟩ := q
      rw [h3] at e
      cases e
      exact ne_of_none hb hp
    | ownD ks vs =>
      obtain ⟨b, kvs, e, hb, _⟩ := q
      rw [h3] at e
      cases e
      exact ne_of_none hb hp
  refine ⟨G.fz, G.f0, G.fnew, G.m0, G.mnew, G.keep, G.len, G.mem, G.muF, G.nod, by simp [S.lenS], fun j t e => ?_, fun j k t u a h1 h2 h3 h4 h5 h6 => ?_⟩
  · rcases at_ e with ⟨_, z, q⟩ | ⟨_, z, q⟩
    · rw [q, z]
      exact r
    · rw [q]
      exact G.slot j t z
  · rcases at_ h1 with ⟨ej, _, q1⟩ | ⟨_, z1, q1⟩ <;> rcases at_ h2 with ⟨ek, _, q2⟩ | ⟨_, z2, q2⟩ <;> rw [q1] at h5 <;> rw [q2] at h6
    · rw [ej, ek]
    · cases h5
      exact absurd rfl (old z2 h4 h6)
    · cases h6
      exact absurd rfl (old z1 h3 h5)
    · exact S.sep j k t u a z1 z2 h3 h4 h5 h6
theorem Own.setOwn (S : Stt L pm F μ M ρ σ H) (W : Own pm ρ σ) (i : Nat) (s : Slot) {p : Addr} (hp : H p = none) : Own pm (ρ.set i s) (σ.set i (some (V.ref p))) := fun j t a h1 h2 h3 => by
  by_cases ej : j = i
  · subst ej
    have hl : j < ρ.length := by
      have := (List.getElem?_eq_some_iff.mp h1).1
      simpa using this
    rw [List.getElem?_set_self (by rw [← S.lenS]; exact hl)] at h3
    cases h3
    exact (S.new hp).1
  · rw [List.getElem?_set_ne (Ne.symm ej)] at h1 h3
    exact W j t a h1 h2 h3
/-- what one has of one's own is changed -/
theorem Stt.chgOwn (S : Stt L pm F μ M ρ σ H) (W : Own pm ρ σ) {i : Nat} {s s' : Slot} {a : Addr} {o : HO} (hi : ρ[i]? = some s) (hs : s.isOwn = true) (hs' : s'.isOwn = true) (ha : σ[i]? = some (some (V.ref a)))
    (r : SlotR L F μ (upd H a o) (some (some (V.ref a))) s') : Stt L pm F μ M (ρ.set i s') σ (upd H a o) ∧ Own pm (ρ.set i s') σ := by
  have hl : i < ρ.length := (List.getElem?_eq_some_iff.mp hi).1
  have h0 := W i s a hi hs ha
  have q := S.slot i s hi
  have fm : F a = none ∧ a ∉ μ ∧ ∃ u, H a = some u := by
    cases s with
    | non => cases hs
    | val v => cases hs
    | own xs =>
      obtain ⟨b, vs, e, hb, _, f, m⟩ := q
      rw [ha] at e
      cases e
      exact ⟨f, m, _, hb⟩
    | ownD ks vs =>
      obtain ⟨b, kvs, e, hb, _, _, f, m⟩ := q
      rw [ha] at e
      cases e
      exact ⟨f, m, _, hb⟩
  obtain ⟨fa, ma, u0, hu⟩ := fm
  have at_ : ∀ {j : Nat} {t : Slot}, (ρ.set i s')[j]? = some t → (j = i ∧ t = s') ∨ (j ≠ i ∧ ρ[j]? = some t) := fun {j t} h => by
    by_cases ej : j = i
    · subst ej
      rw [List.getElem?_set_self hl] at h
      cases h
      exact .inl ⟨rfl, rfl⟩
    · rw [List.getElem?_set_ne (Ne.symm ej)] at h
      exact .inr ⟨ej, h⟩
  refine ⟨⟨fun b u e => ?_, S.f0, S.fnew, S.m0, S.mnew, fun b u e hb => ?_, S.len, fun j b m h1 h2 => ?_, S.muF, S.nod, by simp [S.lenS], fun j t e => ?_, fun j k t u b h1 h2 h3 h4 h5 h6 => ?_⟩, fun j t b h1 h2 h3 => ?_⟩
  · rw [upd_ne (fun z => by rw [z, fa] at e; cases e)]
    exact S.fz b u e
  · rw [upd_ne (fun z => by rw [z, h0] at e; cases e)]
    exact S.keep b u e hb
  · obtain ⟨u, h3, h4⟩ := S.mem j b m h1 h2
    exact ⟨u, by rw [upd_ne (show b ≠ a from fun z => ma (z ▸ List.mem_of_getElem? h1))]; exact h3, h4⟩
  · rcases at_ e with ⟨ej, et⟩ | ⟨ej, et⟩
    · rw [ej, et, ha]
      exact r
    · have q2 := S.slot j t et
      have go : ∀ {b : Addr} {v : HO}, t.isOwn = true → σ[j]? = some (some (V.ref b)) → H b = some v → upd H a o b = some v := fun {b v} ht hb e => by
        rw [upd_ne (show b ≠ a from fun z => ej (S.sep j i t s a et hi ht hs (z ▸ hb) ha))]
        exact e
      cases t with
      | non => trivial
      | val v => exact q2
      | own xs =>
        obtain ⟨b, vs, e1, e2, e3⟩ := q2
        exact ⟨b, vs, e1, go rfl e1 e2, e3⟩
      | ownD ks vs =>
        obtain ⟨b, kvs, e1, e2, e3⟩ := q2
        exact ⟨b, kvs, e1, go rfl e1 e2, e3⟩
  · have back : ∀ {j : Nat} {t : Slot}, (ρ.set i s')[j]? = some t → t.isOwn = true → ∃ t', ρ[j]? = some t' ∧ t'.isOwn = true := fun {j t} h h' => by
      rcases at_ h with ⟨ej, _⟩ | ⟨_, et⟩
      · exact ⟨s, ej ▸ hi, hs⟩
      · exact ⟨t, et, h'⟩
    obtain ⟨t', e1, e2⟩ := back h1 h3
    obtain ⟨u', e3, e4⟩ := back h2 h4
    exact S.sep j k t' u' b e1 e3 e2 e4 h5 h6
  · rcases at_ h1 with ⟨ej, _⟩ | ⟨_, et⟩
    · rw [ej, ha] at h3
      cases h3
      exact h0
    · exact W j t b et h2 h3
/-- what one has of one's own is given away, frozen -/
theorem Stt.freeze (S : Stt L pm F μ M ρ σ H) (W : Own pm ρ σ) {i : Nat} {s : Slot} {a : Addr} {o : HO} (v : PV) (hi : ρ[i]? = some s) (hs : s.isOwn = true) (ha : σ[i]? = some (some (V.ref a))) (ho : H a = some o)
    (r : RepV L (upd F a o) μ (.ref a) v) : Stt L pm (upd F a o) μ M (ρ.set i (.val v)) σ H ∧ Own pm (ρ.set i (.val v)) σ := by
  have hl : i < ρ.length := (List.getElem?_eq_some_iff.mp hi).1
  have h0 := W i s a hi hs ha
  have q := S.slot i s hi
  have fm : F a = none ∧ a ∉ μ := by
    cases s with
    | non => cases hs
    | val v => cases hs
    | own xs =>
      obtain ⟨b, vs, e, hb, _, f, m⟩ := q
      rw [ha] at e
      cases e
      exact ⟨f, m⟩
    | ownD ks vs =>
      obtain ⟨b, kvs, e, hb, _, _, f, m⟩ := q
      rw [ha] at e
      cases e
      exact ⟨f, m⟩
  obtain ⟨fa, ma⟩ := fm
  have sb := Sub.upd fa o
  have at_ : ∀ {j : Nat} {t : Slot}, (ρ.set i (.val v))[j]? = some t → (j = i ∧ t = .val v) ∨ (j ≠ i ∧ ρ[j]? = some t) := fun {j t} h => by
    by_cases ej : j = i
    · subst ej
      rw [List.getElem?_set_self hl] at h
      cases h
      exact .inl ⟨rfl, rfl⟩
    · rw [List.getElem?_set_ne (Ne.symm ej)] at h
      exact .inr ⟨ej, h⟩
  refine ⟨⟨fun b u e => ?_, S.f0.trans sb, fun b u e => ?_, S.m0, S.mnew, S.keep, S.len, fun j b m h1 h2 => ?_, fun b hb => ?_, S.nod, by simp [S.lenS], fun j t e => ?_, fun j k t u b h1 h2 h3 h4 h5 h6 => ?_⟩, fun j t b h1 h2 h3 => ?_⟩
  · by_cases z : b = a
    · rw [z, upd_same] at e
      cases e
      rw [z]
      exact ho
    · rw [upd_ne z] at e
      exact S.fz b u e
  · by_cases z : b = a
    · exact .inr (z ▸ h0)
    · rw [upd_ne z] at e
      exact S.fnew b u e
  · obtain ⟨u, h3, h4⟩ := S.mem j b m h1 h2
    exact ⟨u, h3, h4.mono sb List.prefix_rfl⟩
  · rw [upd_ne (show b ≠ a from fun z => ma (z ▸ hb))]
    exact S.muF b hb
  · rcases at_ e with ⟨ej, et⟩ | ⟨ej, et⟩
    · rw [ej, et, ha]
      exact ⟨_, rfl, r⟩
    · have q2 := S.slot j t et
      have go : ∀ {b : Addr}, t.isOwn = true → σ[j]? = some (some (V.ref b)) → F b = none → upd F a o b = none := fun {b} ht hb e => by
        rw [upd_ne (show b ≠ a from fun z => ej (S.sep j i t s a et hi ht hs (z ▸ hb) ha))]
        exact e
      cases t with
      | non => trivial
      | val v =>
        obtain ⟨y, e1, e2⟩ := q2
        exact ⟨y, e1, e2.mono sb List.prefix_rfl⟩
      | own xs =>
        obtain ⟨b, vs, e1, e2, e3, e4, e5⟩ := q2
        exact ⟨b, vs, e1, e2, e3.mono sb List.prefix_rfl, go rfl e1 e4, e5⟩
      | ownD ks vs =>
        obtain ⟨b, kvs, e1, e2, e3, e4, e5, e6⟩ := q2
        exact ⟨b, kvs, e1, e2, e3, e4.mono sb List.prefix_rfl, go rfl e1 e5, e6⟩
  · rcases at_ h1 with ⟨_, et⟩ | ⟨_, et⟩
    · rw [et] at h3
      cases h3
    · rcases at_ h2 with ⟨_, eu⟩ | ⟨_, eu⟩
      · rw [eu] at h4
        cases h4
      · exact S.sep j k t u b et eu h3 h4 h5 h6
  · rcases at_ h1 with ⟨_, et⟩ | ⟨_, et⟩
    · rw [et] at h2
      cases h2
    · exact W j t b et h2 h3
end
end Ev
end
section -- Sound2
/-! Sound2: operations on values. -/
namespace Ev
open PySem PySem.Spec PyProof.Rows L2

/-- a value that is looked at: also what one has of one's own -/
inductive WRep (L : Lk) (F : Hp) (μ : List Addr) (ρ : Slots) (σ : L2.St) : V → PV → Prop
  | of {x : V} {v : PV} : RepV L F μ x v → WRep L F μ ρ σ x v
  | own {i : Nat} {xs : List PV} {a : Addr} : ρ[i]? = some (.own xs) → σ[i]? = some (some (.ref a)) → WRep L F μ ρ σ (.ref a) (.lst xs)
  | ownD {i : Nat} {ks vs : List PV} {a : Addr} : ρ[i]? = some (.ownD ks vs) → σ[i]? = some (some (.ref a)) → WRep L F μ ρ σ (.ref a) (.dct ks vs)
section
variable {L : Lk} {pm : Pm} {F F' : Hp} {μ μ' : List Addr} {M M' : Mem} {ρ ρ' : Slots} {σ σ' : L2.St} {H H' : Hp}
theorem WRep.mono {x : V} {v : PV} (h : WRep L F μ ρ σ x v) (s : Sub F F') (p : μ <+: μ') : WRep L F' μ' ρ σ x v := by
  cases h with
  | of r => exact .of (r.mono s p)
  | own a b => exact .own a b
  | ownD a b => exact .ownD a b
theorem WRep.int {x : V} {i : Int} (h : WRep L F μ ρ σ x (.int i)) : x = .int i := by cases h with | of r => exact r.inv_int
theorem WRep.bl {x : V} {i : Bool} (h : WRep L F μ ρ σ x (.bl i)) : x = .bl i := by cases h with | of r => exact r.inv_bl
theorem WRep.str {x : V} {i : Str} (h : WRep L F μ ρ σ x (.str i)) : x = .str i := by cases h with | of r => exact r.inv_str
theorem WRep.non {x : V} (h : WRep L F μ ρ σ x .non) : x = .non := by cases h with | of r => exact r.inv_non
theorem WRep.ref {x : V} {i : Nat} (h : WRep L F μ ρ σ x (.ref i)) : ∃ a, x = .ref a ∧ μ[i]? = some a := by cases h with | of r => exact r.inv_ref
theorem Stt.tupW (S : Stt L pm F μ M ρ σ H) {x : V} {xs : List PV} (h : WRep L F μ ρ σ x (.tup xs)) : ∃ a vs, x = .ref a ∧ SqT L.K H a vs ∧ RepVs L F μ vs xs := by
  cases h with
  | of r =>
    obtain ⟨a, vs, e, h1, h2⟩ := r.inv_tup
    exact ⟨a, vs, e, SqT.sub S.fz h1, h2⟩
theorem Stt.lstH (S : Stt L pm F μ M ρ σ H) {x : V} {xs : List PV} (h : WRep L F μ ρ σ x (.lst xs)) : ∃ a vs, x = .ref a ∧ H a = some (.lst vs) ∧ RepVs L F μ vs xs := by
  cases h with
  | of r =>
    obtain ⟨a, vs, e, h1, h2⟩ := r.inv_lst
    exact ⟨a, vs, e, S.fz _ _ h1, h2⟩
  | own h1 h2 =>
    obtain ⟨a, vs, e, h3, h4, _⟩ := S.slot _ _ h1
    rw [h2] at e
    cases e
    exact ⟨_, vs, rfl, h3, h4⟩
theorem Stt.lstW (S : Stt L pm F μ M ρ σ H) {x : V} {xs : List PV} (h : WRep L F μ ρ σ x (.lst xs)) : ∃ a vs, x = .ref a ∧ SqL L.K H a vs ∧ RepVs L F μ vs xs := by
  obtain ⟨a, vs, e, h1, h2⟩ := S.lstH h
  exact ⟨a, vs, e, SqL.of h1, h2⟩
theorem Stt.dctW (S : Stt L pm F μ M ρ σ H) {x : V} {ks vs : List PV} (h : WRep L F μ ρ σ x (.dct ks vs)) : ∃ a kvs, x = .ref a ∧ H a = some (.dK kvs) ∧ ks = kvs.map (fun p => kP p.1) ∧ RepVs L F μ (kvs.map (·.2)) vs := by
  cases h with
  | of r =>
    obtain ⟨a, kvs, e, h1, h2, h3⟩ := r.inv_dct
    exact ⟨a, kvs, e, S.fz _ _ h1, h2, h3⟩
  | ownD h1 h2 =>
    obtain ⟨a, kvs, e, h3, h4, h5, _⟩ := S.slot _ _ h1
    rw [h2] at e
    cases e
    exact ⟨_, kvs, rfl, h3, h4, h5⟩
theorem Stt.refW (S : Stt L pm F μ M ρ σ H) {x : V} {i : Nat} {m : MO} (h : WRep L F μ ρ σ x (.ref i)) (hm : M[i]? = some m) : ∃ a o, x = .ref a ∧ μ[i]? = some a ∧ H a = some o ∧ MOR L F μ o m := by
  obtain ⟨a, e, h1⟩ := h.ref
  obtain ⟨o, h2, h3⟩ := S.mem i a m h1 hm
  exact ⟨a, o, e, h1, h2, h3⟩
/-- a list or tuple that is looked into -/
theorem Stt.look (S : Stt L pm F μ M ρ σ H) {x : V} {v : PV} {xs : List PV} (h : WRep L F μ ρ σ x v) (e : look M v = some xs) : ∃ a vs, x = .ref a ∧ (SqL L.K H a vs ∨ SqT L.K H a vs) ∧ RepVs L F μ vs xs := by
  cases v with
  | lst ys =>
    cases e
    obtain ⟨a, vs, e1, h1, h2⟩ := S.lstW h
    exact ⟨a, vs, e1, .inl h1, h2⟩
  | tup ys =>
    cases e
    obtain ⟨a, vs, e1, h1, h2⟩ := S.tupW h
    exact ⟨a, vs, e1, .inr h1, h2⟩
  | ref i =>
    cases hm : M[i]? with
    | none => simp [Ev.look, hm] at e
    | some m =>
      obtain ⟨a, o, e1, _, h2, h3⟩ := S.refW h hm
      cases m with
      | lst ys =>
        simp [Ev.look, hm] at e
        subst e
        cases o <;> first
          | exact False.elim h3
          | exact ⟨a, _, e1, .inl (SqL.of h2), h3⟩
      | _ => simp [Ev.look, hm] at e
  | _ => simp [Ev.look] at e
/-! ### data -/
mutual
theorem dp_of (fz : Sub F H) : ∀ {x : V} {v : PV} {n : Nat}, RepV L F μ x v → isD n v = true → Dp L.K H x (toD v)
  | _, _, _, .non, _ => .non
  | _, _, _, .bl b, _ => .bl b
  | _, _, _, .int i, _ => .int i
  | _, _, _, .str s, _ => .str s
  | _, _, 0, .tup h r, e => by simp [isD] at e
  | _, _, n + 1, .tup h r, e => .tup (SqT.sub fz h) (dps_of fz r (n := n) (by simpa [isD] using e))
  | _, _, 0, .lst h r, e => by simp [isD] at e
  | _, _, n + 1, .lst h r, e => .lst (SqL.of (fz _ _ h)) (dps_of fz r (n := n) (by simpa [isD] using e))
  | _, _, 0, .dct .., e => by simp [isD] at e
  | _, _, n + 1, .dct .., e => by simp [isD] at e
  | _, _, 0, .ref _, e => by simp [isD] at e
  | _, _, n + 1, .ref _, e => by simp [isD] at e
  | _, _, 0, .scr .., e => by simp [isD] at e
  | _, _, n + 1, .scr .., e => by simp [isD] at e
theorem dps_of (fz : Sub F H) : ∀ {vs : List V} {xs : List PV} {n : Nat}, RepVs L F μ vs xs → (∀ x ∈ xs, isD n x = true) → DpAll L.K H vs (toDs xs)
  | _, _, _, .nil, _ => .nil
  | _, _, n, .cons h r, e => .cons (dp_of fz h (e _ List.mem_cons_self)) (dps_of fz r fun x hx => e x (List.mem_cons_of_mem _ hx))
end
mutual
theorem shaped_of : ∀ (v : PV) (n : Nat), isD n v = true → (toD v).canLay0 = true ∧ (toD v).depth ≤ n
  | .non, _, _ => by simp [toD, PyData.canLay0, PyData.depth]
  | .bl _, _, _ => by simp [toD, PyData.canLay0, PyData.depth]
  | .int _, _, _ => by simp [toD, PyData.canLay0, PyData.depth]
  | .str s, n, h => by
    cases n <;> (simp [isD] at h; simp [toD, PyData.canLay0, PyData.depth, h])
  | .tup xs, 0, h => by simp [isD] at h
  | .tup xs, n + 1, h => by
    obtain ⟨h1, h2⟩ := shapeds_of xs n (by simpa [isD] using h)
    exact ⟨by simpa [toD, PyData.canLay0] using h1, by simp [toD, PyData.depth]; exact h2⟩
  | .lst xs, 0, h => by simp [isD] at h
  | .lst xs, n + 1, h => by
    obtain ⟨h1, h2⟩ := shapeds_of xs n (by simpa [isD] using h)
    exact ⟨by simpa [toD, PyData.canLay0] using h1, by simp [toD, PyData.depth]; exact h2⟩
  | .dct _ _, 0, h => by simp [isD] at h
  | .dct _ _, n + 1, h => by simp [isD] at h
  | .ref _, 0, h => by simp [isD] at h
  | .ref _, n + 1, h => by simp [isD] at h
  | .scr _, 0, h => by simp [isD] at h
  | .scr _, n + 1, h => by simp [isD] at h
theorem shapeds_of : ∀ (xs : List PV) (n : Nat), (∀ x ∈ xs, isD n x = true) → PyData.canLayAll0 (toDs xs) = true ∧ PyData.depthAll (toDs xs) ≤ n
  | [], _, _ => by simp [toDs, PyData.canLayAll0, PyData.depthAll]
  | x :: xs, n, h => by
    obtain ⟨h1, h2⟩ := shaped_of x n (h x List.mem_cons_self)
    obtain ⟨h3, h4⟩ := shapeds_of xs n fun y hy => h y (List.mem_cons_of_mem _ hy)
    simp only [toDs, PyData.canLayAll0, PyData.depthAll, h1, h3, Bool.and_self, true_and]
    exact Nat.max_le.mpr ⟨h2, h4⟩
end
theorem isD_scal {v : PV} (h : scal v = true) : isD 0 v = true := by
  cases v <;> first | rfl | exact h | cases h
theorem shaped60 {v : PV} (h : isD 60 v = true) : SeqAt.shaped (toD v) = true := by
  obtain ⟨h1, h2⟩ := shaped_of v 60 h
  unfold SeqAt.shaped
  rw [h1, decide_eq_true (by omega)]
  rfl
theorem isD_mono {v : PV} : ∀ {n m : Nat}, n ≤ m → isD n v = true → isD m v = true := by
  intro n
  induction n generalizing v with
  | zero =>
    intro m _ h
    cases v <;> first
      | (cases m <;> rfl)
      | (cases m <;> exact h)
      | (simp [isD] at h)
  | succ n ih =>
    intro m hm h
    obtain ⟨k, rfl⟩ : ∃ k, m = k + 1 := ⟨m - 1, by omega⟩
    cases v with
    | tup xs =>
      simp only [isD, List.all_eq_true] at h ⊢
      exact fun x hx => ih (by omega) (h x hx)
    | lst xs =>
      simp only [isD, List.all_eq_true] at h ⊢
      exact fun x hx => ih (by omega) (h x hx)
    | dct _ _ => simp [isD] at h
    | ref _ => simp [isD] at h
    | scr _ => simp [isD] at h
    | _ => first | rfl | exact h
theorem data_ok {v : PV} (h : (scal v || isD 60 v) = true) : isD 60 v = true := by
  rcases Bool.or_eq_true_iff.mp h with h | h
  · exact isD_mono (by omega) (isD_scal h)
  · exact h
theorem Stt.dpW (S : Stt L pm F μ M ρ σ H) {x : V} {v : PV} (h : WRep L F μ ρ σ x v) (d : isD 60 v = true) : Dp L.K H x (toD v) := by
  cases h with
  | of r => exact dp_of S.fz r d
  | own h1 h2 =>
    obtain ⟨a, vs, e, h3, h4⟩ := S.lstW (.own h1 h2)
    cases e
    exact .lst h3 (dps_of S.fz h4 (n := 59) (by simpa [isD] using d))
  | ownD h1 h2 => simp [isD] at d
end

/-! ### two values in, one out -/
/-- f of two values, the store as it is -/
def rV (L : Lk) (pm : Pm) (f : Mem → PV → PV → Option PV) : R2 := fun a b H Q => ∃ F μ M ρ σ x y v, Stt L pm F μ M ρ σ H ∧ WRep L F μ ρ σ a x ∧ WRep L F μ ρ σ b y ∧ f M x y = some v ∧
  ∀ F' H' z, Stt L pm F' μ M ρ σ H' → Sub F F' → RepV L F' μ z v → Q z H'
section
variable {L : Lk} {pm : Pm} {X : Cx}
/-- a new tuple, a new list as a value -/
theorem end_tup {F : Hp} {μ : List Addr} {M : Mem} {ρ : Slots} {σ : L2.St} {H : Hp} (S : Stt L pm F μ M ρ σ H) {vs : List V} {xs : List PV} (r : RepVs L F μ vs xs) {Q : VK}
    (k : ∀ F' H' z, Stt L pm F' μ M ρ σ H' → Sub F F' → RepV L F' μ z (.tup xs) → Q z H') : ∀ p, H p = none → Q (.ref p) (upd H p (.tup vs)) := fun p hp => by
  have sb := Sub.upd (S.new hp).2.1 (HO.tup vs)
  exact k _ _ _ (S.frozen hp _) sb (.tup (SqT.of upd_same) (r.mono sb List.prefix_rfl))
theorem end_lst {F : Hp} {μ : List Addr} {M : Mem} {ρ : Slots} {σ : L2.St} {H : Hp} (S : Stt L pm F μ M ρ σ H) {vs : List V} {xs : List PV} (r : RepVs L F μ vs xs) {Q : VK}
    (k : ∀ F' H' z, Stt L pm F' μ M ρ σ H' → Sub F F' → RepV L F' μ z (.lst xs) → Q z H') : ∀ p, H p = none → Q (.ref p) (upd H p (.lst vs)) := fun p hp => by
  have sb := Sub.upd (S.new hp).2.1 (HO.lst vs)
  exact k _ _ _ (S.frozen hp _) sb (.lst upd_same (r.mono sb List.prefix_rfl))
end
/-! ### tuples times an int -/
theorem ntt {b : Bool} (h : b = true) : decide (b = true) = true := by rw [h] <;> rfl
theorem nft {b : Bool} (h : b = false) : decide (b = true) = false := by rw [h] <;> rfl
theorem tup_same (l : Addr) (items : Array Value) (n : Nat) (dd : Option Addr) (sl : Array (Option Value)) (x : Int) (u : Tok) (c0 : (decide (x < -(2 ^ 63)) || decide (x ≥ 2 ^ 63)) = false) (c1 : (items.isEmpty || x == 1) = true) :
    Meets (Builtin.«tuple.__mul__» ⟨[.ref l, .int x u], []⟩) (fun _ R s => s.heap.get? l = some { cls := .type "tuple", dict := dd, data := .seq items n, slots := sl } ∧ R (.ok (.ret (Value.ref l))) s) :=
  .of_wp fun prog w A R s h => by
    obtain ⟨hp, g, d, tk, os⟩ := s
    obtain ⟨hl, h⟩ := h
    have f1 := AutoSeq1.idx_int
    wp_walk using wpAny_loadPart' hl
    repeat (first
      | exact ⟨_, rfl, h⟩
      | (refine wpAny_ite_false (nft c0) ?_; wp_walk using wpAny_loadPart' hl)
      | (refine wpAny_ite_true (ntt c1) ?_; wp_walk using wpAny_loadPart' hl)
      | (refine wpAny_ite_true (by decide) ?_; wp_walk using wpAny_loadPart' hl)
      | (refine wpAny_ite_false (by decide) ?_; wp_walk using wpAny_loadPart' hl))
theorem tup_none (l : Addr) (items : Array Value) (n : Nat) (dd : Option Addr) (sl : Array (Option Value)) (x : Int) (u : Tok) (c0 : (decide (x < -(2 ^ 63)) || decide (x ≥ 2 ^ 63)) = false)
    (c1 : (items.isEmpty || x == 1) = false) (c2 : (decide (x ≤ 0) || items.isEmpty) = true) :
    Meets (Builtin.«tuple.__mul__» ⟨[.ref l, .int x u], []⟩) (fun _ R s => s.heap.get? l = some { cls := .type "tuple", dict := dd, data := .seq items n, slots := sl } ∧
      R (.ok (.ret (Value.ref s.heap.objs.size))) { s with heap := s.heap.push { cls := Value.type "tuple", data := Data.seq #[] }, toks := s.toks }) :=
  .of_wp fun prog w A R s h => by
    obtain ⟨hp, g, d, tk, os⟩ := s
    obtain ⟨hl, h⟩ := h
    have f1 := AutoSeq1.idx_int
    wp_walk using wpAny_loadPart' hl
    repeat (first
      | exact ⟨_, rfl, h⟩
      | (refine wpAny_ite_false (nft c0) ?_; wp_walk using wpAny_loadPart' hl)
      | (refine wpAny_ite_false (nft c1) ?_; wp_walk using wpAny_loadPart' hl)
      | (refine wpAny_ite_true (ntt c2) ?_; wp_walk using wpAny_loadPart' hl)
      | (refine wpAny_ite_false (by decide) ?_; wp_walk using wpAny_loadPart' hl))
section
variable {X : Cx}
/-- t * k for small k, whatever t is -/
theorem op_mulT : OpR X (binaryOp .Mult) (fun x y H Q => ∃ l k xs, x = .ref l ∧ y = .int k ∧ SqT X.K H l xs ∧ -1000 ≤ k ∧ k ≤ 1000 ∧ xs.length ≤ 1000 ∧ ((List.replicate k.toNat xs).flatten = xs → Q (.ref l) H) ∧ (∀ p, H p = none → Q (.ref p) (upd H p (.tup (List.replicate k.toNat xs).flatten)))) := by
  intro pins s σ H x y v u Q I rx ry ⟨l, k, xs, ex, ey, hT, h1, h2, hz, q1, q2⟩
  by_cases big : xs ≠ [] ∧ 2 ≤ k
  · exact op_repT pins s σ H x y v u Q I rx ry ⟨l, k, xs, ex, ey, hT, big.1, big.2, h2, hz, q2⟩
  subst ex ey
  cases rx
  obtain ⟨t, ry'⟩ := ry
  subst ry'
  obtain ⟨its, r, ⟨o, ho, hc, n, hd⟩, hs⟩ := I.tuple hT
  obtain ⟨oc, od, odt, osl⟩ := o
  obtain rfl : oc = _ := hc
  obtain rfl : odt = _ := hd
  have hl := r.length
  have c0 : (decide (k < -(2 ^ 63)) || decide (k ≥ 2 ^ 63)) = false := by simp; omega
  have eI : its.toArray.isEmpty = xs.isEmpty := by
    cases its <;> cases xs <;> first
      | rfl
      | (simp at hl)
  by_cases same : xs = [] ∨ k = 1
  · have c1 : (its.toArray.isEmpty || k == 1) = true := by
      rw [eI]
      rcases same with e | e
      · rw [e] <;> rfl
      · rw [e] <;> simp
    have fl : (List.replicate k.toNat xs).flatten = xs := by
      rcases same with e | e
      · rw [e]
        simp
      · rw [e] <;> simp
    exact wpAny_binaryOp_repeat_ref (T := "tuple") (U := "int") (by decide) ⟨_, ho, rfl⟩ (fun s' => typeIs_int s' k t) noFill_tuple_mul F.fills_int_mul F.slot_int_rmul repeat_tuple F.slot_int_index.lookup
      (call_meets F.slot_int_rmul (typeIs_int s k t) F.entry_int_rmul (F.args_int_rmul_2 _ _) (int_rmul_tuple k t l its.toArray n od osl) ⟨ho, rfl, ⟨_, ho, rfl⟩,
        call_meets F.slot_tuple_mul ⟨_, ho, rfl⟩ F.entry_tuple_mul (F.args_tuple_mul_2 _ _) (tup_same l its.toArray n od osl k t c0 c1) ⟨ho, ⟨V.ref l, H, I, rfl, q1 fl⟩⟩⟩)
  · have hne : xs ≠ [] := fun e => same (.inl e)
    have k0 : k ≤ 0 := by
      have a1 : ¬ 2 ≤ k := fun e => big ⟨hne, e⟩
      have a2 : k ≠ 1 := fun e => same (.inr e)
      omega
    have em : xs.isEmpty = false := by cases xs <;> first | exact absurd rfl hne | rfl
    have c1 : (its.toArray.isEmpty || k == 1) = false := by
      rw [eI, em]
      simp
      omega
    have c2 : (decide (k ≤ 0) || its.toArray.isEmpty) = true := by simp [k0]
    have fl : (List.replicate k.toNat xs).flatten = [] := by
      rw [show k.toNat = 0 by omega]
      rfl
    rw [fl] at q2
    refine wpAny_binaryOp_repeat_ref (T := "tuple") (U := "int") (by decide) ⟨_, ho, rfl⟩ (fun s' => typeIs_int s' k t) noFill_tuple_mul F.fills_int_mul F.slot_int_rmul repeat_tuple F.slot_int_index.lookup
      (call_meets F.slot_int_rmul (typeIs_int s k t) F.entry_int_rmul (F.args_int_rmul_2 _ _) (int_rmul_tuple k t l its.toArray n od osl) ⟨ho, rfl, ⟨_, ho, rfl⟩,
        call_meets F.slot_tuple_mul ⟨_, ho, rfl⟩ F.entry_tuple_mul (F.args_tuple_mul_2 _ _) (tup_none l its.toArray n od osl k t c0 c1 c2) ⟨ho, ?_⟩⟩)
    refine ⟨V.ref s.heap.objs.size, _, I.laid (t' := s.toks) (o := .tup []) (fun b ob q => Heap.get?_push_of_some _ q) (Nat.le_refl _) ⟨Nat.zero_le _, [], .nil, IsTup.new _ _⟩, rfl, q2 _ (I.hok.fresh (Nat.le_refl _))⟩
end
section
variable {X : Cx} {L : Lk} {pm : Pm}
/-- the script, put ahead of a list -/
theorem op_catS : OpR X (binaryOp .Add) (fun x y H Q => ∃ a b xs ys, x = .ref a ∧ y = .ref b ∧ Scr X.K H a xs ∧ H b = some (.lst ys) ∧ xs.length + ys.length ≤ sizeLine ∧ ∀ p, H p = none → Q (.ref p) (upd H p (.lst (xs ++ ys)))) := by
  intro pins s σ H x y v u Q I rx ry ⟨a, b, xs, ys, ex, ey, ha, hb, hz, q⟩
  subst ex ey
  cases rx
  cases ry
  obtain ⟨_, i2, n2, r2, e2⟩ := I.hok b _ hb
  obtain ⟨i1, n1, r1, e1⟩ : ∃ (i1 : List Value) (n1 : Nat), Vals xs i1 ∧ s.heap.get? a = some { cls := .type "list", data := .seq i1.toArray n1 } := by
    rcases ha with ⟨o, ha⟩ | ⟨its, n, hk, hs, hv⟩
    · obtain ⟨_, _, i1, n1, r1, e1⟩ := I.hok a _ ha
      exact ⟨i1, n1, r1, e1⟩
    · exact ⟨its.toList, n, hv, by simpa using I.kIn a _ hk⟩
  have l1 := r1.length
  have l2 := r2.length
  refine PySem.P.add_list e1 e2 ?_ (by simp only [List.size_toArray]; omega)
  rw [show i1.toArray ++ i2.toArray = (i1 ++ i2).toArray by simp]
  exact ⟨V.ref _, _, I.lnew (r1.append r2) (by simp only [List.length_append]; omega), rfl, q _ I.fresh⟩
end
def opPy : BOp → Operator
  | .add => .Add
  | .sub => .Sub
  | .mul => .Mult
  | .fdiv => .FloorDiv
  | .mod => .Mod
  | .pow => .Pow
section
variable {X : Cx} {L : Lk} {pm : Pm}
theorem CMul_of {i j : Int} (h : mulOk i j = true) : CMul i j ∨ CMulW i j := by
  unfold mulOk at h
  simp only [Bool.or_eq_true, decide_eq_true_eq] at h
  rcases h with (h | h) | h
  · exact .inl (.inl (log2_abs h))
  · exact .inl (.inr (log2_abs h))
  · exact .inr h
/-- a op b -/
theorem op_bin (hK : X.K = L.K) (op : BOp) : OpR X (binaryOp (opPy op)) (rV L pm fun _ => binV op) := by
  intro pins s σ0 H a b v u Q I ra rb ⟨F, μ, M, ρ, σ, x, y, z, S, rx, ry, e, k⟩
  have fin : ∀ {w : V}, RepV L F μ w z → Q w H := fun {w} r => k F H w S (Sub.refl _) r
  replace e : binV op x y = some z := e
  unfold binV at e
  split at e
  · cases e
    obtain rfl := rx.int
    obtain rfl := ry.int
    exact op_add pins s σ0 H _ _ v u Q I ra rb ⟨_, _, rfl, rfl, fin (.int _)⟩
  · split at e
    · rename_i hz
      cases e
      obtain rfl := rx.str
      obtain rfl := ry.str
      exact op_add_str pins s σ0 H _ _ v u Q I ra rb ⟨_, _, rfl, rfl, hz, fin (.str _)⟩
    · cases e
  · split at e
    · rename_i hz
      cases e
      obtain ⟨p, vs, rfl, h1, h2⟩ := S.tupW rx
      obtain ⟨q, ws, rfl, h3, h4⟩ := S.tupW ry
      have e1 := h2.length
      have e2 := h4.length
      have all : ∀ p, H p = none → Q (.ref p) (upd H p (.tup (vs ++ ws))) := end_tup S (h2.append h4) k
      rw [← hK] at h1 h3
      refine op_catA pins s σ0 H _ _ v u Q I ra rb ⟨p, q, vs, ws, rfl, rfl, h1, h3, by rw [e1, e2]; exact hz, fun e => ?_, fun _ e => ?_, fun _ _ => all⟩
      · subst e
        cases h2
        cases ry with
        | of r => exact fin r
      · subst e
        cases h4
        rw [List.append_nil] at k
        cases rx with
        | of r => exact fin (by rw [List.append_nil]; exact r)
    · cases e
  · split at e
    · rename_i hz
      cases e
      cases rx with
      | of r =>
        obtain ⟨p, vs, rfl, h1, h2⟩ := r.inv_scr
        obtain ⟨q, ws, rfl, h3, h4⟩ := S.lstH ry
        have e1 := h2.length
        have e2 := h4.length
        exact op_catS pins s σ0 H _ _ v u Q I ra rb ⟨p, q, vs, ws, rfl, rfl, by rw [hK]; exact h1.imp (fun ⟨o, z⟩ => ⟨o, S.fz _ _ z⟩) id, h3, by rw [e1, e2]; exact hz, end_lst S (h2.append h4) k⟩
    · cases e
  · split at e
    · rename_i hz
      cases e
      obtain ⟨p, vs, rfl, h1, h2⟩ := S.lstH rx
      obtain ⟨q, ws, rfl, h3, h4⟩ := S.lstH ry
      have e1 := h2.length
      have e2 := h4.length
      exact op_cat pins s σ0 H _ _ v u Q I ra rb ⟨p, q, vs, ws, rfl, rfl, h1, h3, by rw [e1, e2]; exact hz, end_lst S (h2.append h4) k⟩
    · cases e
  · cases e
    obtain rfl := rx.int
    obtain rfl := ry.int
    exact op_sub pins s σ0 H _ _ v u Q I ra rb ⟨_, _, rfl, rfl, fin (.int _)⟩
  · split at e
    · rename_i hz
      cases e
      obtain rfl := rx.int
      obtain rfl := ry.int
      rcases CMul_of hz with h | h
      · exact op_mul pins s σ0 H _ _ v u Q I ra rb ⟨_, _, rfl, rfl, h, fin (.int _)⟩
      · exact op_mulW pins s σ0 H _ _ v u Q I ra rb ⟨_, _, rfl, rfl, h, fin (.int _)⟩
    · cases e
  · split at e
    · rename_i hz
      cases e
      obtain ⟨p, vs, rfl, h1, h2⟩ := S.lstH rx
      obtain rfl := ry.int
      have e1 := h2.length
      exact op_rep pins s σ0 H _ _ v u Q I ra rb ⟨p, _, vs, rfl, rfl, h1, by have := log2_abs hz.1; omega, by have := log2_abs hz.1; omega, by rw [e1]; exact hz.2, end_lst S (h2.rep _) k⟩
    · cases e
  · split at e
    · rename_i hz
      cases e
      obtain ⟨p, vs, rfl, h1, h2⟩ := S.tupW rx
      obtain rfl := ry.int
      have e1 := h2.length
      have h1' := h1
      rw [← hK] at h1'
      refine op_mulT pins s σ0 H _ _ v u Q I ra rb ⟨p, _, vs, rfl, rfl, h1', hz.1, hz.2.1, by rw [e1]; exact hz.2.2, fun e => ?_, end_tup S (h2.rep _) k⟩
      have h3 := h2.rep (Int.toNat ‹Int›)
      rw [e] at h3
      cases rx with
      | of r =>
        cases r with
        | tup q1 q2 => exact fin (.tup q1 (by
            have := SqT.sub S.fz q1
            rename_i ws
            have ew : ws = vs := by
              rw [← hK] at this h1
              exact I.tuple_inj this h1
            rw [ew]
            exact h3))
    · cases e
  · split at e
    · rename_i hz
      cases e
      obtain rfl := rx.int
      obtain rfl := ry.int
      exact op_fdivW pins s σ0 H _ _ v u Q I ra rb ⟨_, _, rfl, rfl, hz, fin (.int _)⟩
    · cases e
  · split at e
    · rename_i hz
      cases e
      obtain rfl := rx.int
      obtain rfl := ry.int
      exact op_mod pins s σ0 H _ _ v u Q I ra rb ⟨_, _, rfl, rfl, hz, fin (.int _)⟩
    · cases e
  · split at e
    · rename_i hz
      cases e
      obtain rfl := rx.int
      obtain rfl := ry.int
      exact op_pow pins s σ0 H _ _ v u Q I ra rb ⟨_, _, rfl, rfl, hz, fin (.int _)⟩
    · cases e
  · cases e
end
end Ev
end
section -- Sound3
/-! Sound3: comparisons, items, slices. -/
namespace Ev
open PySem PySem.Spec PyProof.Rows L2
def copPy : COp → CmpOp
  | .eq => .Eq
  | .ne => .NotEq
  | .lt => .Lt
  | .le => .LtE
  | .gt => .Gt
  | .ge => .GtE
  | .is => .Is
  | .isnot => .IsNot
  | .isin => .In
  | .notin => .NotIn
section
variable {L : Lk} {F : Hp} {μ : List Addr} {ρ : Slots} {σ : L2.St}
theorem WRep.is_non {x : V} {v : PV} (h : WRep L F μ ρ σ x v) : decide (x = .non) = isNon v := by
  cases h with
  | of r => cases r <;> rfl
  | own _ _ => rfl
  | ownD _ _ => rfl
theorem RepV.flat {x : V} {v : PV} (h : RepV L F μ x v) (f : flat v = true) : flatV x = true := by
  cases h <;> first | rfl | cases f
theorem WRep.flat {x : V} {v : PV} (h : WRep L F μ ρ σ x v) (f : flat v = true) : flatV x = true := by
  cases h with
  | of r => exact r.flat f
  | own _ _ => cases f
  | ownD _ _ => cases f
theorem eqV_of {x y : V} {v w : PV} (h : RepV L F μ x v) (g : WRep L F μ ρ σ y w) (f : Ev.flat v = true) (f' : Ev.flat w = true) : eqV x y = eqv v w := by
  cases g with
  | of g => cases h <;> cases g <;> first
    | (simp [eqV, eqv, toD, PyData.eqv]; done)
    | (cases f; done)
    | (cases f'; done)
  | own _ _ => cases f'
  | ownD _ _ => cases f'
theorem anyV_of {y : V} {w : PV} (g : WRep L F μ ρ σ y w) (f' : Ev.flat w = true) : ∀ {vs : List V} {xs : List PV}, RepVs L F μ vs xs → (∀ x ∈ xs, Ev.flat x = true) → vs.all flatV = true ∧ L2.inV y vs = xs.any fun k => eqv k w
  | _, _, .nil, _ => ⟨rfl, rfl⟩
  | _, _, .cons h r, hf => by
    obtain ⟨h1, h2⟩ := anyV_of g f' r fun x hx => hf x (List.mem_cons_of_mem _ hx)
    have f := hf _ List.mem_cons_self
    have e := eqV_of h g f f'
    unfold L2.inV at h2 ⊢
    exact ⟨by rw [List.all_cons, h.flat f, h1] <;> rfl, by rw [List.any_cons, List.any_cons, e, h2]⟩
/-! ### dicts -/
def kOf : PV → Option Key
  | .int i => some (.inl i)
  | .str x => some (.inr x)
  | _ => none
theorem kP_inj {a b : Key} (h : kP a = kP b) : a = b := by
  cases a <;> cases b <;> simp [kP] at h <;> rw [h]
theorem keyOk_kP {k : PV} (h : keyOk k = true) : ∃ q, k = kP q := by
  cases k with
  | int i => exact ⟨.inl i, rfl⟩
  | str x => exact ⟨.inr x, rfl⟩
  | _ => cases h
theorem WRep.key {x : V} {q : Key} (h : WRep L F μ ρ σ x (kP q)) : x = kV q := by
  cases q with
  | inl i => exact h.int
  | inr z => exact h.str
theorem eqv_kP (a b : Key) : eqv (kP a) (kP b) = decide (a = b) := by
  cases a <;> cases b <;> simp [eqv, kP, toD, PyData.eqv]
  · exact Bool.beq_eq_decide_eq _ _
  · exact Bool.beq_eq_decide_eq _ _
theorem dget_val {L : Lk} {F : Hp} {μ : List Addr} (q : Key) : ∀ {kvs : List (Key × V)} {vs : List PV}, RepVs L F μ (kvs.map (·.2)) vs → (∀ z, dget (kvs.map fun p => kP p.1) vs (kP q) = some z → ∃ v, valV kvs q = some v ∧ RepV L F μ v z) ∧ (((kvs.map fun p => kP p.1).any fun k => eqv k (kP q)) = (valV kvs q).isSome)
  | [], _, .nil => ⟨fun z h => by simp [dget] at h, rfl⟩
  | (k, v) :: kvs, _, .cons h r => by
    obtain ⟨h1, h2⟩ := dget_val q r
    refine ⟨fun z hz => ?_, ?_⟩
    · simp only [List.map_cons, dget, eqv_kP] at hz
      by_cases e : k = q
      · simp only [e, decide_true, if_true, Option.some.injEq] at hz
        subst hz
        exact ⟨v, valV_pos (p := (k, v)) e, h⟩
      · simp only [e, decide_false, Bool.false_eq_true, if_false] at hz
        obtain ⟨w, h3, h4⟩ := h1 z hz
        exact ⟨w, by rw [valV_neg (p := (k, v)) e]; exact h3, h4⟩
    · simp only [List.map_cons, List.any_cons, eqv_kP]
      by_cases e : k = q
      · rw [valV_pos (p := (k, v)) e]
        simp [e]
      · rw [valV_neg (p := (k, v)) e, ← h2]
        simp only [e, decide_false, Bool.false_or]
end
section
variable {X : Cx} {L : Lk} {pm : Pm}
theorem ltb {K : PySem.W.Frag} {H : Hp} {x : V} {v : PyData} : True := trivial
/-- a op b, compared -/
theorem op_cmp (hK : X.K = L.K) (hu : X.A.units + 65 < cLine) (op : COp) : OpR X (compareOp (copPy op)) (rV L pm fun M x y => (cmpV M op x y).map .bl) := by
  intro pins s σ0 H a b v u Q I ra rb ⟨F, μ, M, ρ, σ, x, y, z, S, rx, ry, e, k⟩
  replace e : (cmpV M op x y).map PV.bl = some z := e
  obtain ⟨r, e1, rfl⟩ := Option.map_eq_some_iff.mp e
  clear e
  have e : cmpV M op x y = some r := e1
  clear e1
  have fin : Q (.bl r) H := k F H _ S (Sub.refl _) (.bl r)
  have hu0 : X.A.units < cLine := by omega
  have hu1 : X.A.units + 1 < cLine := by omega
  have hu64 : X.A.units + 64 < cLine := by omega
  have inn : ∀ {r : Bool}, Ev.inV M x y = some r → (∀ {neg : Bool} {o : CmpOp}, (neg = false ∧ o = .In ∨ neg = true ∧ o = .NotIn) → Q (.bl (if neg = true then !r else r)) H → wpAny (model X.prog X.w) X.A (compareOp o v u) (EP X pins σ0 Q) X.xe s) := by
    intro r e neg o ho fin
    have dct : ∀ {a' : Addr} {kvs : List (Key × V)} {q : Key} {b' : Bool}, b = .ref a' → H a' = some (.dK kvs) → a = kV q → (valV kvs q).isSome = r → wpAny (model X.prog X.w) X.A (compareOp o v u) (EP X pins σ0 Q) X.xe s := by
      intro a' kvs q b' eb ha ea er
      subst eb ea
      cases rb
      have g : DGet H a' (kV q) (valV kvs q) := DGet.k ha
      rcases ho with ⟨rfl, rfl⟩ | ⟨rfl, rfl⟩
      · refine d_in hu1 I g ra fun s' I' => ⟨.bl _, H, I', rfl, ?_⟩
        rw [er]
        exact fin
      · refine d_notIn hu1 I g ra fun s' I' => ⟨.bl _, H, I', rfl, ?_⟩
        rw [er]
        exact fin
    have lstc : ∀ {xs : List PV}, WRep L F μ ρ σ b (.lst xs) ∨ (∃ a' vs, b = .ref a' ∧ H a' = some (.lst vs) ∧ RepVs L F μ vs xs) → (isD 60 x && xs.all (isD 59)) = true → (xs.any fun k => eqv k x) = r → wpAny (model X.prog X.w) X.A (compareOp o v u) (EP X pins σ0 Q) X.xe s := by
      intro xs hb hd er
      obtain ⟨d1, d2⟩ := Bool.and_eq_true_iff.mp hd
      have d3 : isD 60 (.lst xs) = true := d2
      obtain ⟨a', vs, eb, ha, hr⟩ : ∃ a' vs, b = .ref a' ∧ H a' = some (.lst vs) ∧ RepVs L F μ vs xs := by
        rcases hb with hb | hb
        · exact S.lstH hb
        · exact hb
      have dy : Dp X.K H b (.list (toDs xs)) := by
        rw [eb, hK]
        exact .lst (SqL.of ha) (dps_of S.fz hr (n := 59) (by simpa using d2))
      have dx : Dp X.K H a (toD x) := by rw [hK]; exact S.dpW rx d1
      have es : SeqAt.shaped (.list (toDs xs)) = true := shaped60 d3
      have er2 : ((toDs xs).any fun z => PyData.eqv z (toD x)) = r := by
        rw [← er, toDs_eq, List.any_map]
        rfl
      rcases ho with ⟨rfl, rfl⟩ | ⟨rfl, rfl⟩
      · exact op_inD hu pins s σ0 H a b v u Q I ra rb ⟨_, _, dx, dy, shaped60 d1, es, by rw [er2]; exact fin⟩
      · exact op_notInD hu pins s σ0 H a b v u Q I ra rb ⟨_, _, dx, dy, shaped60 d1, es, by rw [er2]; exact fin⟩
    cases y with
    | dct ks vs =>
      simp only [Ev.inV] at e
      split at e
      · rename_i hk
        obtain ⟨q, rfl⟩ := keyOk_kP hk
        obtain ⟨a', kvs, eb, ha, ek, hr⟩ := S.dctW ry
        cases e
        subst ek
        exact dct (b' := true) eb ha rx.key (dget_val q hr).2.symm
      · cases e
    | ref i =>
      simp only [Ev.inV] at e
      cases hm : M[i]? with
      | none => simp [hm] at e
      | some m =>
        obtain ⟨a', o', eb, _, ha, hr⟩ := S.refW ry hm
        cases m with
        | dct ks vs =>
          simp only [hm] at e
          split at e
          · rename_i hk
            obtain ⟨q, rfl⟩ := keyOk_kP hk
            cases e
            cases o' <;> first
              | exact False.elim hr
              | (obtain ⟨ek, hr⟩ := hr
                 subst ek
                 exact dct (b' := true) eb ha rx.key (dget_val q hr).2.symm)
          · cases e
        | lst xs =>
          simp only [hm] at e
          split at e
          · rename_i hk
            cases e
            cases o' <;> first
              | exact False.elim hr
              | exact lstc (.inr ⟨_, _, eb, ha, hr⟩) hk rfl
          · cases e
        | ins c fs => simp [hm] at e
    | lst xs =>
      simp only [Ev.inV] at e
      split at e
      · rename_i hk
        cases e
        exact lstc (.inl ry) hk rfl
      · cases e
    | tup xs =>
      simp only [Ev.inV] at e
      split at e
      · rename_i hk
        cases e
        obtain ⟨f1, f2⟩ := Bool.and_eq_true_iff.mp hk
        obtain ⟨a', vs, eb, ha, hr⟩ := S.tupW ry
        obtain ⟨h1, h2⟩ := anyV_of rx f1 hr (by simpa using f2)
        rw [← hK] at ha
        rcases ho with ⟨rfl, rfl⟩ | ⟨rfl, rfl⟩
        · exact op_in_seq pins s σ0 H a b v u Q I ra rb ⟨_, _, eb, .inr ha, rx.flat f1, h1, by rw [h2]; exact fin⟩
        · exact op_notIn_seq pins s σ0 H a b v u Q I ra rb ⟨_, _, eb, .inr ha, rx.flat f1, h1, by rw [h2]; exact fin⟩
      · cases e
    | str t =>
      cases x with
      | str c =>
        simp only [Ev.inV] at e
        cases e
        obtain rfl := rx.str
        obtain rfl := ry.str
        rcases ho with ⟨rfl, rfl⟩ | ⟨rfl, rfl⟩
        · exact op_in_str pins s σ0 H _ _ v u Q I ra rb ⟨_, _, rfl, rfl, fin⟩
        · exact op_notin_str pins s σ0 H _ _ v u Q I ra rb ⟨_, _, rfl, rfl, fin⟩
      | _ => simp [Ev.inV] at e
    | _ => simp [Ev.inV] at e
  unfold cmpV at e
  split at e
  · split at e
    · rename_i hd
      cases e
      obtain ⟨d1, d2⟩ := Bool.and_eq_true_iff.mp hd
      have d1 := data_ok d1
      have d2 := data_ok d2
      exact op_eqD hu64 pins s σ0 H a b v u Q I ra rb ⟨_, _, by rw [hK]; exact S.dpW rx d1, by rw [hK]; exact S.dpW ry d2, shaped60 d1, shaped60 d2, fin⟩
    · cases e
  · split at e
    · rename_i hd
      cases e
      obtain ⟨d1, d2⟩ := Bool.and_eq_true_iff.mp hd
      have d1 := data_ok d1
      have d2 := data_ok d2
      exact op_neD hu64 pins s σ0 H a b v u Q I ra rb ⟨_, _, by rw [hK]; exact S.dpW rx d1, by rw [hK]; exact S.dpW ry d2, shaped60 d1, shaped60 d2, fin⟩
    · cases e
  · cases e
    obtain rfl := rx.int
    obtain rfl := ry.int
    exact op_lt pins s σ0 H _ _ v u Q I ra rb ⟨_, _, rfl, rfl, fin⟩
  · obtain ⟨ns, e1, e⟩ := Option.bind_eq_some_iff.mp e
    obtain ⟨ms, e2, e⟩ := Option.bind_eq_some_iff.mp e
    cases e
    obtain ⟨p, vs, ep, h1, h2⟩ := S.tupW rx
    obtain ⟨q, ws, eq, h3, h4⟩ := S.tupW ry
    rw [h2.ints e1, ← hK] at h1
    rw [h4.ints e2, ← hK] at h3
    exact op_ltT hu0 pins s σ0 H a b v u Q I ra rb ⟨_, _, _, _, ep, eq, h1, h3, fin⟩
  · cases e
    obtain rfl := rx.int
    obtain rfl := ry.int
    exact op_le pins s σ0 H _ _ v u Q I ra rb ⟨_, _, rfl, rfl, fin⟩
  · cases e
    obtain rfl := rx.int
    obtain rfl := ry.int
    exact op_gt pins s σ0 H _ _ v u Q I ra rb ⟨_, _, rfl, rfl, fin⟩
  · cases e
    obtain rfl := rx.int
    obtain rfl := ry.int
    exact op_ge pins s σ0 H _ _ v u Q I ra rb ⟨_, _, rfl, rfl, fin⟩
  · cases e
    obtain rfl := ry.non
    refine op_isN pins s σ0 H a _ v u Q I ra rb ⟨rfl, ?_⟩
    rw [rx.is_non]
    exact fin
  · cases e
    obtain rfl := ry.non
    refine op_notN pins s σ0 H a _ v u Q I ra rb ⟨rfl, ?_⟩
    rw [rx.is_non]
    exact fin
  · exact inn e (.inl ⟨rfl, rfl⟩) fin
  · obtain ⟨r', e1, rfl⟩ := Option.map_eq_some_iff.mp e
    exact inn e1 (.inr ⟨rfl, rfl⟩) fin
  · cases e
end
end Ev
end
section -- Sound4
/-! Sound4: items, slices, built-ins. -/
namespace Ev
open PySem PySem.Spec PyProof.Rows L2
theorem atI_rep {L : Lk} {F : Hp} {μ : List Addr} {vs : List V} {xs : List PV} (r : RepVs L F μ vs xs) {i : Int} {z : PV} (h : at? xs i = some z) : ∃ v, atI vs i = some v ∧ RepV L F μ v z := by
  unfold at? atI at h
  obtain ⟨j, h1, h2⟩ := Option.bind_eq_some_iff.mp h
  obtain ⟨v, h3, h4⟩ := r.get h2
  refine ⟨v, ?_, h4⟩
  unfold atI
  rw [r.length, h1]
  exact h3
theorem sl_rep {L : Lk} {F : Hp} {μ : List Addr} {vs : List V} {xs : List PV} (r : RepVs L F μ vs xs) (lo hi : Option Int) : RepVs L F μ (cutV vs lo hi) (sl xs lo hi) := by
  unfold cutV sl
  rw [r.length]
  exact (r.drop _).take _
/-- a slice, by its bounds -/
def rS (L : Lk) (pm : Pm) : V → Option Int → Option Int → Hp → VK → Prop := fun a lo hi H Q => ∃ F μ M ρ σ x v, Stt L pm F μ M ρ σ H ∧ WRep L F μ ρ σ a x ∧ slcO x lo hi = some v ∧
  ∀ F' H' z, Stt L pm F' μ M ρ σ H' → Sub F F' → RepV L F' μ z v → Q z H'
section
variable {X : Cx} {L : Lk} {pm : Pm}
theorem ix_dict (hu : X.A.units + 1 < cLine) : IxR X (fun x y H Q => ∃ a v, x = .ref a ∧ DGet H a y (some v) ∧ Q v H) := by
  intro value slice pins s σ H x y v u Q I rx ry ⟨a, w, ex, g, q⟩ hs
  subst ex
  cases rx
  exact tail_any (dict_typeIs I g) PySem.F.slot_dict_getitem.lookup (d_getItem hu I g ry fun w' s' I' r' => ⟨w, H, I', r', q⟩) hs
/-- a[b] -/
theorem ix_V (hK : X.K = L.K) (hu : X.A.units + 1 < cLine) : IxR X (rV L pm idxV) := by
  intro value slice pins s σ0 H a b v u Q I ra rb ⟨F, μ, M, ρ, σ, x, y, z, S, rx, ry, e, k⟩ hs
  have fin : ∀ {w : V}, RepV L F μ w z → Q w H := fun {w} r => k F H w S (Sub.refl _) r
  have lst : ∀ {p : Addr} {vs : List V} {xs : List PV} {i : Int}, a = .ref p → (SqL X.K H p vs ∨ SqT X.K H p vs) → RepVs L F μ vs xs → y = .int i → at? xs i = some z → wpAny (model X.prog X.w) X.A (subscriptTail value slice v u) (EP X pins σ0 Q) X.xe s := by
    intro p vs xs i ea hq hr ey hz
    subst ey
    obtain rfl := ry.int
    obtain ⟨w, h1, h2⟩ := atI_rep hr hz
    rcases hq with hq | hq
    · exact ix_list value slice pins s σ0 H a _ v u Q I ra rb ⟨p, vs, i, w, ea, rfl, hq, h1, fin h2⟩ hs
    · exact ix_tup value slice pins s σ0 H a _ v u Q I ra rb ⟨p, vs, i, w, ea, rfl, hq, h1, fin h2⟩ hs
  have dct : ∀ {p : Addr} {kvs : List (Key × V)} {vs : List PV}, a = .ref p → H p = some (.dK kvs) → RepVs L F μ (kvs.map (·.2)) vs → keyOk y = true → dget (kvs.map fun p => kP p.1) vs y = some z → wpAny (model X.prog X.w) X.A (subscriptTail value slice v u) (EP X pins σ0 Q) X.xe s := by
    intro p kvs vs ea hp hr hk hz
    obtain ⟨q, rfl⟩ := keyOk_kP hk
    obtain ⟨w, h1, h2⟩ := (dget_val q hr).1 z hz
    refine ix_dict hu value slice pins s σ0 H a b v u Q I ra rb ⟨p, w, ea, ?_, fin h2⟩ hs
    rw [ry.key, ← h1]
    exact DGet.k hp
  replace e : idxV M x y = some z := e
  cases x with
  | str t =>
    cases y with
    | int i =>
      simp only [idxV] at e
      split at e
      · rename_i hz
        obtain ⟨c, h1, h2⟩ := Option.map_eq_some_iff.mp e
        subst h2
        obtain rfl := rx.str
        obtain rfl := ry.int
        exact ix_str value slice pins s σ0 H _ _ v u Q I ra rb ⟨t, i, c, rfl, rfl, hz, h1, fin (.str _)⟩ hs
      · cases e
    | _ => simp [idxV] at e
  | dct ks vs =>
    simp only [idxV] at e
    split at e
    · rename_i hk
      obtain ⟨p, kvs, ea, hp, ek, hr⟩ := S.dctW rx
      subst ek
      exact dct ea hp hr hk e
    · cases e
  | lst xs =>
    cases y with
    | int i =>
      obtain ⟨p, vs, ea, hp, hr⟩ := S.lstW rx
      rw [← hK] at hp
      exact lst ea (.inl hp) hr rfl e
    | _ => simp [idxV] at e
  | tup xs =>
    cases y with
    | int i =>
      obtain ⟨p, vs, ea, hp, hr⟩ := S.tupW rx
      rw [← hK] at hp
      exact lst ea (.inr hp) hr rfl e
    | _ => simp [idxV] at e
  | ref i =>
    cases hm : M[i]? with
    | none => simp [idxV, hm] at e
    | some m =>
      obtain ⟨p, o, ea, _, hp, hr⟩ := S.refW rx hm
      cases m with
      | lst xs =>
        cases y with
        | int i =>
          simp only [idxV, hm] at e
          cases o <;> first
            | exact False.elim hr
            | exact lst ea (.inl (SqL.of hp)) hr rfl e
        | _ => simp [idxV, hm] at e
      | dct ks vs =>
        simp only [idxV, hm] at e
        split at e
        · rename_i hk
          cases o <;> first
            | exact False.elim hr
            | (obtain ⟨ek, hr⟩ := hr
               subst ek
               exact dct ea hp hr hk e)
        · cases e
      | ins c fs => simp [idxV, hm] at e
  | _ => simp [idxV] at e
/-- a[lo:hi] -/
theorem sl_V (hK : X.K = L.K) : SlR X (rS L pm) := by
  intro pins s σ0 H a v vl vu lo hi sl' Q I ra hs pl pu ⟨F, μ, M, ρ, σ, x, z, S, rx, e, k⟩
  have fin : ∀ {w : V}, RepV L F μ w z → Q w H := fun {w} r => k F H w S (Sub.refl _) r
  unfold slcO at e
  split at e
  · cases e
    obtain ⟨p, vs, ea, hp, hr⟩ := S.tupW rx
    have hp' := hp
    rw [← hK] at hp
    refine sl_tupA pins s σ0 H a v vl vu lo hi sl' Q I ra hs pl pu ⟨p, vs, ea, hp, fun w => ?_, fun _ => end_tup S (sl_rep hr lo hi) k⟩
    have same : ∀ {α : Type} (l : List α), l.length = vs.length → (l.drop (HT.sIx l.length 0 lo)).take (HT.sIx l.length l.length hi - HT.sIx l.length 0 lo) = l := fun l hl => by
      rw [hl, w.1, w.2, ← hl, List.drop_zero, Nat.sub_zero, List.take_length]
    subst ea
    cases rx with
    | of r => exact fin (by
        unfold Ev.sl
        rw [same _ hr.length.symm]
        exact r)
  · cases e
    obtain ⟨p, vs, ea, hp, hr⟩ := S.lstW rx
    rw [← hK] at hp
    exact sl_list pins s σ0 H a v vl vu lo hi sl' Q I ra hs pl pu ⟨p, vs, ea, hp, end_lst S (sl_rep hr lo hi) k⟩
  · split at e
    · rename_i hz
      cases e
      obtain rfl := rx.str
      exact sl_str pins s σ0 H _ v vl vu lo hi sl' Q I ra hs pl pu ⟨_, rfl, hz, fin (.str _)⟩
    · cases e
  · cases e
end
end Ev
end
section -- Sound5
/-! Sound5: built-ins by values. -/
namespace Ev
open PySem PySem.Spec PyProof.Rows L2
inductive WReps (L : Lk) (F : Hp) (μ : List Addr) (ρ : Slots) (σ : L2.St) : List V → List PV → Prop
  | nil : WReps L F μ ρ σ [] []
  | cons {v : V} {p : PV} {vs : List V} {ps : List PV} : WRep L F μ ρ σ v p → WReps L F μ ρ σ vs ps → WReps L F μ ρ σ (v :: vs) (p :: ps)
theorem WReps.mono {L : Lk} {F F' : Hp} {μ μ' : List Addr} {ρ : Slots} {σ : L2.St} (s : Sub F F') (p : μ <+: μ') : ∀ {vs : List V} {ps : List PV}, WReps L F μ ρ σ vs ps → WReps L F' μ' ρ σ vs ps
  | _, _, .nil => .nil
  | _, _, .cons h r => .cons (h.mono s p) (r.mono s p)
/-- a built-in's name, its value, how many arguments -/
def biPy : Bi → String × Value × Nat
  | .len => ("len", .builtin "len", 1)
  | .sum => ("sum", .builtin "sum", 1)
  | .max => ("max", .builtin "max", 1)
  | .min => ("min", .builtin "min", 1)
  | .max2 => ("max", .builtin "max", 2)
  | .min2 => ("min", .builtin "min", 2)
  | .all => ("all", .builtin "all", 1)
  | .any => ("any", .builtin "any", 1)
  | .tupOf => ("tuple", .type "tuple", 1)
  | .listOf => ("list", .type "list", 1)
  | .sorted => ("sorted", .builtin "sorted", 1)
  | .intOf => ("int", .type "int", 1)
  | .strOf => ("str", .type "str", 1)
  | .reprOf => ("repr", .builtin "repr", 1)
  | .sortedSet => ("sorted", .builtin "sorted", 1)
/-- f of values -/
def rB (L : Lk) (pm : Pm) (f : Mem → List PV → Option PV) : List V → Hp → VK → Prop := fun vs H Q => ∃ F μ M ρ σ xs z, Stt L pm F μ M ρ σ H ∧ WReps L F μ ρ σ vs xs ∧ f M xs = some z ∧
  ∀ F' H' w, Stt L pm F' μ M ρ σ H' → Sub F F' → RepV L F' μ w z → Q w H'
theorem maxL_ok : ∀ {ns : List Int} {m : Int}, maxL ns = some m → m ∈ ns ∧ ∀ y ∈ ns, y ≤ m := by
  intro ns m h
  cases ns with
  | nil => cases h
  | cons x xs =>
    cases h
    induction xs generalizing x with
    | nil => simp
    | cons y ys ih =>
      simp only [List.foldl_cons]
      obtain ⟨h1, h2⟩ := ih (if y > x then y else x)
      refine ⟨?_, fun z hz => ?_⟩
      · rcases List.mem_cons.mp h1 with h1 | h1
        · rw [h1]
          split <;> simp
        · simp [h1]
      · have h3 := h2 _ List.mem_cons_self
        rcases List.mem_cons.mp hz with e | hz
        · subst e
          exact Int.le_trans (by split <;> omega) h3
        · rcases List.mem_cons.mp hz with e | hz
          · subst e
            exact Int.le_trans (by split <;> omega) h3
          · exact h2 z (List.mem_cons_of_mem _ hz)
theorem minL_ok : ∀ {ns : List Int} {m : Int}, minL ns = some m → m ∈ ns ∧ ∀ y ∈ ns, m ≤ y := by
  intro ns m h
  cases ns with
  | nil => cases h
  | cons x xs =>
    cases h
    induction xs generalizing x with
    | nil => simp
    | cons y ys ih =>
      simp only [List.foldl_cons]
      obtain ⟨h1, h2⟩ := ih (if y < x then y else x)
      refine ⟨?_, fun z hz => ?_⟩
      · rcases List.mem_cons.mp h1 with h1 | h1
        · rw [h1]
          split <;> simp
        · simp [h1]
      · have h3 := h2 _ List.mem_cons_self
        rcases List.mem_cons.mp hz with e | hz
        · subst e
          exact Int.le_trans h3 (by split <;> omega)
        · rcases List.mem_cons.mp hz with e | hz
          · subst e
            exact Int.le_trans h3 (by split <;> omega)
          · exact h2 z (List.mem_cons_of_mem _ hz)
theorem wreps1 {L : Lk} {F : Hp} {μ : List Addr} {ρ : Slots} {σ : L2.St} {vs : List V} {p : PV} (h : WReps L F μ ρ σ vs [p]) : ∃ v, vs = [v] ∧ WRep L F μ ρ σ v p := by
  cases h with
  | cons h r => cases r; exact ⟨_, rfl, h⟩
theorem wreps2 {L : Lk} {F : Hp} {μ : List Addr} {ρ : Slots} {σ : L2.St} {vs : List V} {p q : PV} (h : WReps L F μ ρ σ vs [p, q]) : ∃ v w, vs = [v, w] ∧ WRep L F μ ρ σ v p ∧ WRep L F μ ρ σ w q := by
  cases h with
  | cons h r => cases r with
    | cons h2 r => cases r; exact ⟨_, _, rfl, h, h2⟩
section
variable {X : Cx} {L : Lk} {pm : Pm}
theorem call_lenD {X : Cx} : CallR X (.builtin "len") (fun xs H Q => ∃ a kvs, xs = [.ref a] ∧ H a = some (.dK kvs) ∧ Q (.int kvs.length) H) := by
  intro pins s σ H xs us Q I r ⟨a, kvs, ex, ha, q⟩
  subst ex
  obtain ⟨u, eu, ru⟩ := vals1 r
  subst eu
  cases ru
  exact d_len I (.inl ha) fun t s' I' => ⟨.int _, H, I', ⟨t, rfl⟩, q⟩
theorem isD_facts : ∀ (n : Nat) (v : PV), isD n v = true → (toD v).hasDict = false ∧ (toD v).depth ≤ n := by
  have lst : ∀ (n : Nat) (xs : List PV), (∀ v ∈ xs, (toD v).hasDict = false ∧ (toD v).depth ≤ n) → PyData.hasDictAll (toDs xs) = false ∧ PyData.depthAll (toDs xs) ≤ n := by
    intro n xs
    induction xs with
    | nil => intro _; exact ⟨by simp [toDs, PyData.hasDictAll], by simp [toDs, PyData.depthAll]⟩
    | cons x xs ih =>
      intro h
      obtain ⟨h1, h2⟩ := h x List.mem_cons_self
      obtain ⟨h3, h4⟩ := ih fun v hv => h v (List.mem_cons_of_mem _ hv)
      refine ⟨?_, ?_⟩
      · rw [toDs, PyData.hasDictAll, h1, h3] <;> rfl
      · rw [toDs, PyData.depthAll]
        exact Nat.max_le.mpr ⟨h2, h4⟩
  intro n
  induction n with
  | zero =>
    intro v h
    cases v <;> first
      | (cases h; done)
      | exact ⟨by simp [toD, PyData.hasDict], by simp [toD, PyData.depth]⟩
  | succ n ih =>
    intro v h
    cases v with
    | tup xs =>
      obtain ⟨h1, h2⟩ := lst n xs fun v hv => ih v (List.all_eq_true.mp h v hv)
      exact ⟨by rw [toD, PyData.hasDict, h1], by rw [toD, PyData.depth]; omega⟩
    | lst xs =>
      obtain ⟨h1, h2⟩ := lst n xs fun v hv => ih v (List.all_eq_true.mp h v hv)
      exact ⟨by rw [toD, PyData.hasDict, h1], by rw [toD, PyData.depth]; omega⟩
    | dct _ _ => cases h
    | ref _ => cases h
    | scr _ => cases h
    | _ => exact ⟨by simp [toD, PyData.hasDict], by simp [toD, PyData.depth]⟩
/-- repr of data -/
theorem call_reprD (hgd : X.A.guards = some []) (hu : X.A.units + 65 < cLine) {d : PyData} (hs : d.showable = true) (hd : d.hasDict = false) (hdp : d.depth ≤ 60) (hz : d.shown.length ≤ sizeLine) :
    CallR X (.builtin "repr") (fun vs H Q => ∃ x, vs = [x] ∧ Dp X.K H x d ∧ Q (.str d.shown) H) := by
  intro pins s σ H vs us Q I rv ⟨x, ev, hp, q⟩
  subst ev
  obtain ⟨u, rfl, ru⟩ : ∃ u, us = [u] ∧ RelV x u := by
    cases rv with
    | cons h t =>
      cases t
      exact ⟨_, rfl, h⟩
  obtain ⟨as, hr⟩ := Dp.reads I d x u hp ru
  have fin : ∀ (h' : Heap) (tok tk : Nat), (∀ b o, s.heap.get? b = some o → h'.get? b = some o) → EP X pins σ Q (.str d.shown tok) { s with heap := h', toks := tk } := fun h' tok tk k => ⟨.str d.shown, H, I.kept k, ⟨tok, rfl⟩, q⟩
  cases hr with
  | none => exact PySem.P.repr_of_none (by simpa [PyData.shown] using fin s.heap _ _ fun _ _ e => e)
  | bool b => exact PySem.P.repr_of_bool (by simpa [PyData.shown] using fin s.heap _ _ fun _ _ e => e)
  | int i t => exact PySem.P.repr_of_int (by simpa [PyData.showable] using hs) (by simpa [PyData.shown] using fin s.heap _ _ fun _ _ e => e)
  | str z t => exact PySem.P.repr_of_str (by simpa [PyData.shown] using fin s.heap _ _ fun _ _ e => e) (by simpa [PyData.shown] using hz)
  | list h1 h2 h3 h4 => exact repr_of_reads' (.list h1 h2 h3 h4) hs (PyData.noDict_hsm hd) hgd (by omega) (fun _ _ e => e) (fun h' tok tk k => fin h' tok tk k) hz
  | tuple h1 h2 h3 h4 => exact repr_of_reads' (.tuple h1 h2 h3 h4) hs (PyData.noDict_hsm hd) hgd (by omega) (fun _ _ e => e) (fun h' tok tk k => fin h' tok tk k) hz
  | dict _ _ _ _ _ => simp [PyData.hasDict] at hd
/-- sum of a tuple -/
theorem call_sumT (hc : X.calm = true) : CallR X (.builtin "sum") (fun vs H Q => ∃ (a : Addr) (ns : List Int), vs = [V.ref a] ∧ SqT X.K H a (ns.map V.int) ∧ Q (.int ns.sum) H) := by
  intro pins s σ H vs us Q I r h
  obtain ⟨a, ns, rfl, hs, q⟩ := h
  obtain ⟨its, rv, hl, _⟩ := I.tuple hs
  rw [Vals.ref1 r]
  obtain ⟨xs, e⟩ := rv.ints.allInts.items
  have hn : numsOf (intItems xs).toList = ns := by rw [← e]; exact rv.ints.numsOf
  rw [nums_intItems] at hn
  rw [e] at hl
  refine PySem.W.ktm_sumG (I.ok.hd hc) hl fun h' tk t' hk => ?_
  have g : EP X pins σ Q (.int ns.sum t') { s with heap := h', toks := tk } := ⟨.int ns.sum, H, I.kept hk, ⟨t', rfl⟩, q⟩
  rw [preSum_eq, List.take_of_length_le (by simp), hn]
  exact g
theorem call_biV (hK : X.K = L.K) (hc : X.calm = true) (hgd : X.A.guards = some []) (hu : X.A.units + 65 < cLine) (b : Bi) (hb : b ≠ .sorted) : CallR X (biPy b).2.1 (rB L pm fun M => biV M b) := by
  intro pins s σ0 H vs us Q I rv ⟨F, μ, M, ρ, σ, xs, z, S, rx, e, k⟩
  have fin : ∀ {w : V}, RepV L F μ w z → Q w H := fun {w} r => k F H w S (Sub.refl _) r
  replace e : biV M b xs = some z := e
  unfold biV at e
  split at e
  · obtain ⟨v, rfl, hv⟩ := wreps1 rx
    split at e
    · split at e
      · rename_i hz
        cases e
        obtain rfl := hv.str
        exact call_len_str pins s σ0 H _ us Q I rv ⟨_, rfl, hz, fin (.int _)⟩
      · cases e
    · cases e
      obtain ⟨a, kvs, rfl, ha, ek, hr⟩ := S.dctW hv
      refine call_lenD pins s σ0 H _ us Q I rv ⟨a, kvs, rfl, ha, fin ?_⟩
      rw [ek, List.length_map]
      exact .int _
    · rename_i i
      cases hm : M[i]? with
      | none => simp [hm] at e
      | some m =>
        obtain ⟨a, o, rfl, _, ha, hr⟩ := S.refW hv hm
        cases m with
        | dct ks ws =>
          simp only [hm, Option.some.injEq] at e
          subst e
          cases o <;> first
            | exact False.elim hr
            | (obtain ⟨ek, hr⟩ := hr
               refine call_lenD pins s σ0 H _ us Q I rv ⟨a, _, rfl, ha, fin ?_⟩
               rw [ek, List.length_map]
               exact .int _)
        | lst ys =>
          simp only [hm, Option.some.injEq] at e
          subst e
          cases o <;> first
            | exact False.elim hr
            | (refine call_len_seq pins s σ0 H _ us Q I rv ⟨a, _, rfl, .inl (SqL.of ha), fin ?_⟩
               have hl := RepVs.length hr
               rw [hl]
               exact .int _)
        | ins c fs => simp [hm] at e
    · obtain ⟨ys, h1, rfl⟩ := Option.map_eq_some_iff.mp e
      obtain ⟨a, ws, rfl, hq, hr⟩ := S.look hv h1
      rw [← hK] at hq
      refine call_len_seq pins s σ0 H _ us Q I rv ⟨a, ws, rfl, hq, fin ?_⟩
      rw [hr.length]
      exact .int _
  · obtain ⟨v, rfl, hv⟩ := wreps1 rx
    obtain ⟨ns, h1, rfl⟩ := Option.map_eq_some_iff.mp e
    obtain ⟨a, ws, rfl, hq, hr⟩ := S.lstW hv
    rw [hr.ints h1, ← hK] at hq
    exact cr_sum hc pins s σ0 H _ us Q I rv ⟨a, ns, rfl, hq, fin (.int _)⟩
  · obtain ⟨v, rfl, hv⟩ := wreps1 rx
    obtain ⟨ns, h1, rfl⟩ := Option.map_eq_some_iff.mp e
    obtain ⟨a, ws, rfl, hq, hr⟩ := S.tupW hv
    rw [hr.ints h1, ← hK] at hq
    exact call_sumT hc pins s σ0 H _ us Q I rv ⟨a, ns, rfl, hq, fin (.int _)⟩
  · obtain ⟨v, rfl, hv⟩ := wreps1 rx
    obtain ⟨ns, h1, e⟩ := Option.bind_eq_some_iff.mp e
    obtain ⟨m, h2, rfl⟩ := Option.map_eq_some_iff.mp e
    obtain ⟨a, ws, rfl, hq, hr⟩ := S.lstW hv
    rw [hr.ints h1, ← hK] at hq
    obtain ⟨m1, m2⟩ := maxL_ok h2
    refine cr_max hc pins s σ0 H _ us Q I rv ⟨a, ns, rfl, hq, List.length_pos_of_mem m1, fun m' k1 k2 => ?_⟩
    obtain rfl : m' = m := by
      have := m2 m' k1
      have := k2 m m1
      omega
    exact fin (.int _)
  · obtain ⟨v, rfl, hv⟩ := wreps1 rx
    obtain ⟨ns, h1, e⟩ := Option.bind_eq_some_iff.mp e
    obtain ⟨m, h2, rfl⟩ := Option.map_eq_some_iff.mp e
    obtain ⟨a, ws, rfl, hq, hr⟩ := S.lstW hv
    rw [hr.ints h1, ← hK] at hq
    obtain ⟨m1, m2⟩ := minL_ok h2
    refine cr_min hc pins s σ0 H _ us Q I rv ⟨a, ns, rfl, hq, List.length_pos_of_mem m1, fun m' k1 k2 => ?_⟩
    obtain rfl : m' = m := by
      have := m2 m' k1
      have := k2 m m1
      omega
    exact fin (.int _)
  · cases e
    obtain ⟨v, w, rfl, hv, hw⟩ := wreps2 rx
    obtain rfl := hv.int
    obtain rfl := hw.int
    exact call_max2 hc pins s σ0 H _ us Q I rv ⟨_, _, rfl, fin (.int _)⟩
  · cases e
    obtain ⟨v, w, rfl, hv, hw⟩ := wreps2 rx
    obtain rfl := hv.int
    obtain rfl := hw.int
    exact call_min2 hc pins s σ0 H _ us Q I rv ⟨_, _, rfl, fin (.int _)⟩
  · obtain ⟨v, rfl, hv⟩ := wreps1 rx
    obtain ⟨bs, h1, rfl⟩ := Option.map_eq_some_iff.mp e
    obtain ⟨a, ws, rfl, hq, hr⟩ := S.lstW hv
    rw [hr.bools h1, ← hK] at hq
    exact cr_all hc pins s σ0 H _ us Q I rv ⟨a, bs, rfl, hq, fin (.bl _)⟩
  · obtain ⟨v, rfl, hv⟩ := wreps1 rx
    obtain ⟨bs, h1, rfl⟩ := Option.map_eq_some_iff.mp e
    obtain ⟨a, ws, rfl, hq, hr⟩ := S.lstW hv
    rw [hr.bools h1, ← hK] at hq
    exact cr_any hc pins s σ0 H _ us Q I rv ⟨a, bs, rfl, hq, fin (.bl _)⟩
  · obtain ⟨v, rfl, hv⟩ := wreps1 rx
    obtain ⟨ys, h1, rfl⟩ := Option.map_eq_some_iff.mp e
    obtain ⟨a, ws, rfl, hq, hr⟩ := S.look hv h1
    have hq' := hq
    rw [← hK] at hq
    refine call_tuple_of pins s σ0 H _ us Q I rv ⟨a, ws, rfl, ?_⟩
    rcases hq with hq | hq
    · exact .inl ⟨hq, end_tup S hr k⟩
    · refine .inr ⟨hq, ?_⟩
      rename_i x
      cases x with
      | tup zs =>
        cases h1
        cases hv with
        | of r => exact fin r
      | lst zs =>
        obtain ⟨a', ws', ea, h3, _⟩ := S.lstH hv
        cases ea
        exfalso
        obtain ⟨its, _, ⟨o1, e1, c1, _⟩, _⟩ := I.tuple hq
        obtain ⟨_, its2, n2, _, e2⟩ := I.hok _ _ h3
        rw [e1] at e2
        cases e2
        exact absurd (Value.type.inj c1) (by decide)
      | ref i =>
        cases hm : M[i]? with
        | none => simp [Ev.look, hm] at h1
        | some m =>
          obtain ⟨a', o, ea, _, ha, hr'⟩ := S.refW hv hm
          cases ea
          cases m with
          | lst zs =>
            cases o <;> first
              | exact False.elim hr'
              | (exfalso
                 obtain ⟨its, _, ⟨o1, e1, c1, _⟩, _⟩ := I.tuple hq
                 obtain ⟨_, its2, n2, _, e2⟩ := I.hok _ _ ha
                 rw [e1] at e2
                 cases e2
                 exact absurd (Value.type.inj c1) (by decide))
          | _ => simp [Ev.look, hm] at h1
      | _ => simp [Ev.look] at h1
  · obtain ⟨v, rfl, hv⟩ := wreps1 rx
    obtain ⟨ys, h1, rfl⟩ := Option.map_eq_some_iff.mp e
    obtain ⟨a, ws, rfl, hq, hr⟩ := S.look hv h1
    rw [← hK] at hq
    exact call_list_of pins s σ0 H _ us Q I rv ⟨a, ws, rfl, hq, end_lst S hr k⟩
  · cases e
    obtain ⟨v, rfl, hv⟩ := wreps1 rx
    obtain rfl := hv.bl
    exact call_int1 pins s σ0 H _ us Q I rv (.inr ⟨_, rfl, fin (.int _)⟩)
  · cases e
    obtain ⟨v, rfl, hv⟩ := wreps1 rx
    obtain rfl := hv.int
    exact call_int1 pins s σ0 H _ us Q I rv (.inl ⟨_, rfl, fin (.int _)⟩)
  · obtain ⟨v, rfl, hv⟩ := wreps1 rx
    split at e
    · rename_i hh
      simp only [Bool.and_eq_true, decide_eq_true_eq] at hh
      obtain ⟨h1, h2, h3⟩ := hh
      cases e
      obtain ⟨f1, f2⟩ := isD_facts 60 _ h1
      have dp := S.dpW hv h1
      rw [← hK] at dp
      exact call_reprD hgd hu h2 f1 f2 h3 pins s σ0 H _ us Q I rv ⟨_, rfl, dp, fin (.str _)⟩
    · cases e
  · exact absurd rfl hb
  · cases e
/-! ### isinstance -/
def tyPy : Ty → String
  | .int => "int"
  | .bool => "bool"
  | .str => "str"
  | .tup => "tuple"
  | .lst => "list"
  | .dct => "dict"
def tyName (M : Mem) : PV → Option String
  | .non => some "NoneType"
  | .bl _ => some "bool"
  | .int _ => some "int"
  | .str _ => some "str"
  | .tup _ => some "tuple"
  | .lst _ => some "list"
  | .dct _ _ => some "dict"
  | _ => none
theorem kit_all : ∀ (t : Ty) (n : String) (b : Bool), ((n = "NoneType" ∧ b = false) ∨ (n = "bool" ∧ b = (t == .bool || t == .int)) ∨ (n = "int" ∧ b = (t == .int)) ∨ (n = "str" ∧ b = (t == .str)) ∨ (n = "tuple" ∧ b = (t == .tup)) ∨ (n = "list" ∧ b = (t == .lst)) ∨ (n = "dict" ∧ b = (t == .dct))) → kitB n (tyPy t) = some b := by
  intro t n b h
  rcases h with ⟨rfl, rfl⟩ | ⟨rfl, rfl⟩ | ⟨rfl, rfl⟩ | ⟨rfl, rfl⟩ | ⟨rfl, rfl⟩ | ⟨rfl, rfl⟩ | ⟨rfl, rfl⟩ <;> cases t <;> decide +kernel
theorem call_ty (hK : X.K = L.K) (t : Ty) : CallR X (.builtin "isinstance") (fun vs H Q => ∃ F μ M ρ σ v x b, Stt L pm F μ M ρ σ H ∧ vs = [v, .ty (tyPy t)] ∧ WRep L F μ ρ σ v x ∧ tyV M t x = some b ∧ Q (.bl b) H) := by
  intro pins s σ0 H vs us Q I rv ⟨F, μ, M, ρ, σ, v, x, b, S, ev, hv, e, q⟩
  have go : ∀ {n : String}, TyX X.K H v (.type n) → kitB n (tyPy t) = some b → wpAny (model X.prog X.w) X.A (call (.builtin "isinstance") us) (EP X pins σ0 Q) X.xe s := fun {n} h1 h2 =>
    call_isi pins s σ0 H vs us Q I rv ⟨v, .ty (tyPy t), .type n, .type (tyPy t), b, ev, .ty _, h1, kit_ty h2, q⟩
  have ka := kit_all t
  cases x with
  | non =>
    cases e
    obtain rfl := hv.non
    exact go (.base .non) (ka _ _ (.inl ⟨rfl, rfl⟩))
  | bl y =>
    cases e
    obtain rfl := hv.bl
    exact go (.base (.bl _)) (ka _ _ (.inr (.inl ⟨rfl, rfl⟩)))
  | int y =>
    cases e
    obtain rfl := hv.int
    exact go (.base (.int _)) (ka _ _ (.inr (.inr (.inl ⟨rfl, rfl⟩))))
  | str y =>
    cases e
    obtain rfl := hv.str
    exact go (.base (.str _)) (ka _ _ (.inr (.inr (.inr (.inl ⟨rfl, rfl⟩)))))
  | tup y =>
    cases e
    obtain ⟨a, ws, rfl, hq, _⟩ := S.tupW hv
    refine go ?_ (ka _ _ (.inr (.inr (.inr (.inr (.inl ⟨rfl, rfl⟩))))))
    rcases hq with (hq | ⟨o, hq⟩) | ⟨o, its, n, hk, hc, _⟩
    · exact .base (.tup hq)
    · exact .fTuple hq
    · rw [hK]
      exact .kTuple hk hc
  | lst y =>
    cases e
    obtain ⟨a, ws, rfl, hq, _⟩ := S.lstH hv
    exact go (.base (.lst hq)) (ka _ _ (.inr (.inr (.inr (.inr (.inr (.inl ⟨rfl, rfl⟩)))))))
  | dct ks ws =>
    cases e
    obtain ⟨a, kvs, rfl, hq, _⟩ := S.dctW hv
    exact go (.base (.dK hq)) (ka _ _ (.inr (.inr (.inr (.inr (.inr (.inr ⟨rfl, rfl⟩)))))))
  | ref i => cases e
  | scr y => cases e
end
end Ev
end
section -- Sound6
/-! Sound6: enumerate and zip over lists and tuples alike. -/
namespace Ev
open PySem PySem.Spec PyProof.Rows L2
/-- a list (true), a tuple -/
def SqA : Bool → PySem.W.Frag → Hp → Addr → List V → Prop
  | true, K, H, a, xs => SqL K H a xs
  | false, K, H, a, xs => SqT K H a xs
def ItA : Bool → Heap → Addr → Addr → Nat → Prop
  | true, h, it, a, i => h.IsListIter it a i
  | false, h, it, a, i => h.IsTupleIter it a i
def HasA : Bool → Heap → Addr → Array Value → Prop
  | true, h, a, z => h.IsList a z
  | false, h, a, z => h.IsTuple a z
def beginA : Bool → Addr → Obj
  | true, a => { cls := .type "list_iterator", data := .fields #[.ref a, .int 0 0] }
  | false, a => { cls := .type "tuple_iterator", data := .fields #[.ref a, .int 0 0] }
theorem drawsA {prog : Program} {w : World} {A : Around} (hh : A.handled = none) : ∀ (k : Bool) (it l : Addr) (hne : l ≠ it) (items : Array Value),
    Draws prog w A it [it, l] items.size (fun i v => items[i]? = some v) (fun i h => ItA k h it l i ∧ HasA k h l items)
  | true, it, l, hne, items => Draws.list hh it l hne items
  | false, it, l, hne, items => Draws.tuple hh it l hne items
theorem beginsA : ∀ (k : Bool) (l : Addr) (items : Array Value), Begins (.ref l) (beginA k l) fun h => HasA k h l items
  | true, l, items => begins_list l items
  | false, l, items => begins_tuple l items
theorem ItA.zero {k : Bool} {h : Heap} {it a : Addr} (e : h.get? it = some (beginA k a)) : ItA k h it a 0 := by
  cases k
  · exact ⟨_, e, rfl, rfl⟩
  · exact ⟨_, e, rfl, rfl⟩
theorem ItA.at {k : Bool} {h h' : Heap} {it a : Addr} {i : Nat} (x : ItA k h it a i) (e : ∀ o, h.get? it = some o → h'.get? it = some o) : ItA k h' it a i := by
  cases k
  · exact Heap.IsTupleIter.at x e
  · exact Heap.IsListIter.at x e
theorem ItA.obj {k : Bool} {h : Heap} {it a : Addr} {i : Nat} (x : ItA k h it a i) : ∃ o, h.get? it = some o ∧ ∀ v, o.data ≠ .cell v := by
  cases k
  · obtain ⟨o, h1, _, h3⟩ := x
    exact ⟨o, h1, fun v q => by rw [h3] at q; cases q⟩
  · obtain ⟨o, h1, _, h3⟩ := x
    exact ⟨o, h1, fun v q => by rw [h3] at q; cases q⟩
section
variable {X : Cx} {pins : List (Addr × Obj)} {σ : L2.St} {H : Hp} {s : Shared}
theorem seqA (I : L2.Inv X pins σ H s) {k : Bool} {a : Addr} {xs : List V} (h : SqA k X.K H a xs) : ∃ its : List Value, Vals xs its ∧ HasA k s.heap a its.toArray := by
  cases k
  · obtain ⟨its, r, p, _⟩ := I.tuple h
    exact ⟨its, r, p⟩
  · obtain ⟨its, r, p, _⟩ := I.list h
    exact ⟨its, r, p.isList⟩
theorem seqA_inj (I : L2.Inv X pins σ H s) {k : Bool} {a : Addr} {xs ys : List V} (h : SqA k X.K H a xs) (h' : SqA k X.K H a ys) : xs = ys := by
  cases k
  · exact I.tuple_inj h h'
  · exact I.list_inj h h'
theorem HasA.lt {k : Bool} {h : Heap} {a : Addr} {z : Array Value} (x : HasA k h a z) : a < h.objs.size := by
  cases k
  · obtain ⟨o, e, _⟩ := x
    exact Heap.lt_size e
  · obtain ⟨o, e, _⟩ := x
    exact Heap.lt_size e
end
/-- (i, item) in new pairs -/
def IteA (k : Bool) (K : PySem.W.Frag) (a : Addr) : It :=
  ⟨fun i H => ∃ xs x, SqA k K H a xs ∧ xs[i]? = some x, fun i H v H' => ∃ T x, v = .ref T ∧ H T = none ∧ H' = upd H T (.tup [.int (i : Nat), x]) ∧ ∀ xs, SqA k K H a xs → xs[i]? = some x, fun i H => ∃ xs, SqA k K H a xs ∧ xs.length = i⟩
def ItzA (k l : Bool) (K : PySem.W.Frag) (a b : Addr) : It :=
  ⟨fun i H => ∃ (xs ys : List V) (x y : V), SqA k K H a xs ∧ SqA l K H b ys ∧ xs[i]? = some x ∧ ys[i]? = some y,
   fun i H v H' => ∃ T x y, v = .ref T ∧ H T = none ∧ H' = upd H T (.tup [x, y]) ∧ (∀ xs, SqA k K H a xs → xs[i]? = some x) ∧ ∀ ys, SqA l K H b ys → ys[i]? = some y,
   fun i H => ∃ xs ys : List V, SqA k K H a xs ∧ SqA l K H b ys ∧ (i = xs.length ∨ i = ys.length) ∧ i ≤ xs.length ∧ i ≤ ys.length⟩

theorem turn_enumA {P : Program} {w : World} {K : PySem.W.Frag} {elts : List Expr} {kk : Nat} {tpos : Pos} (k : Bool) (a e it : Addr) (nai : a ≠ it) (nea : e ≠ a) (nei : e ≠ it) :
    Turn P w K (.Tuple elts kk tpos) (IteA k K a) [e, it] e (fun i h => (∃ old, IsEnum h e it ((i : Nat) : Int) old) ∧ ItA k h it a i) where
  mem := List.mem_cons_self
  obj := fun i h st b hb => by
    obtain ⟨⟨old, he⟩, hi⟩ := st
    rcases List.mem_cons.mp hb with z | z
    · subst z
      exact ⟨_, he, fun v q => by cases q⟩
    · rw [List.mem_singleton.mp z]
      exact hi.obj
  keep := fun i h h' st kp => ⟨st.1.imp fun old he => kp e List.mem_cons_self _ he, st.2.at fun o q => kp it (List.mem_cons_of_mem _ List.mem_cons_self) o q⟩
  item := by
    intro X hP hw hK hc i pins s σ H E I hf ⟨⟨old, he⟩, hi⟩ ⟨xs, x, hq, hx⟩
    subst hP hw hK
    obtain ⟨its, rv, hh⟩ := seqA I hq
    obtain ⟨u, hu, ru⟩ := rv.get hx
    have hd : X.A.in1.handled = none := I.ok.hd hc
    have elt : e < s.heap.objs.size := Heap.lt_size he
    have ilt : it < s.heap.objs.size := let ⟨o, ho, _⟩ := hi.obj; Heap.lt_size ho
    have n1 : i < its.toArray.size := by
      have := (List.getElem?_eq_some_iff.mp hu).1
      simpa using this
    refine wpAny_pyNext_enum_itemC (drawsA hd k it a nai its.toArray) he ⟨hi, hh⟩ n1 nei (by simp [nei, nea]) fun x' h1 tk hx' hout hst hT hsz hk => ?_
    have ex : x' = u := by
      have : its[i]? = some x' := by simpa using hx'
      rw [hu] at this
      exact (Option.some.inj this).symm
    subst ex
    refine ⟨_, rfl, wpAny_letOwnedTupleGo_enum (s := { s with heap := h1, toks := tk + 1 }) hout fun h2 he2 sb => ?_⟩
    have hT2 : h2.get? s.heap.objs.size = some { cls := .type "tuple", data := .seq #[.int i tk, x'] } := (sb.2 _ (Nat.ne_of_gt elt)).trans hT
    have old2 : ∀ b o, b ≠ e → b ≠ it → s.heap.get? b = some o → h2.get? b = some o := fun b o q1 q2 q => (sb.2 b q1).trans (hk b o q1 q2 q)
    have J : L2.Inv X pins σ (upd H s.heap.objs.size (.tup [.int (i : Nat), x])) { s with heap := h2, toks := tk + 1 } :=
      I.turnedNew (ch := [e, it]) (fun b o hb q => old2 b o (fun z => hb (z ▸ List.mem_cons_self)) (fun z => hb (z ▸ List.mem_cons_of_mem _ List.mem_cons_self)) q) hf (Nat.le_refl _)
        ⟨show 2 ≤ sizeLine by decide, [.int i tk, x'], .cons ⟨tk, rfl⟩ (.cons ru .nil), ⟨_, hT2, rfl, _, rfl⟩⟩
    refine ⟨.ref s.heap.objs.size, _, J, rfl, ⟨_, x, rfl, I.hok.fresh (Nat.le_refl _), rfl, fun ys hy => by rw [seqA_inj I hy hq]; exact hx⟩, ⟨⟨x', ?_⟩, hst.1.at fun o q => (sb.2 it (Ne.symm nei)).trans q⟩, fun b hb => ?_⟩
    · rw [show ((i + 1 : Nat) : Int) = (i : Int) + 1 by omega]
      exact he2
    · have hlt : b < s.heap.objs.size := by
        rcases List.mem_cons.mp hb with z | z
        · exact z ▸ elt
        · exact (List.mem_singleton.mp z) ▸ ilt
      rw [upd_ne (show b ≠ s.heap.objs.size from Nat.ne_of_lt hlt)]
      exact (hf b hb).1
  done := by
    intro X hP hw hK hc i pins s σ H E I hf ⟨⟨old, he⟩, hi⟩ ⟨xs, hq, hx⟩
    subst hP hw hK
    obtain ⟨its, rv, hh⟩ := seqA I hq
    have hd : X.A.in1.handled = none := I.ok.hd hc
    obtain ⟨f0, f1, f2, f3, f4, f5⟩ := hf it (List.mem_cons_of_mem _ List.mem_cons_self)
    have en : i = its.toArray.size := by
      have := rv.length
      simp only [List.size_toArray]
      omega
    subst en
    exact wpAny_pyNext_enum_endD (drawsA hd k it a nai its.toArray) he ⟨hi, hh⟩ fun h1 eb => ⟨rfl, I.turned (t' := s.toks) (fun b o hb q => eb b o hb q) f0 f1 f3 f4 f5⟩
  self := fun A i s Q E st h => let ⟨⟨old, he⟩, _⟩ := st; wpAny_pyIter_enum he h
theorem turn_zipA {P : Program} {w : World} {K : PySem.W.Frag} {elts : List Expr} {kk : Nat} {tpos : Pos} (k l : Bool) {a b z TI TO i1 i2 : Addr} (D : ZipSep2 z TI TO i1 i2 [i1, a] [i2, b]) (na1 : a ≠ i1) (nb2 : b ≠ i2) :
    Turn P w K (.Tuple elts kk tpos) (ItzA k l K a b) [z, TI, TO, i1, i2] z (fun i h => IsZip h z TI TO .none ∧ IsTupOf2 h TI (.ref i1) (.ref i2) ∧ (∃ x y, IsTupOf2 h TO x y) ∧ ItA k h i1 a i ∧ ItA l h i2 b i) where
  mem := List.mem_cons_self
  obj := fun i h st c hc => by
    obtain ⟨hz, hTI, ⟨x, y, hTO⟩, h1, h2⟩ := st
    have e' : c = z ∨ c = TI ∨ c = TO ∨ c = i1 ∨ c = i2 := by simpa using hc
    rcases e' with q | q | q | q | q <;> rw [q]
    · exact ⟨_, hz, fun v q => by cases q⟩
    · exact ⟨_, hTI, fun v q => by cases q⟩
    · exact ⟨_, hTO, fun v q => by cases q⟩
    · exact h1.obj
    · exact h2.obj
  keep := fun i h h' ⟨hz, hTI, ⟨x, y, hTO⟩, h1, h2⟩ kp => ⟨kp z (by simp) _ hz, kp TI (by simp) _ hTI, ⟨x, y, kp TO (by simp) _ hTO⟩, h1.at fun o q => kp i1 (by simp) o q, h2.at fun o q => kp i2 (by simp) o q⟩
  item := by
    intro X hP hw hK hc i pins s σ H E I hf ⟨hz, hTI, ⟨x0, y0, hTO⟩, h1, h2⟩ ⟨xs, ys, x, y, hqx, hqy, hx, hy⟩
    subst hP hw hK
    obtain ⟨its, rv, p1⟩ := seqA I hqx
    obtain ⟨jts, rw', p2⟩ := seqA I hqy
    obtain ⟨u, hu, ru⟩ := rv.get hx
    obtain ⟨v, hv, rv2⟩ := rw'.get hy
    have hd : X.A.in1.handled = none := I.ok.hd hc
    have m1 : i < its.toArray.size := by
      have := (List.getElem?_eq_some_iff.mp hu).1
      simpa using this
    have m2 : i < jts.toArray.size := by
      have := (List.getElem?_eq_some_iff.mp hv).1
      simpa using this
    refine wpAny_pyNext_zipD2_item D (drawsA hd k i1 a na1 its.toArray) (drawsA hd l i2 b nb2 jts.toArray) hz hTI hTO ⟨h1, p1⟩ ⟨h2, p2⟩ m1 m2 fun x' y' g tk ex ey hz' hTO' s1' s2' hT hsz hk => ?_
    have ex' : x' = u := by
      have : its[i]? = some x' := by simpa using ex
      rw [hu] at this
      exact (Option.some.inj this).symm
    have ey' : y' = v := by
      have : jts[i]? = some y' := by simpa using ey
      rw [hv] at this
      exact (Option.some.inj this).symm
    subst ex' ey'
    have zl : z < s.heap.objs.size := Heap.lt_size hz
    refine ⟨_, rfl, wpAny_letOwnedTupleGo_zip (s := { s with heap := g, toks := tk }) hz' fun g2 hz2 sb => ?_⟩
    have hT2 : g2.get? s.heap.objs.size = some { cls := .type "tuple", data := .seq #[x', y'] } := (sb.2 _ (Nat.ne_of_gt zl)).trans hT
    have old2 : ∀ c o, c ≠ z → c ≠ TO → c ≠ i1 → c ≠ i2 → s.heap.get? c = some o → g2.get? c = some o := fun c o q1 q2 q3 q4 q => (sb.2 c q1).trans (hk c o q1 q2 q3 q4 q)
    have J : L2.Inv X pins σ (upd H s.heap.objs.size (.tup [x, y])) { s with heap := g2, toks := tk } :=
      I.turnedNew (ch := [z, TI, TO, i1, i2]) (fun c o hb q => old2 c o (fun e => hb (by simp [e])) (fun e => hb (by simp [e])) (fun e => hb (by simp [e])) (fun e => hb (by simp [e])) q) hf (Nat.le_refl _)
        ⟨show 2 ≤ sizeLine by decide, [x', y'], .cons ru (.cons rv2 .nil), ⟨_, hT2, rfl, _, rfl⟩⟩
    refine ⟨.ref s.heap.objs.size, _, J, rfl, ⟨_, x, y, rfl, I.hok.fresh (Nat.le_refl _), rfl, fun zs hy' => by rw [seqA_inj I hy' hqx]; exact hx, fun zs hy' => by rw [seqA_inj I hy' hqy]; exact hy⟩,
      ⟨hz2, old2 _ _ D.TIz D.TITO D.TIi1 D.TIi2 hTI, ⟨x', y', (sb.2 _ D.TOz).trans hTO'⟩, s1'.1.at fun o q => (sb.2 _ (Ne.symm D.zi1)).trans q, s2'.1.at fun o q => (sb.2 _ (Ne.symm D.zi2)).trans q⟩, fun c hcm => ?_⟩
    have hlt : c < s.heap.objs.size := by
      have e' : c = z ∨ c = TI ∨ c = TO ∨ c = i1 ∨ c = i2 := by simpa using hcm
      rcases e' with q | q | q | q | q <;> rw [q]
      · exact zl
      · exact Heap.lt_size hTI
      · exact Heap.lt_size hTO
      · exact let ⟨o, ho, _⟩ := h1.obj; Heap.lt_size ho
      · exact let ⟨o, ho, _⟩ := h2.obj; Heap.lt_size ho
    rw [upd_ne (show c ≠ s.heap.objs.size from Nat.ne_of_lt hlt)]
    exact (hf c hcm).1
  done := by
    intro X hP hw hK hc i pins s σ H E I hf ⟨hz, hTI, ⟨x0, y0, hTO⟩, h1, h2⟩ ⟨xs, ys, hqx, hqy, hor, hl1, hl2⟩
    subst hP hw hK
    obtain ⟨its, rv, p1⟩ := seqA I hqx
    obtain ⟨jts, rw', p2⟩ := seqA I hqy
    have hd : X.A.in1.handled = none := I.ok.hd hc
    have e1 := rv.length
    have e2 := rw'.length
    refine wpAny_pyNext_zipD2_end D (drawsA hd k i1 a na1 its.toArray) (drawsA hd l i2 b nb2 jts.toArray) hz hTI hTO ⟨h1, p1⟩ ⟨h2, p2⟩ (by simp only [List.size_toArray]; omega) (by simp only [List.size_toArray]; omega)
      (by simp only [List.size_toArray]; omega) fun g tk hk => ⟨rfl, ?_⟩
    have nit : ∀ c u, H c = some u → c ∉ [z, TI, TO, i1, i2] := fun c u e q => by
      have := (hf c q).1
      rw [e] at this
      cases this
    exact I.step (g' := s.gens) (d' := s.drawn) (ch := [z, TI, TO, i1, i2]) (fun c hcm => let ⟨f0, f1, f2, f3, f4, f5⟩ := hf c hcm; ⟨f3, f1, f4, f5⟩)
      (fun c o _ _ hcn q _ => hk c o (fun e => hcn (by simp [e])) (fun e => hcn (by simp [e])) (fun e => hcn (by simp [e])) (fun e => hcn (by simp [e])) q)
      (fun c o _ _ hcn q _ => ⟨o.slots, hk c o (fun e => hcn (by simp [e])) (fun e => hcn (by simp [e])) (fun e => hcn (by simp [e])) (fun e => hcn (by simp [e])) q⟩)
      (fun c o _ _ n => n) (fun c o hcn q => ⟨o, hk c o (fun e => hcn (by simp [e])) (fun e => hcn (by simp [e])) (fun e => hcn (by simp [e])) (fun e => hcn (by simp [e])) q⟩)
      (fun _ _ q => q) (fun _ _ _ q => q) (fun _ ps q => ⟨#[], by rw [q]; simp⟩)
      (fun m hm => by
        obtain ⟨o, es, ep, ho, r⟩ := hm
        refine ⟨o, es, ep, hk _ o ?_ ?_ ?_ ?_ ho, r⟩
        · exact fun e => (hf z (by simp)).2.1 e.symm
        · exact fun e => (hf TO (by simp)).2.1 e.symm
        · exact fun e => (hf i1 (by simp)).2.1 e.symm
        · exact fun e => (hf i2 (by simp)).2.1 e.symm)
      (fun c u q => (I.hok c u q).stay (fun d w hd' q' => by
        have nd : d ∉ [z, TI, TO, i1, i2] := by
          rcases hd' with e | e
          · rw [e]
            exact nit c u q
          · exact nit d _ e
        exact hk d w (fun e => nd (by simp [e])) (fun e => nd (by simp [e])) (fun e => nd (by simp [e])) (fun e => nd (by simp [e])) q') (fun _ q' => q') fun _ _ q' => q') I.bare
  self := fun A i s Q E st h => wpAny_pyIter_zip st.1 h
end Ev
end
section -- Sound7
/-! Sound7: what a loop walks. -/
namespace Ev
open PySem PySem.Spec PyProof.Rows L2
theorem enumNew {v : Value} {o : Obj} {Hv : Heap → Prop} (B : Begins v o Hv) :
    Meets (Builtin.«enumerate.__new__» ⟨[.type "enumerate", v], []⟩) (fun _ R s => Hv s.heap ∧
      R (.ok (.ret (.ref (s.heap.push o).objs.size))) { s with heap := (s.heap.push o).push { cls := .type "enumerate", data := .fields #[.none, .bool false, .ref s.heap.objs.size, rawInt 0, .none, .none] } }) :=
  .of_wp fun prog w A R s h => by
    obtain ⟨hp, g, d, tk, os⟩ := s
    obtain ⟨hv, h⟩ := h
    have sub := sub_enumerate
    have it : ∀ {A' : Around} {E : Value → Shared → Prop} {Q : Value → Shared → Prop}, Q (.ref hp.objs.size) ⟨hp.push o, g, d, tk, os⟩ → wpAny (model prog w) A' (pyIter v) Q E ⟨hp, g, d, tk, os⟩ := fun q =>
      B.iter prog w _ _ ⟨hp, g, d, tk, os⟩ _ hv q
    wp_walk using it
    refine wpAny_stack_any (fun stk => wpAny_pure ?_)
    split
    · rename_i cl _ _ _ _ _
      cases cl == Value.type "enumerate" <;> (wp_walk using it; exact ⟨_, rfl, h⟩)
    · wp_walk using it
      exact ⟨_, rfl, h⟩
theorem enumBegin {prog : Program} {w : World} {A : Around} {E : Value → Shared → Prop} {s : Shared} {v : Value} {o : Obj} {Hv : Heap → Prop} {Q : Value → Shared → Prop} (B : Begins v o Hv) (hv : Hv s.heap)
    (h : ∀ g, IsEnum g (s.heap.objs.size + 1) s.heap.objs.size 0 .none → g.get? s.heap.objs.size = some o → (∀ b u, s.heap.get? b = some u → g.get? b = some u) → Q (.ref (s.heap.objs.size + 1)) { s with heap := g }) :
    wpAny (model prog w) A (call (.type "enumerate") [v]) Q E s := by
  refine callType_new F.called_enumerate (by decide) (F.typeCall_enumerate_1 _) (F.newCall_enumerate_1 _) (fun ob => F.args_object_init_2 ob _) F.entry_enumerate_new (enumNew B) ⟨hv, ?_⟩
  have sz : (s.heap.push o).objs.size = s.heap.objs.size + 1 := Heap.size_push ..
  have en : IsEnum ((s.heap.push o).push { cls := .type "enumerate", data := .fields #[.none, .bool false, .ref s.heap.objs.size, rawInt 0, .none, .none] }) (s.heap.objs.size + 1) s.heap.objs.size 0 .none := by
    have q := Heap.get?_push_size (s.heap.push o) (o := { cls := .type "enumerate", data := .fields #[.none, .bool false, .ref s.heap.objs.size, rawInt 0, .none, .none] }) rfl
    rw [sz] at q
    exact q
  show _ ∧ _
  rw [sz]
  exact ⟨⟨_, en, rfl⟩, h _ en (Heap.get?_push_of_some _ (Heap.get?_push_size _ B.free)) fun b u x => Heap.get?_push_of_some _ (Heap.get?_push_of_some _ x)⟩
section
variable {X : Cx}
def iEnumA (K : PySem.W.Frag) (ta : TA) : TI := fun σ H R => ta σ H fun vs H1 => ∃ k a xs, vs = [.ref a] ∧ SqA k K H1 a xs ∧ R (IteA k K a) H1
theorem pi_enumA {e : Expr} {ta : TA} {p pos tpos : Pos} {elts : List Expr} {kk : Nat} (hg : Gl X "enumerate") (hm : X.mg "enumerate" = none) (ha : PA X [e] ta) (hs : starEach [e] X.env = [(false, eval e X.env)]) :
    PI X (.Tuple elts kk tpos) (.Call (.Name "enumerate" p) [e] [] pos) (iEnumA X.K ta) := by
  refine ⟨fun pins s σ H R I h => Call_ (ld_blt I hg hm boot_enumerate (PyProof.Rows.callWith_type1 (thn (ha.run pos pins s σ H _ I h) fun us s1 ⟨vs, H1, I1, r1, k, a, xs, ex, hq, q⟩ => ?_) hs rfl))⟩
  subst ex
  obtain ⟨u, eu, ru⟩ := vals1 r1
  subst eu
  cases ru
  obtain ⟨its, rv, hh⟩ := seqA I1 hq
  have la := HasA.lt hh
  refine enumBegin (beginsA k a its.toArray) hh fun g he hi hk => wpAny_pyIter_enum he ?_
  have J : L2.Inv X pins σ H1 { s1 with heap := g } := I1.kept (t' := s1.toks) hk
  refine ⟨s1.heap.objs.size + 1, [s1.heap.objs.size + 1, s1.heap.objs.size], _, _, H1, rfl, J, turn_enumA k a (s1.heap.objs.size + 1) s1.heap.objs.size (Nat.ne_of_lt la) (Nat.ne_of_gt (Nat.lt_succ_of_lt la)) (Nat.succ_ne_self _), ⟨⟨.none, he⟩, ItA.zero hi⟩, fun b hb => ?_, q⟩
  have hle : s1.heap.objs.size ≤ b := by
    rcases List.mem_cons.mp hb with z | z
    · rw [z]
      exact Nat.le_succ _
    · rw [List.mem_singleton.mp z]
      exact Nat.le_refl _
  exact I1.fpOk hle (I1.hok.fresh hle)
def iZipAll (K : PySem.W.Frag) (ta : TA) : TI := fun σ H R => ta σ H fun vs H1 => ∃ k l a b xs ys, vs = [.ref a, .ref b] ∧ SqA k K H1 a xs ∧ SqA l K H1 b ys ∧ R (ItzA k l K a b) H1
theorem pi_zipAll {e e2 : Expr} {ta : TA} {p pos tpos : Pos} {elts : List Expr} {kk : Nat} (hg : Gl X "zip") (hm : X.mg "zip" = none) (ha : PA X [e, e2] ta)
    (hs : starEach [e, e2] X.env = (false, eval e X.env) :: starEach [e2] X.env) (hpl : (backTo pos (starEach [e2] X.env)).any (·.1) = false) :
    PI X (.Tuple elts kk tpos) (.Call (.Name "zip" p) [e, e2] [] pos) (iZipAll X.K ta) := by
  refine ⟨fun pins s σ H R I h => Call_ (ld_blt I hg hm PyProof.Rows.boot_zip (PyProof.Rows.callWith_type1 (thn (ha.run pos pins s σ H _ I h) fun us s1 ⟨vs, H1, I1, r1, k, l, a, b, xs, ys, ex, hx, hy, q⟩ => ?_) hs hpl))⟩
  subst ex
  obtain ⟨u, v, eu, ru, rv⟩ := vals2 r1
  subst eu
  cases ru
  cases rv
  obtain ⟨its, _, h1⟩ := seqA I1 hx
  obtain ⟨jts, _, h2⟩ := seqA I1 hy
  have la := HasA.lt h1
  have lb := HasA.lt h2
  refine zip_begins2 (beginsA k a its.toArray) (beginsA l b jts.toArray) h1 h2 fun g hz hTI hTO e1 e2 hsz hk => wpAny_pyIter_zip hz ?_
  have J : L2.Inv X pins σ H1 { s1 with heap := g } := I1.kept (t' := s1.toks) hk
  refine ⟨s1.heap.objs.size + 4, [s1.heap.objs.size + 4, s1.heap.objs.size + 2, s1.heap.objs.size + 3, s1.heap.objs.size, s1.heap.objs.size + 1], _, _, H1, rfl, J,
    turn_zipA k l (zip_sep2 (fp1 := [a]) (fp2 := [b]) (fun c hc => (List.mem_singleton.mp hc) ▸ la) (fun c hc => (List.mem_singleton.mp hc) ▸ lb)) (Nat.ne_of_lt la) (Nat.ne_of_lt (Nat.lt_succ_of_lt lb)),
    ⟨hz, hTI, ⟨_, _, hTO⟩, ItA.zero e1, ItA.zero e2⟩, fun c hcm => ?_, q⟩
  have hle : s1.heap.objs.size ≤ c := by
    have e' : c = s1.heap.objs.size + 4 ∨ c = s1.heap.objs.size + 2 ∨ c = s1.heap.objs.size + 3 ∨ c = s1.heap.objs.size ∨ c = s1.heap.objs.size + 1 := by simpa using hcm
    rcases e' with z | z | z | z | z <;> rw [z] <;> first
      | exact Nat.le_refl _
      | exact Nat.le_add_right _ _
  exact I1.fpOk hle (I1.hok.fresh hle)
end
end Ev
end
section -- Sound8
/-! Sound8: the items of a loop. -/
namespace Ev
open PySem PySem.Spec PyProof.Rows L2
/-- where the sources stand: frozen ones in F1, others (S) as they are -/
def SrcP (F1 : Hp) (μ1 : List Addr) (S : List (Addr × HO)) (F : Hp) (μ : List Addr) (H : Hp) : Prop := Sub F1 F ∧ μ1 <+: μ ∧ ∀ p ∈ S, H p.1 = some p.2
/-- the iterator J walks the items -/
def JW (L : Lk) (J : It) (items : List PV) (F1 : Hp) (μ1 : List Addr) (S : List (Addr × HO)) : Prop :=
  ∀ (pm : Pm) (i : Nat) (F : Hp) (μ : List Addr) (M : Mem) (ρ : Slots) (σ : L2.St) (H : Hp), Stt L pm F μ M ρ σ H → SrcP F1 μ1 S F μ H →
    (i = items.length → J.stop i H) ∧ ∀ z, items[i]? = some z → J.go i H ∧ ∀ x H', J.yld i H x H' → ∃ F', Stt L pm F' μ M ρ σ H' ∧ Sub F F' ∧ RepV L F' μ x z ∧ SrcP F1 μ1 S F' μ H'
/-- one source: a list or tuple with its items -/
def Src (L : Lk) (k : Bool) (a : Addr) (vs : List V) (xs : List PV) (F1 : Hp) (μ1 : List Addr) (S : List (Addr × HO)) : Prop :=
  RepVs L F1 μ1 vs xs ∧ ∀ F μ H, Sub F H → SrcP F1 μ1 S F μ H → SqA k L.K H a vs
theorem SrcP.more {F1 F F' : Hp} {μ1 μ : List Addr} {S : List (Addr × HO)} {H : Hp} {p : Addr} {o : HO} (h : SrcP F1 μ1 S F μ H) (s : Sub F F') (hp : H p = none) : SrcP F1 μ1 S F' μ (upd H p o) :=
  ⟨h.1.trans s, h.2.1, fun q hq => by rw [upd_ne (ne_of_none (h.2.2 q hq) hp)]; exact h.2.2 q hq⟩
section
variable {L : Lk} {F1 : Hp} {μ1 : List Addr} {S : List (Addr × HO)}
theorem jw_seq {k : Bool} {a : Addr} {vs : List V} {xs : List PV} (h : Src L k a vs xs F1 μ1 S) : JW L (if k then Itl L.K a else Itt L.K a) xs F1 μ1 S := by
  intro pm i F μ M ρ σ H St sp
  have q := h.2 F μ H St.fz sp
  have r := h.1.mono sp.1 sp.2.1
  have hl := r.length
  cases k
  · refine ⟨fun e => ⟨vs, q, by omega⟩, fun z hz => ?_⟩
    obtain ⟨v, h1, h2⟩ := r.get hz
    refine ⟨⟨vs, v, q, h1⟩, fun x H' y => ?_⟩
    obtain ⟨e, y⟩ := y
    subst e
    have := y vs q
    rw [h1] at this
    cases this
    exact ⟨F, St, Sub.refl _, h2, sp⟩
  · refine ⟨fun e => ⟨vs, q, by omega⟩, fun z hz => ?_⟩
    obtain ⟨v, h1, h2⟩ := r.get hz
    refine ⟨⟨vs, v, q, h1⟩, fun x H' y => ?_⟩
    obtain ⟨e, y⟩ := y
    subst e
    have := y vs q
    rw [h1] at this
    cases this
    exact ⟨F, St, Sub.refl _, h2, sp⟩
theorem rangeV_get {a b : Int} {i : Nat} : (rangeV a b)[i]? = if i < (b - a).toNat then some (.int (a + (i : Nat))) else none := by
  unfold rangeV
  rw [List.getElem?_map]
  by_cases h : i < (b - a).toNat
  · rw [List.getElem?_range h, if_pos h]
    rfl
  · rw [if_neg h, List.getElem?_eq_none (by simpa using h)]
    rfl
theorem rangeV_length (a b : Int) : (rangeV a b).length = (b - a).toNat := by simp [rangeV]
theorem jw_range (a b : Int) : JW L (Itr a (b - a).toNat) (rangeV a b) F1 μ1 S := by
  intro pm i F μ M ρ σ H St sp
  refine ⟨fun e => ?_, fun z hz => ?_⟩
  · rw [rangeV_length] at e
    exact Nat.le_of_eq e.symm
  · rw [rangeV_get] at hz
    split at hz
    · rename_i hi
      cases hz
      refine ⟨hi, fun x H' y => ?_⟩
      obtain ⟨e1, e2⟩ := y
      subst e1 e2
      exact ⟨F, St, Sub.refl _, .int _, sp⟩
    · cases hz
theorem pairs_get : ∀ (xs : List PV) (n i : Nat), (pairs n xs)[i]? = (xs[i]?).map fun x => .tup [.int ((n + i : Nat) : Int), x]
  | [], n, i => by simp [pairs]
  | x :: xs, n, 0 => by simp [pairs]
  | x :: xs, n, i + 1 => by
    simp only [pairs, List.getElem?_cons_succ]
    rw [pairs_get xs (n + 1) i, show n + 1 + i = n + (i + 1) by omega]
theorem pairs_length : ∀ (xs : List PV) (n : Nat), (pairs n xs).length = xs.length
  | [], _ => rfl
  | x :: xs, n => by simp [pairs, pairs_length xs]
/-- a new pair -/
theorem pair_new {pm : Pm} {F : Hp} {μ : List Addr} {M : Mem} {ρ : Slots} {σ : L2.St} {H : Hp} (St : Stt L pm F μ M ρ σ H) (sp : SrcP F1 μ1 S F μ H) {T : Addr} (hT : H T = none) {v w : V} {x y : PV} (r1 : RepV L F μ v x) (r2 : RepV L F μ w y) :
    ∃ F', Stt L pm F' μ M ρ σ (upd H T (.tup [v, w])) ∧ Sub F F' ∧ RepV L F' μ (.ref T) (.tup [x, y]) ∧ SrcP F1 μ1 S F' μ (upd H T (.tup [v, w])) := by
  have sb := Sub.upd (St.new hT).2.1 (HO.tup [v, w])
  exact ⟨_, St.frozen hT _, sb, .tup (SqT.of upd_same) (.cons (r1.mono sb List.prefix_rfl) (.cons (r2.mono sb List.prefix_rfl) .nil)), sp.more sb hT⟩
theorem jw_enum {k : Bool} {a : Addr} {vs : List V} {xs : List PV} (h : Src L k a vs xs F1 μ1 S) : JW L (IteA k L.K a) (pairs 0 xs) F1 μ1 S := by
  intro pm i F μ M ρ σ H St sp
  have q := h.2 F μ H St.fz sp
  have r := h.1.mono sp.1 sp.2.1
  have hl := r.length
  refine ⟨fun e => ⟨vs, q, by rw [pairs_length] at e; omega⟩, fun z hz => ?_⟩
  rw [pairs_get] at hz
  obtain ⟨x, hx, rfl⟩ := Option.map_eq_some_iff.mp hz
  obtain ⟨v, h1, h2⟩ := r.get hx
  refine ⟨⟨vs, v, q, h1⟩, fun w H' y => ?_⟩
  obtain ⟨T, v', e1, e2, e3, e4⟩ := y
  have := e4 vs q
  rw [h1] at this
  cases this
  subst e1 e3
  rw [Nat.zero_add]
  exact pair_new St sp e2 (.int _) h2
theorem zipV_get (xs ys : List PV) (i : Nat) {z : PV} (h : (zipV xs ys)[i]? = some z) : ∃ x y, xs[i]? = some x ∧ ys[i]? = some y ∧ z = .tup [x, y] := by
  unfold zipV at h
  rw [List.getElem?_map] at h
  obtain ⟨p, h1, h2⟩ := Option.map_eq_some_iff.mp h
  obtain ⟨h3, h4⟩ := List.getElem?_zip_eq_some.mp h1
  exact ⟨p.1, p.2, h3, h4, h2.symm⟩
theorem zipV_length (xs ys : List PV) : (zipV xs ys).length = min xs.length ys.length := by simp [zipV]
theorem jw_zip {k l : Bool} {a b : Addr} {vs ws : List V} {xs ys : List PV} (h : Src L k a vs xs F1 μ1 S) (g : Src L l b ws ys F1 μ1 S) : JW L (ItzA k l L.K a b) (zipV xs ys) F1 μ1 S := by
  intro pm i F μ M ρ σ H St sp
  have q := h.2 F μ H St.fz sp
  have r := h.1.mono sp.1 sp.2.1
  have q' := g.2 F μ H St.fz sp
  have r' := g.1.mono sp.1 sp.2.1
  have hl := r.length
  have hl' := r'.length
  refine ⟨fun e => ⟨vs, ws, q, q', by rw [zipV_length] at e; omega, by rw [zipV_length] at e; omega, by rw [zipV_length] at e; omega⟩, fun z hz => ?_⟩
  obtain ⟨x, y, hx, hy, rfl⟩ := zipV_get xs ys i hz
  obtain ⟨v, h1, h2⟩ := r.get hx
  obtain ⟨w, g1, g2⟩ := r'.get hy
  refine ⟨⟨vs, ws, v, w, q, q', h1, g1⟩, fun u H' y => ?_⟩
  obtain ⟨T, v', w', e1, e2, e3, e4, e5⟩ := y
  have t1 := e4 vs q
  rw [h1] at t1
  cases t1
  have t2 := e5 ws q'
  rw [g1] at t2
  cases t2
  subst e1 e3
  exact pair_new St sp e2 h2 g2
/-- a source that is looked at -/
theorem src_of {pm : Pm} {F : Hp} {μ : List Addr} {M : Mem} {ρ : Slots} {σ : L2.St} {H : Hp} (St : Stt L pm F μ M ρ σ H) {x : V} {v : PV} {xs : List PV} (h : WRep L F μ ρ σ x v) (e : v = .lst xs ∨ v = .tup xs) :
    ∃ (k : Bool) (a : Addr) (vs : List V) (S : List (Addr × HO)), x = .ref a ∧ SqA k L.K H a vs ∧ (∀ F1 μ1 S1, Sub F F1 → μ <+: μ1 → (∀ p ∈ S, p ∈ S1) → Src L k a vs xs F1 μ1 S1) ∧ (∀ p ∈ S, H p.1 = some p.2 ∧ p.1 ∉ μ) ∧ (RepV L F μ x v → S = []) ∧ (S = [] ∨ ∃ (i : Nat) (ys : List PV), ρ[i]? = some (Slot.own ys)) := by
  rcases e with rfl | rfl
  · cases h with
    | of r =>
      obtain ⟨a, vs, rfl, h1, h2⟩ := r.inv_lst
      exact ⟨true, a, vs, [], rfl, SqL.of (St.fz _ _ h1), fun F1 μ1 S1 s p _ => ⟨h2.mono s p, fun F2 μ2 H2 s2 sp => SqL.of (s2 _ _ (sp.1 _ _ (s _ _ h1)))⟩, fun p hp => by simp at hp, fun _ => rfl, .inl rfl⟩
    | own h1 h2 =>
      obtain ⟨a, vs, e1, h3, h4, h5, h6⟩ := St.slot _ _ h1
      rw [h2] at e1
      cases e1
      refine ⟨true, _, vs, [(_, .lst vs)], rfl, SqL.of h3, fun F1 μ1 S1 s p hs => ⟨h4.mono s p, fun F2 μ2 H2 s2 sp => SqL.of (sp.2.2 _ (hs _ List.mem_cons_self))⟩, fun p hp => ?_, fun r => ?_, .inr ⟨_, _, h1⟩⟩
      · rw [List.mem_singleton.mp hp]
        exact ⟨h3, h6⟩
      · obtain ⟨a', vs', e1, h7, _⟩ := r.inv_lst
        cases e1
        rw [h5] at h7
        cases h7
  · cases h with
    | of r =>
      obtain ⟨a, vs, rfl, h1, h2⟩ := r.inv_tup
      exact ⟨false, a, vs, [], rfl, SqT.sub St.fz h1, fun F1 μ1 S1 s p _ => ⟨h2.mono s p, fun F2 μ2 H2 s2 sp => SqT.sub s2 (SqT.sub sp.1 (SqT.sub s h1))⟩, fun p hp => by simp at hp, fun _ => rfl, .inl rfl⟩
end
end Ev
end
section -- Sound9
/-! Sound9: readings of expressions, each construct by itself. -/
namespace Ev
open PySem PySem.Spec PyProof.Rows L2
abbrev Cp := Slots → Mem → R PV
abbrev CpL := Slots → Mem → R (List PV)
/-- an object that nobody holds yet -/
def Loose (pm : Pm) (F : Hp) (μ : List Addr) (ρ : Slots) (σ : L2.St) (p : Addr) : Prop :=
  F p = none ∧ p ∉ μ ∧ pm.H0 p = none ∧ ∀ (i : Nat) (s : Slot), ρ[i]? = some s → s.isOwn = true → σ[i]? ≠ some (some (V.ref p))
theorem sm {α : Type} {a b : α} {M M' : Mem} (h : some (a, M) = some (b, M')) : a = b ∧ M = M' := by
  cases h
  exact ⟨rfl, rfl⟩
theorem sml {a b : List PV} {M M' : Mem} (h : some (PV.lst a, M) = some (PV.lst b, M')) : a = b ∧ M = M' := by
  cases h
  exact ⟨rfl, rfl⟩
theorem smb {a b : Bool} {M M' : Mem} (h : some (PV.bl a, M) = some (PV.bl b, M')) : a = b ∧ M = M' := by
  cases h
  exact ⟨rfl, rfl⟩
section
variable {L : Lk} {pm : Pm} {F F' : Hp} {μ μ' : List Addr} {M M' : Mem} {ρ ρ' : Slots} {σ σ' : L2.St} {H H' : Hp}
theorem Stt.ownAt (S : Stt L pm F μ M ρ σ H) {i : Nat} {s : Slot} {a : Addr} (h : ρ[i]? = some s) (ho : s.isOwn = true) (ha : σ[i]? = some (some (V.ref a))) : ∃ o, H a = some o := by
  have q := S.slot i s h
  cases s with
  | non => cases ho
  | val v => cases ho
  | own xs =>
    obtain ⟨b, vs, e, hb, _⟩ := q
    rw [ha] at e
    cases e
    exact ⟨_, hb⟩
  | ownD ks vs =>
    obtain ⟨b, kvs, e, hb, _⟩ := q
    rw [ha] at e
    cases e
    exact ⟨_, hb⟩
theorem Stt.loose (S : Stt L pm F μ M ρ σ H) {p : Addr} (hp : H p = none) (o : HO) : Stt L pm F μ M ρ σ (upd H p o) ∧ Loose pm F μ ρ σ p := by
  obtain ⟨n1, n2, n3⟩ := S.new hp
  refine ⟨S.grow hp o, n2, n3, n1, fun i s h1 h2 h3 => ?_⟩
  obtain ⟨u, hu⟩ := S.ownAt h1 h2 h3
  rw [hp] at hu
  cases hu
/-- it is frozen -/
theorem Stt.freezeL (S : Stt L pm F μ M ρ σ H) {p : Addr} {o : HO} (hp : H p = some o) (l : Loose pm F μ ρ σ p) : Stt L pm (upd F p o) μ M ρ σ H ∧ Sub F (upd F p o) := by
  obtain ⟨l1, l2, l3, l4⟩ := l
  have sb := Sub.upd l1 o
  refine ⟨⟨fun b u e => ?_, S.f0.trans sb, fun b u e => ?_, S.m0, S.mnew, S.keep, S.len, fun j b m h1 h2 => ?_, fun b hb => ?_, S.nod, S.lenS, fun j t e => ?_, S.sep⟩, sb⟩
  · by_cases z : b = p
    · rw [z, upd_same] at e
      cases e
      rw [z]
      exact hp
    · rw [upd_ne z] at e
      exact S.fz b u e
  · by_cases z : b = p
    · exact .inr (z ▸ l3)
    · rw [upd_ne z] at e
      exact S.fnew b u e
  · obtain ⟨u, h3, h4⟩ := S.mem j b m h1 h2
    exact ⟨u, h3, h4.mono sb List.prefix_rfl⟩
  · rw [upd_ne (show b ≠ p from fun z => l2 (z ▸ hb))]
    exact S.muF b hb
  · have q2 := S.slot j t e
    have go : ∀ {b : Addr}, t.isOwn = true → σ[j]? = some (some (V.ref b)) → F b = none → upd F p o b = none := fun {b} ht hb e' => by
      rw [upd_ne (show b ≠ p from fun z => l4 j t e ht (z ▸ hb))]
      exact e'
    cases t with
    | non => trivial
    | val v =>
      obtain ⟨y, e1, e2⟩ := q2
      exact ⟨y, e1, e2.mono sb List.prefix_rfl⟩
    | own xs =>
      obtain ⟨b, vs, e1, e2, e3, e4, e5⟩ := q2
      exact ⟨b, vs, e1, e2, e3.mono sb List.prefix_rfl, go rfl e1 e4, e5⟩
    | ownD ks vs =>
      obtain ⟨b, kvs, e1, e2, e3, e4, e5, e6⟩ := q2
      exact ⟨b, kvs, e1, e2, e3, e4.mono sb List.prefix_rfl, go rfl e1 e5, e6⟩
end
/-- a value -/
def tv (L : Lk) (pm : Pm) (c : Cp) : TE := fun σ H Q => ∃ F μ M ρ v M', Stt L pm F μ M ρ σ H ∧ c ρ M = some (v, M') ∧
  ∀ F' μ' H' x, Stt L pm F' μ' M' ρ σ H' → Sub F F' → μ <+: μ' → RepV L F' μ' x v → Q x H'
/-- a value that is looked at -/
def tb (L : Lk) (pm : Pm) (a : E) (c : Cp) : TE := fun σ H Q => ∃ F μ M ρ v M', Stt L pm F μ M ρ σ H ∧ bor ρ M a (c ρ M) = some (v, M') ∧
  ∀ F' μ' H' x, Stt L pm F' μ' M' ρ σ H' → Sub F F' → μ <+: μ' → WRep L F' μ' ρ σ x v → (isOwn ρ a = false → RepV L F' μ' x v) → Q x H'
/-- a new list -/
def tf (L : Lk) (pm : Pm) (c : Cp) : TE := fun σ H Q => ∃ F μ M ρ xs M', Stt L pm F μ M ρ σ H ∧ c ρ M = some (.lst xs, M') ∧
  ∀ F' μ' H' p vs, Stt L pm F' μ' M' ρ σ H' → Sub F F' → μ <+: μ' → RepVs L F' μ' vs xs → H' p = some (.lst vs) → Loose pm F' μ' ρ σ p → Q (.ref p) H'
def tt (L : Lk) (pm : Pm) (c : Cp) : TT := fun σ H Q => ∃ F μ M ρ b M', Stt L pm F μ M ρ σ H ∧ c ρ M = some (.bl b, M') ∧
  ∀ F' μ' H', Stt L pm F' μ' M' ρ σ H' → Sub F F' → μ <+: μ' → Q b H'
def tl (L : Lk) (pm : Pm) (c : CpL) : TA := fun σ H Q => ∃ F μ M ρ xs M', Stt L pm F μ M ρ σ H ∧ c ρ M = some (xs, M') ∧
  ∀ F' μ' H' vs, Stt L pm F' μ' M' ρ σ H' → Sub F F' → μ <+: μ' → RepVs L F' μ' vs xs → Q vs H'
def tlb (L : Lk) (pm : Pm) (c : CpL) : TA := fun σ H Q => ∃ F μ M ρ xs M', Stt L pm F μ M ρ σ H ∧ c ρ M = some (xs, M') ∧
  ∀ F' μ' H' vs, Stt L pm F' μ' M' ρ σ H' → Sub F F' → μ <+: μ' → WReps L F' μ' ρ σ vs xs → Q vs H'
def ti (L : Lk) (pm : Pm) (it : E) (c : CpL) : TI := fun σ H Rk => ∃ F μ M ρ xs M', Stt L pm F μ M ρ σ H ∧ c ρ M = some (xs, M') ∧
  ∀ F' μ' H' J S, Stt L pm F' μ' M' ρ σ H' → Sub F F' → μ <+: μ' → JW L J xs F' μ' S → (∀ p ∈ S, H' p.1 = some p.2 ∧ p.1 ∉ μ') → (itOwn ρ it = false → S = []) → Rk J H'
section
variable {X : Cx} {L : Lk} {cf : CallF} {pm : Pm} {a b c : E} {l r t : Expr} {p : Pos}
theorem _root_.L2.PE.imp {e : Expr} {t u : TE} (h : PE X e t) (k : ∀ σ H Q, u σ H Q → t σ H Q) : PE X e u := ⟨fun pins s σ H Q I q => h.run pins s σ H Q I (k σ H Q q)⟩
theorem _root_.L2.PT.imp {e : Expr} {t u : TT} (h : PT X e t) (k : ∀ σ H Q, u σ H Q → t σ H Q) : PT X e u := ⟨fun pins s σ H Q I q => h.run pins s σ H Q I (k σ H Q q)⟩
theorem _root_.L2.PA.imp {e : List Expr} {t u : TA} (h : PA X e t) (k : ∀ σ H Q, u σ H Q → t σ H Q) : PA X e u := ⟨fun pos pins s σ H Q I q => h.run pos pins s σ H Q I (k σ H Q q)⟩
theorem _root_.L2.PI.imp {tg e : Expr} {t u : TI} (h : PI X tg e t) (k : ∀ σ H Q, u σ H Q → t σ H Q) : PI X tg e u := ⟨fun pins s σ H Q I q => h.run pins s σ H Q I (k σ H Q q)⟩
/-- a value is a value that is looked at -/
theorem tb_of (e : Expr) (ha : PE X e (tv L pm (evE cf a))) (hv : ∀ i, a ≠ .var i) : PE X e (tb L pm a (evE cf a)) := by
  refine ha.imp fun σ H Q ⟨F, μ, M, ρ, v, M', S, e1, k⟩ => ⟨F, μ, M, ρ, v, M', S, ?_, fun F' μ' H' x S' s q rr => k F' μ' H' x S' s q (.of rr) fun _ => rr⟩
  cases a <;> first
    | exact e1
    | exact absurd rfl (hv _)
theorem tb_var {i : Nat} {e : Expr} (h : PE X e (tVar i)) : PE X e (tb L pm (.var i) (evE cf (.var i))) := by
  refine h.imp fun σ H Q ⟨F, μ, M, ρ, v, M', S, e1, k⟩ => ?_
  simp only [bor] at e1
  cases hs : ρ[i]? with
  | none => simp [hs, evE, slotOf] at e1
  | some s =>
    have q := S.slot i s hs
    cases s with
    | non => simp [hs, evE, slotOf] at e1
    | val w =>
      simp [hs, evE, slotOf] at e1
      obtain ⟨e2, e3⟩ := e1
      subst e2 e3
      obtain ⟨y, e4, r⟩ := q
      exact ⟨y, e4, k F μ H y S (Sub.refl _) List.prefix_rfl (.of r) fun _ => r⟩
    | own xs =>
      simp [hs] at e1
      obtain ⟨e2, e3⟩ := e1
      subst e2 e3
      obtain ⟨a, vs, e4, _⟩ := q
      exact ⟨.ref a, e4, k F μ H _ S (Sub.refl _) List.prefix_rfl (.own hs e4) fun z => by simp [isOwn, hs] at z⟩
    | ownD ks vs =>
      simp [hs] at e1
      obtain ⟨e2, e3⟩ := e1
      subst e2 e3
      obtain ⟨a, kvs, e4, _⟩ := q
      exact ⟨.ref a, e4, k F μ H _ S (Sub.refl _) List.prefix_rfl (.ownD hs e4) fun z => by simp [isOwn, hs] at z⟩
theorem tv_var {i : Nat} {e : Expr} (h : PE X e (tVar i)) : PE X e (tv L pm (evE cf (.var i))) := by
  refine h.imp fun σ H Q ⟨F, μ, M, ρ, v, M', S, e1, k⟩ => ?_
  simp only [evE, slotOf] at e1
  cases hs : ρ[i]? with
  | none => simp [hs] at e1
  | some s =>
    have q := S.slot i s hs
    cases s with
    | val w =>
      simp [hs] at e1
      obtain ⟨e2, e3⟩ := e1
      subst e2 e3
      obtain ⟨y, e4, r⟩ := q
      exact ⟨y, e4, k F μ H y S (Sub.refl _) List.prefix_rfl r⟩
    | _ => simp [hs] at e1
/-- a constant -/
theorem tv_con {e : Expr} {y : V} {v : PV} (h : PE X e (tC y)) (r : ∀ F μ, RepV L F μ y v) (hc : evE cf a = fun _ M => some (v, M)) : PE X e (tv L pm (evE cf a)) := by
  refine h.imp fun σ H Q ⟨F, μ, M, ρ, w, M', S, e1, k⟩ => ?_
  rw [hc] at e1
  cases e1
  exact k F μ H y S (Sub.refl _) List.prefix_rfl (r F μ)
theorem tv_bin (hK : X.K = L.K) (op : BOp) (ha : PE X l (tb L pm a (evE cf a))) (hb : PE X r (tb L pm b (evE cf b))) : PE X (.BinOp l (opPy op) r p) (tv L pm (evE cf (.bin op a b))) := by
  refine (pe_op (op_bin (pm := pm) hK op) ha hb).imp fun σ H Q ⟨F, μ, M, ρ, v, M', S, e1, k⟩ => ?_
  obtain ⟨x, M1, e2, e1⟩ := bnd_inv e1
  obtain ⟨y, M2, e3, e1⟩ := bnd_inv e1
  obtain ⟨z, e4, e5⟩ := Option.map_eq_some_iff.mp e1
  obtain ⟨rfl, rfl⟩ := Prod.mk.inj e5
  refine ⟨F, μ, M, ρ, x, M1, S, e2, fun F1 μ1 H1 x' S1 s1 p1 r1 _ => ⟨F1, μ1, M1, ρ, y, M2, S1, e3, fun F2 μ2 H2 y' S2 s2 p2 r2 _ => ?_⟩⟩
  exact ⟨F2, μ2, M2, ρ, σ, x, y, z, S2, r1.mono s2 p2, r2, e4, fun F3 H3 w S3 s3 r3 => k F3 μ2 H3 w S3 (s1.trans (s2.trans s3)) (p1.trans p2) r3⟩
theorem tv_cmp (hK : X.K = L.K) (hu : X.A.units + 65 < cLine) (op : COp) (ha : PE X l (tb L pm a (evE cf a))) (hb : PE X r (tb L pm b (evE cf b))) (hm : behindInMarks (copPy op) r = false) : PE X (.Compare l [copPy op] [r] p) (tv L pm (evE cf (.cmp op a b))) := by
  refine (pe_cmpR (op_cmp (pm := pm) hK hu op) ha hb hm).imp fun σ H Q ⟨F, μ, M, ρ, v, M', S, e1, k⟩ => ?_
  obtain ⟨x, M1, e2, e1⟩ := bnd_inv e1
  obtain ⟨y, M2, e3, e1⟩ := bnd_inv e1
  obtain ⟨z, e4, e5⟩ := Option.map_eq_some_iff.mp e1
  obtain ⟨rfl, rfl⟩ := Prod.mk.inj e5
  refine ⟨F, μ, M, ρ, x, M1, S, e2, fun F1 μ1 H1 x' S1 s1 p1 r1 _ => ⟨F1, μ1, M1, ρ, y, M2, S1, e3, fun F2 μ2 H2 y' S2 s2 p2 r2 _ => ?_⟩⟩
  exact ⟨F2, μ2, M2, ρ, σ, x, y, .bl z, S2, r1.mono s2 p2, r2, by show Option.map PV.bl _ = _; rw [e4]; rfl, fun F3 H3 w S3 s3 r3 => k F3 μ2 H3 w S3 (s1.trans (s2.trans s3)) (p1.trans p2) r3⟩
theorem tt_cmp (hK : X.K = L.K) (hu : X.A.units + 65 < cLine) (op : COp) (ha : PE X l (tb L pm a (evE cf a))) (hb : PE X r (tb L pm b (evE cf b))) (hm : behindInMarks (copPy op) r = false) : PT X (.Compare l [copPy op] [r] p) (tt L pm (evE cf (.cmp op a b))) := by
  refine (pt_cmpR (op_cmp (pm := pm) hK hu op) ha hb hm).imp fun σ H Q ⟨F, μ, M, ρ, v, M', S, e1, k⟩ => ?_
  obtain ⟨x, M1, e2, e1⟩ := bnd_inv e1
  obtain ⟨y, M2, e3, e1⟩ := bnd_inv e1
  obtain ⟨z, e4, e5⟩ := Option.map_eq_some_iff.mp e1
  obtain ⟨rfl, rfl⟩ := smb (congrArg some e5)
  refine ⟨F, μ, M, ρ, x, M1, S, e2, fun F1 μ1 H1 x' S1 s1 p1 r1 _ => ⟨F1, μ1, M1, ρ, y, M2, S1, e3, fun F2 μ2 H2 y' S2 s2 p2 r2 _ => ?_⟩⟩
  refine ⟨F2, μ2, M2, ρ, σ, x, y, .bl z, S2, r1.mono s2 p2, r2, by show Option.map PV.bl _ = _; rw [e4]; rfl, fun F3 H3 w S3 s3 r3 => ?_⟩
  exact ⟨z, r3.inv_bl, k F3 μ2 H3 S3 (s1.trans (s2.trans s3)) (p1.trans p2)⟩
theorem tv_cmp2 (hK : X.K = L.K) (hu : X.A.units + 65 < cLine) (o1 o2 : COp) (ha : PE X l (tv L pm (evE cf a))) (hb : PE X r (tv L pm (evE cf b))) (hc : PE X t (tv L pm (evE cf c)))
    (h1 : behindInMarks (copPy o2) t = false) : PE X (.Compare l [copPy o1, copPy o2] [r, t] p) (tv L pm (evE cf (.cmp2 o1 o2 a b c))) := by
  refine (pe_chain (op_cmp (pm := pm) hK hu o1) (op_cmp (pm := pm) hK hu o2) ha hb hc h1).imp fun σ H Q ⟨F, μ, M, ρ, v, M', S, e1, k⟩ => ?_
  obtain ⟨x, M1, e2, e1⟩ := bnd_inv e1
  obtain ⟨y, M2, e3, e1⟩ := bnd_inv e1
  obtain ⟨z, e4, e5⟩ := Option.bind_eq_some_iff.mp e1
  refine ⟨F, μ, M, ρ, x, M1, S, e2, fun F1 μ1 H1 x' S1 s1 p1 r1 => ⟨F1, μ1, M1, ρ, y, M2, S1, e3, fun F2 μ2 H2 y' S2 s2 p2 r2 => ?_⟩⟩
  refine ⟨F2, μ2, M2, ρ, σ, x, y, .bl z, S2, .of (r1.mono s2 p2), .of r2, by show Option.map PV.bl _ = _; rw [e4]; rfl, fun F3 H3 w S3 s3 r3 => ⟨z, r3.inv_bl, ?_⟩⟩
  cases z with
  | false =>
    cases e5
    exact k F3 μ2 H3 _ S3 (s1.trans (s2.trans s3)) (p1.trans p2) (.bl _)
  | true =>
    obtain ⟨w', M3, e6, e7⟩ := bnd_inv e5
    obtain ⟨z', e8, e9⟩ := Option.map_eq_some_iff.mp e7
    obtain ⟨rfl, rfl⟩ := Prod.mk.inj e9
    refine ⟨F3, μ2, M2, ρ, w', M3, S3, e6, fun F4 μ4 H4 w4 S4 s4 p4 r4 => ?_⟩
    exact ⟨F4, μ4, M3, ρ, σ, y, w', .bl z', S4, .of (r2.mono (s3.trans s4) p4), .of r4, by show Option.map PV.bl _ = _; rw [e8]; rfl, fun F5 H5 w5 S5 s5 r5 => k F5 μ4 H5 w5 S5 (s1.trans (s2.trans (s3.trans (s4.trans s5)))) (p1.trans (p2.trans p4)) r5⟩
theorem tt_of {e : Expr} (h : PE X e (tv L pm (evE cf a))) (he : ∀ whole, isTrue e X.env whole = (do let v ← whole; standAt e.pos; holding [v] (truthy v))) : PT X e (tt L pm (evE cf a)) := by
  refine (pt_val h he).imp fun σ H Q ⟨F, μ, M, ρ, v, M', S, e1, k⟩ => ?_
  exact ⟨F, μ, M, ρ, _, M', S, e1, fun F1 μ1 H1 x S1 s1 p1 r1 => ⟨v, r1.inv_bl, k F1 μ1 H1 S1 s1 p1⟩⟩
theorem tv_neg (ha : PE X l (tv L pm (evE cf a))) : PE X (.UnaryOp .USub l p) (tv L pm (evE cf (.neg a))) := by
  refine (pe_un un_neg ha).imp fun σ H Q ⟨F, μ, M, ρ, v, M', S, e1, k⟩ => ?_
  obtain ⟨x, M1, e2, e1⟩ := bnd_inv e1
  cases x with
  | int i =>
    obtain ⟨rfl, rfl⟩ := sm e1
    exact ⟨F, μ, M, ρ, _, M1, S, e2, fun F1 μ1 H1 x S1 s1 p1 r1 => ⟨i, r1.inv_int, k F1 μ1 H1 _ S1 s1 p1 (.int _)⟩⟩
  | _ => cases e1
theorem tv_no (ha : PE X l (tv L pm (evE cf a))) : PE X (.UnaryOp .Not l p) (tv L pm (evE cf (.no a))) := by
  refine (pe_not ha).imp fun σ H Q ⟨F, μ, M, ρ, v, M', S, e1, k⟩ => ?_
  obtain ⟨x, M1, e2, e1⟩ := bnd_inv e1
  cases x with
  | bl i =>
    obtain ⟨rfl, rfl⟩ := sm e1
    exact ⟨F, μ, M, ρ, _, M1, S, e2, fun F1 μ1 H1 x S1 s1 p1 r1 => ⟨i, r1.inv_bl, k F1 μ1 H1 _ S1 s1 p1 (.bl _)⟩⟩
  | _ => cases e1
theorem tt_no (ha : PT X l (tt L pm (evE cf a))) : PT X (.UnaryOp .Not l p) (tt L pm (evE cf (.no a))) := by
  refine (pt_not ha).imp fun σ H Q ⟨F, μ, M, ρ, v, M', S, e1, k⟩ => ?_
  obtain ⟨x, M1, e2, e1⟩ := bnd_inv e1
  cases x with
  | bl i =>
    obtain ⟨rfl, rfl⟩ := smb e1
    exact ⟨F, μ, M, ρ, _, M1, S, e2, fun F1 μ1 H1 S1 s1 p1 => k F1 μ1 H1 S1 s1 p1⟩
  | _ => cases e1
theorem tv_and {rest : List Expr} (ha : PE X l (tv L pm (evE cf a))) (hb : PE X (.BoolOp .And (r :: rest) p) (tv L pm (evE cf b))) : PE X (.BoolOp .And (l :: r :: rest) p) (tv L pm (evE cf (.and a b))) := by
  refine (pe_and ha hb).imp fun σ H Q ⟨F, μ, M, ρ, v, M', S, e1, k⟩ => ?_
  obtain ⟨x, M1, e2, e1⟩ := bnd_inv e1
  cases x with
  | bl i =>
    refine ⟨F, μ, M, ρ, _, M1, S, e2, fun F1 μ1 H1 x S1 s1 p1 r1 => ⟨i, r1.inv_bl, ?_⟩⟩
    cases i with
    | true => exact ⟨F1, μ1, M1, ρ, v, M', S1, e1, fun F2 μ2 H2 y S2 s2 p2 r2 => k F2 μ2 H2 y S2 (s1.trans s2) (p1.trans p2) r2⟩
    | false =>
      obtain ⟨rfl, rfl⟩ := sm e1
      exact k F1 μ1 H1 _ S1 s1 p1 (.bl _)
  | _ => cases e1
theorem tv_or {rest : List Expr} (ha : PE X l (tv L pm (evE cf a))) (hb : PE X (.BoolOp .Or (r :: rest) p) (tv L pm (evE cf b))) : PE X (.BoolOp .Or (l :: r :: rest) p) (tv L pm (evE cf (.or a b))) := by
  refine (pe_or ha hb).imp fun σ H Q ⟨F, μ, M, ρ, v, M', S, e1, k⟩ => ?_
  obtain ⟨x, M1, e2, e1⟩ := bnd_inv e1
  cases x with
  | bl i =>
    refine ⟨F, μ, M, ρ, _, M1, S, e2, fun F1 μ1 H1 x S1 s1 p1 r1 => ⟨i, r1.inv_bl, ?_⟩⟩
    cases i with
    | false => exact ⟨F1, μ1, M1, ρ, v, M', S1, e1, fun F2 μ2 H2 y S2 s2 p2 r2 => k F2 μ2 H2 y S2 (s1.trans s2) (p1.trans p2) r2⟩
    | true =>
      obtain ⟨rfl, rfl⟩ := sm e1
      exact k F1 μ1 H1 _ S1 s1 p1 (.bl _)
  | _ => cases e1
theorem tw_and {rest : List Expr} (ha : PT X l (tt L pm (evE cf a))) (hb : PW X (.BoolOp .And (r :: rest) p) (tt L pm (evE cf b))) : PW X (.BoolOp .And (l :: r :: rest) p) (tt L pm (evE cf (.and a b))) := by
  refine ⟨fun wh pins s σ H Q I ⟨F, μ, M, ρ, v, M', S, e1, k⟩ => (pw_and ha hb).run wh pins s σ H Q I ?_⟩
  obtain ⟨x, M1, e2, e1⟩ := bnd_inv e1
  cases x with
  | bl i =>
    refine ⟨F, μ, M, ρ, _, M1, S, e2, fun F1 μ1 H1 S1 s1 p1 => ?_⟩
    cases i with
    | true => exact ⟨F1, μ1, M1, ρ, v, M', S1, e1, fun F2 μ2 H2 S2 s2 p2 => k F2 μ2 H2 S2 (s1.trans s2) (p1.trans p2)⟩
    | false =>
      obtain ⟨rfl, rfl⟩ := smb e1
      exact k F1 μ1 H1 S1 s1 p1
  | _ => cases e1
theorem tw_or {rest : List Expr} (ha : PT X l (tt L pm (evE cf a))) (hb : PW X (.BoolOp .Or (r :: rest) p) (tt L pm (evE cf b))) : PW X (.BoolOp .Or (l :: r :: rest) p) (tt L pm (evE cf (.or a b))) := by
  refine ⟨fun wh pins s σ H Q I ⟨F, μ, M, ρ, v, M', S, e1, k⟩ => (pw_or ha hb).run wh pins s σ H Q I ?_⟩
  obtain ⟨x, M1, e2, e1⟩ := bnd_inv e1
  cases x with
  | bl i =>
    refine ⟨F, μ, M, ρ, _, M1, S, e2, fun F1 μ1 H1 S1 s1 p1 => ?_⟩
    cases i with
    | false => exact ⟨F1, μ1, M1, ρ, v, M', S1, e1, fun F2 μ2 H2 S2 s2 p2 => k F2 μ2 H2 S2 (s1.trans s2) (p1.trans p2)⟩
    | true =>
      obtain ⟨rfl, rfl⟩ := smb e1
      exact k F1 μ1 H1 S1 s1 p1
  | _ => cases e1
theorem tv_ite (hc : PT X t (tt L pm (evE cf c))) (ha : PE X l (tv L pm (evE cf a))) (hb : PE X r (tv L pm (evE cf b))) : PE X (.IfExp t l r p) (tv L pm (evE cf (.ite c a b))) := by
  refine (pe_ifExp hc ha hb).imp fun σ H Q ⟨F, μ, M, ρ, v, M', S, e1, k⟩ => ?_
  obtain ⟨x, M1, e2, e1⟩ := bnd_inv e1
  cases x with
  | bl i =>
    refine ⟨F, μ, M, ρ, _, M1, S, e2, fun F1 μ1 H1 S1 s1 p1 => ?_⟩
    cases i with
    | true => exact ⟨F1, μ1, M1, ρ, v, M', S1, e1, fun F2 μ2 H2 y S2 s2 p2 r2 => k F2 μ2 H2 y S2 (s1.trans s2) (p1.trans p2) r2⟩
    | false => exact ⟨F1, μ1, M1, ρ, v, M', S1, e1, fun F2 μ2 H2 y S2 s2 p2 r2 => k F2 μ2 H2 y S2 (s1.trans s2) (p1.trans p2) r2⟩
  | _ => cases e1
/-! ### lists of expressions -/
theorem tl_nil : PA X [] (tl L pm (evL cf .nil)) := pa_nil.imp fun σ H Q ⟨F, μ, M, ρ, xs, M', S, e1, k⟩ => by
  obtain ⟨rfl, rfl⟩ := sm e1
  exact k F μ H [] S (Sub.refl _) List.prefix_rfl .nil
theorem tl_cons {es : List Expr} (ha : PE X l (tv L pm (evE cf a))) (hb : PA X es (tl L pm (evL cf b))) (hs : starEach (l :: es) X.env = (false, eval l X.env) :: starEach es X.env) : PA X (l :: es) (tl L pm (evL cf (.cons a b))) := by
  refine (pa_cons ha hb hs).imp fun σ H Q ⟨F, μ, M, ρ, xs, M', S, e1, k⟩ => ?_
  obtain ⟨x, M1, e2, e1⟩ := bnd_inv e1
  obtain ⟨ys, M2, e3, e1⟩ := bnd_inv e1
  obtain ⟨rfl, rfl⟩ := sm e1
  exact ⟨F, μ, M, ρ, x, M1, S, e2, fun F1 μ1 H1 x' S1 s1 p1 r1 => ⟨F1, μ1, M1, ρ, ys, M2, S1, e3, fun F2 μ2 H2 vs S2 s2 p2 r2 => k F2 μ2 H2 _ S2 (s1.trans s2) (p1.trans p2) (.cons (r1.mono s2 p2) r2)⟩⟩
theorem tlb_nil : PA X [] (tlb L pm (evLB cf .nil)) := pa_nil.imp fun σ H Q ⟨F, μ, M, ρ, xs, M', S, e1, k⟩ => by
  obtain ⟨rfl, rfl⟩ := sm e1
  exact k F μ H [] S (Sub.refl _) List.prefix_rfl .nil
theorem tlb_cons {es : List Expr} (ha : PE X l (tb L pm a (evE cf a))) (hb : PA X es (tlb L pm (evLB cf b))) (hs : starEach (l :: es) X.env = (false, eval l X.env) :: starEach es X.env) : PA X (l :: es) (tlb L pm (evLB cf (.cons a b))) := by
  refine (pa_cons ha hb hs).imp fun σ H Q ⟨F, μ, M, ρ, xs, M', S, e1, k⟩ => ?_
  obtain ⟨x, M1, e2, e1⟩ := bnd_inv e1
  obtain ⟨ys, M2, e3, e1⟩ := bnd_inv e1
  obtain ⟨rfl, rfl⟩ := sm e1
  exact ⟨F, μ, M, ρ, x, M1, S, e2, fun F1 μ1 H1 x' S1 s1 p1 r1 _ => ⟨F1, μ1, M1, ρ, ys, M2, S1, e3, fun F2 μ2 H2 vs S2 s2 p2 r2 => k F2 μ2 H2 _ S2 (s1.trans s2) (p1.trans p2) (.cons (r1.mono s2 p2) r2)⟩⟩
theorem tv_tup {es : List Expr} {k : Nat} (h : PA X es (tl L pm (evL cf a))) : PE X (.Tuple es k p) (tv L pm (evE cf (.tup a))) := by
  refine (pe_tup h).imp fun σ H Q ⟨F, μ, M, ρ, v, M', S, e1, k⟩ => ?_
  obtain ⟨xs, M1, e2, e1⟩ := bnd_inv e1
  split at e1
  · rename_i hz
    obtain ⟨rfl, rfl⟩ := sm e1
    exact ⟨F, μ, M, ρ, xs, M1, S, e2, fun F1 μ1 H1 vs S1 s1 p1 r1 => ⟨by rw [r1.length]; exact hz, end_tup S1 r1 fun F2 H2 w S2 s2 r2 => k F2 μ1 H2 w S2 (s1.trans s2) p1 r2⟩⟩
  · cases e1
theorem tf_disp {es : List Expr} (h : PA X es (tl L pm (evL cf a))) : PE X (.List es p) (tf L pm (evE cf (.disp a))) := by
  refine (pe_lst h).imp fun σ H Q ⟨F, μ, M, ρ, v, M', S, e1, k⟩ => ?_
  obtain ⟨xs, M1, e2, e1⟩ := bnd_inv e1
  split at e1
  · rename_i hz
    obtain ⟨rfl, rfl⟩ := sml e1
    refine ⟨F, μ, M, ρ, _, _, S, e2, fun F1 μ1 H1 vs S1 s1 p1 r1 => ⟨by rw [r1.length]; exact hz, fun q hq => ?_⟩⟩
    obtain ⟨S2, lo⟩ := S1.loose hq (HO.lst vs)
    exact k F1 μ1 _ q vs S2 s1 p1 r1 upd_same lo
  · cases e1
/-- a new list as a value -/
theorem tv_f {e : Expr} (h : PE X e (tf L pm (evE cf a))) (hl : ∀ ρ M v M', evE cf a ρ M = some (v, M') → ∃ xs, v = .lst xs) : PE X e (tv L pm (evE cf a)) := by
  refine h.imp fun σ H Q ⟨F, μ, M, ρ, v, M', S, e1, k⟩ => ?_
  obtain ⟨xs, rfl⟩ := hl _ _ _ _ e1
  refine ⟨F, μ, M, ρ, xs, M', S, e1, fun F1 μ1 H1 q vs S1 s1 p1 r1 hq lo => ?_⟩
  obtain ⟨S2, sb⟩ := S1.freezeL hq lo
  exact k _ μ1 H1 _ S2 (s1.trans sb) p1 (.lst upd_same (r1.mono sb List.prefix_rfl))
/-! ### items, slices, fields, built-ins -/
theorem tv_idx (hK : X.K = L.K) (hu : X.A.units + 1 < cLine) (ha : PE X l (tb L pm a (evE cf a))) (hb : PE X r (tv L pm (evE cf b))) (hs : PlainIx r) : PE X (.Subscript l r p) (tv L pm (evE cf (.idx a b))) := by
  refine (pe_ix (ix_V (pm := pm) hK hu) ha hb hs).imp fun σ H Q ⟨F, μ, M, ρ, v, M', S, e1, k⟩ => ?_
  obtain ⟨x, M1, e2, e1⟩ := bnd_inv e1
  obtain ⟨y, M2, e3, e1⟩ := bnd_inv e1
  obtain ⟨z, e4, e5⟩ := Option.map_eq_some_iff.mp e1
  obtain ⟨rfl, rfl⟩ := Prod.mk.inj e5
  refine ⟨F, μ, M, ρ, x, M1, S, e2, fun F1 μ1 H1 x' S1 s1 p1 r1 _ => ⟨F1, μ1, M1, ρ, y, M2, S1, e3, fun F2 μ2 H2 y' S2 s2 p2 r2 => ?_⟩⟩
  exact ⟨F2, μ2, M2, ρ, σ, x, y, z, S2, r1.mono s2 p2, .of r2, e4, fun F3 H3 w S3 s3 r3 => k F3 μ2 H3 w S3 (s1.trans (s2.trans s3)) (p1.trans p2) r3⟩
/-- a bound of a slice -/
def to (L : Lk) (pm : Pm) (a : E) (c : Cp) : TO := fun σ H Q => ∃ F μ M ρ v M' o, Stt L pm F μ M ρ σ H ∧ c ρ M = some (v, M') ∧ boundE a v = some o ∧
  ∀ F' μ' H', Stt L pm F' μ' M' ρ σ H' → Sub F F' → μ <+: μ' → Q o H'
theorem to_none : PO X none (to L pm (.cst .non) (evE cf (.cst .non))) := ⟨fun pins s σ H Q I ⟨F, μ, M, ρ, v, M', o, S, e1, e2, k⟩ => po_none.run pins s σ H Q I (by
  cases e1
  cases e2
  exact k F μ H S (Sub.refl _) List.prefix_rfl)⟩
theorem to_some (ha : PE X l (tv L pm (evE cf a))) (hn : a ≠ .cst .non) : PO X (some l) (to L pm a (evE cf a)) := ⟨fun pins s σ H Q I ⟨F, μ, M, ρ, v, M', o, S, e1, e2, k⟩ => (po_some ha).run pins s σ H Q I (by
  refine ⟨F, μ, M, ρ, v, M', S, e1, fun F1 μ1 H1 x S1 s1 p1 r1 => ?_⟩
  unfold boundE at e2
  split at e2
  · exact absurd rfl hn
  · cases v with
    | int i =>
      cases e2
      exact ⟨i, r1.inv_int, k F1 μ1 H1 S1 s1 p1⟩
    | _ => cases e2)⟩
end
end Ev
end
section -- Sound10
/-! Sound10: new lists, slices, fields, built-ins, what loops walk. -/
namespace Ev
open PySem PySem.Spec PyProof.Rows L2
theorem look_rep {L : Lk} {F : Hp} {μ : List Addr} {f : Str} {w : PV} : ∀ {gs : List (Str × V)} {fs : List (Str × PV)}, gs.map (·.1) = fs.map (·.1) → RepVs L F μ (gs.map (·.2)) (fs.map (·.2)) → fs.lookup f = some w → ∃ y, gs.lookup f = some y ∧ RepV L F μ y w
  | [], [], _, _, e => by simp at e
  | [], _ :: _, h, _, _ => by simp at h
  | _ :: _, [], h, _, _ => by simp at h
  | (g, y) :: gs, (g', z) :: fs, h, r, e => by
    simp only [List.map_cons, List.cons.injEq] at h
    obtain ⟨h1, h2⟩ := h
    subst h1
    cases r with
    | cons r1 r2 =>
      rw [List.lookup_cons] at e ⊢
      cases q : f == g with
      | true =>
        rw [q] at e
        cases e
        exact ⟨y, by simp [q], r1⟩
      | false =>
        rw [q] at e
        simp only [q]
        exact look_rep h2 r2 e
/-- a new list, by its items -/
def rF (L : Lk) (pm : Pm) (f : PV → PV → Option PV) : R2 := fun a b H Q => ∃ F μ M ρ σ x y xs, Stt L pm F μ M ρ σ H ∧ WRep L F μ ρ σ a x ∧ WRep L F μ ρ σ b y ∧ f x y = some (.lst xs) ∧
  ∀ p vs H', H' = upd H p (.lst vs) → H p = none → RepVs L F μ vs xs → Q (.ref p) H'
section
variable {X : Cx} {L : Lk} {cf : CallF} {pm : Pm} {a b c d : E} {l r t : Expr} {p pos p2 : Pos}
theorem op_binF (hK : X.K = L.K) (op : BOp) : OpR X (binaryOp (opPy op)) (rF L pm (binV op)) := by
  intro pins s σ0 H a b v u Q I ra rb ⟨F, μ, M, ρ, σ, x, y, zs, S, rx, ry, e, k⟩
  unfold binV at e
  split at e
  · cases e
  · split at e <;> cases e
  · split at e <;> cases e
  · split at e
    · rename_i hz
      cases e
      cases rx with
      | of r =>
        obtain ⟨p, vs, rfl, h1, h2⟩ := r.inv_scr
        obtain ⟨q, ws, rfl, h3, h4⟩ := S.lstH ry
        have e1 := h2.length
        have e2 := h4.length
        exact op_catS pins s σ0 H _ _ v u Q I ra rb ⟨p, q, vs, ws, rfl, rfl, by rw [hK]; exact h1.imp (fun ⟨o, z⟩ => ⟨o, S.fz _ _ z⟩) id, h3, by rw [e1, e2]; exact hz, fun p hp => k p _ _ rfl hp (h2.append h4)⟩
    · cases e
  · split at e
    · rename_i hz
      cases e
      obtain ⟨p, vs, rfl, h1, h2⟩ := S.lstH rx
      obtain ⟨q, ws, rfl, h3, h4⟩ := S.lstH ry
      have e1 := h2.length
      have e2 := h4.length
      exact op_cat pins s σ0 H _ _ v u Q I ra rb ⟨p, q, vs, ws, rfl, rfl, h1, h3, by rw [e1, e2]; exact hz, fun p hp => k p _ _ rfl hp (h2.append h4)⟩
    · cases e
  · cases e
  · split at e <;> cases e
  · split at e
    · rename_i hz
      cases e
      obtain ⟨p, vs, rfl, h1, h2⟩ := S.lstH rx
      obtain rfl := ry.int
      have e1 := h2.length
      exact op_rep pins s σ0 H _ _ v u Q I ra rb ⟨p, _, vs, rfl, rfl, h1, by have := log2_abs hz.1; omega, by have := log2_abs hz.1; omega, by rw [e1]; exact hz.2, fun p hp => k p _ _ rfl hp (h2.rep _)⟩
    · cases e
  · split at e <;> cases e
  · split at e <;> cases e
  · split at e <;> cases e
  · split at e <;> cases e
  · cases e
theorem tf_bin (hK : X.K = L.K) (op : BOp) (ha : PE X l (tb L pm a (evE cf a))) (hb : PE X r (tb L pm b (evE cf b))) : PE X (.BinOp l (opPy op) r p) (tf L pm (evE cf (.bin op a b))) := by
  refine (pe_op (op_binF (pm := pm) hK op) ha hb).imp fun σ H Q ⟨F, μ, M, ρ, v, M', S, e1, k⟩ => ?_
  obtain ⟨x, M1, e2, e1⟩ := bnd_inv e1
  obtain ⟨y, M2, e3, e1⟩ := bnd_inv e1
  obtain ⟨z, e4, e5⟩ := Option.map_eq_some_iff.mp e1
  obtain ⟨rfl, rfl⟩ := Prod.mk.inj e5
  refine ⟨F, μ, M, ρ, x, M1, S, e2, fun F1 μ1 H1 x' S1 s1 p1 r1 _ => ⟨F1, μ1, M1, ρ, y, M2, S1, e3, fun F2 μ2 H2 y' S2 s2 p2 r2 _ => ?_⟩⟩
  refine ⟨F2, μ2, M2, ρ, σ, x, y, v, S2, r1.mono s2 p2, r2, e4, fun q vs H3 e5 hq r3 => ?_⟩
  obtain ⟨S3, lo⟩ := S2.loose hq (HO.lst vs)
  subst e5
  exact k F2 μ2 _ q vs S3 (s1.trans s2) (p1.trans p2) r3 upd_same lo
/-! ### slices -/
theorem tv_slc (hK : X.K = L.K) {lo hi : Option Expr} (ha : PE X l (tb L pm a (evE cf a))) (hb : PO X lo (to L pm b (evE cf b))) (hc : PO X hi (to L pm c (evE cf c))) : PE X (.Subscript l (.Slice lo hi none p2) p) (tv L pm (evE cf (.slc a b c))) := by
  refine (pe_slice (sl_V (pm := pm) hK) ha hb hc).imp fun σ H Q ⟨F, μ, M, ρ, v, M', S, e1, k⟩ => ?_
  obtain ⟨x, M1, e2, e1⟩ := bnd_inv e1
  obtain ⟨y, M2, e3, e1⟩ := bnd_inv e1
  obtain ⟨z, M3, e4, e1⟩ := bnd_inv e1
  obtain ⟨w, e5, e6⟩ := Option.map_eq_some_iff.mp e1
  obtain ⟨rfl, rfl⟩ := Prod.mk.inj e6
  obtain ⟨o1, e7, e5⟩ := Option.bind_eq_some_iff.mp e5
  obtain ⟨o2, e8, e5⟩ := Option.bind_eq_some_iff.mp e5
  refine ⟨F, μ, M, ρ, x, M1, S, e2, fun F1 μ1 H1 x' S1 s1 p1 r1 _ => ⟨F1, μ1, M1, ρ, y, M2, o1, S1, e3, e7, fun F2 μ2 H2 S2 s2 p2 => ⟨F2, μ2, M2, ρ, z, M3, o2, S2, e4, e8, fun F3 μ3 H3 S3 s3 p3 => ?_⟩⟩⟩
  exact ⟨F3, μ3, M3, ρ, σ, x, w, S3, r1.mono (s2.trans s3) (p2.trans p3), e5, fun F4 H4 u S4 s4 r4 => k F4 μ3 H4 u S4 (s1.trans (s2.trans (s3.trans s4))) (p1.trans (p2.trans p3)) r4⟩
def rSF (L : Lk) (pm : Pm) : V → Option Int → Option Int → Hp → VK → Prop := fun a lo hi H Q => ∃ F μ M ρ σ x xs, Stt L pm F μ M ρ σ H ∧ WRep L F μ ρ σ a x ∧ slcO x lo hi = some (.lst xs) ∧
  ∀ p vs H', H' = upd H p (.lst vs) → H p = none → RepVs L F μ vs xs → Q (.ref p) H'
theorem sl_VF (hK : X.K = L.K) : SlR X (rSF L pm) := by
  intro pins s σ0 H a v vl vu lo hi sl' Q I ra hs pl pu ⟨F, μ, M, ρ, σ, x, z, S, rx, e, k⟩
  unfold slcO at e
  split at e
  · cases e
  · cases e
    obtain ⟨p, vs, ea, hp, hr⟩ := S.lstW rx
    rw [← hK] at hp
    exact sl_list pins s σ0 H a v vl vu lo hi sl' Q I ra hs pl pu ⟨p, vs, ea, hp, fun p hp => k p _ _ rfl hp (sl_rep hr lo hi)⟩
  · split at e <;> cases e
  · cases e
theorem tf_slc (hK : X.K = L.K) {lo hi : Option Expr} (ha : PE X l (tb L pm a (evE cf a))) (hb : PO X lo (to L pm b (evE cf b))) (hc : PO X hi (to L pm c (evE cf c))) : PE X (.Subscript l (.Slice lo hi none p2) p) (tf L pm (evE cf (.slc a b c))) := by
  refine (pe_slice (sl_VF (pm := pm) hK) ha hb hc).imp fun σ H Q ⟨F, μ, M, ρ, v, M', S, e1, k⟩ => ?_
  obtain ⟨x, M1, e2, e1⟩ := bnd_inv e1
  obtain ⟨y, M2, e3, e1⟩ := bnd_inv e1
  obtain ⟨z, M3, e4, e1⟩ := bnd_inv e1
  obtain ⟨w, e5, e6⟩ := Option.map_eq_some_iff.mp e1
  obtain ⟨rfl, rfl⟩ := Prod.mk.inj e6
  obtain ⟨o1, e7, e5⟩ := Option.bind_eq_some_iff.mp e5
  obtain ⟨o2, e8, e5⟩ := Option.bind_eq_some_iff.mp e5
  refine ⟨F, μ, M, ρ, x, M1, S, e2, fun F1 μ1 H1 x' S1 s1 p1 r1 _ => ⟨F1, μ1, M1, ρ, y, M2, o1, S1, e3, e7, fun F2 μ2 H2 S2 s2 p2 => ⟨F2, μ2, M2, ρ, z, M3, o2, S2, e4, e8, fun F3 μ3 H3 S3 s3 p3 => ?_⟩⟩⟩
  refine ⟨F3, μ3, M3, ρ, σ, x, v, S3, r1.mono (s2.trans s3) (p2.trans p3), e5, fun q vs H4 e9 hq r4 => ?_⟩
  obtain ⟨S4, lo⟩ := S3.loose hq (HO.lst vs)
  subst e9
  exact k F3 μ3 _ q vs S4 (s1.trans (s2.trans s3)) (p1.trans (p2.trans p3)) r4 upd_same lo
/-! ### built-ins -/
/-- the builtins module has it -/
def BiOk (b : Bi) : Prop := bootBuiltins (Str.ofString (biPy b).1) = some (biPy b).2.1
theorem tv_bi {es : List Expr} {e : Expr} (hK : X.K = L.K) (hc : X.calm = true) (hgd : X.A.guards = some []) (hu : X.A.units + 65 < cLine) (bo : Bi) (hb : bo ≠ .sorted) {x : Str} (hg : Gl X x) (hm : X.mg x = none) (hx : bootBuiltins x = some (biPy bo).2.1)
    (hn : x ≠ "__name__") (hd : (x == ("__debug__" : Str)) = false) (ha : PA X (e :: es) (tlb L pm (evLB cf a)))
    (he : starEach (e :: es) X.env = (false, eval e X.env) :: starEach es X.env) (hpl : (backTo pos (starEach es X.env)).any (·.1) = false) :
    PE X (.Call (.Name x p) (e :: es) [] pos) (tv L pm (evE cf (.bi bo a))) := by
  have main : PE X (.Call (.Name x p) (e :: es) [] pos) (tCB (rB L pm fun M => biV M bo) (tlb L pm (evLB cf a))) := by
    have k := call_biV (pm := pm) hK hc hgd hu bo hb
    cases bo <;> first
      | exact pe_callB k hg hm hx ha hn hd he hpl
      | exact pe_callTy k hg hm hx ha hn hd he hpl
  refine main.imp fun σ H Q ⟨F, μ, M, ρ, v, M', S, e1, k⟩ => ?_
  obtain ⟨xs, M1, e2, e1⟩ := bnd_inv e1
  obtain ⟨z, e4, e5⟩ := Option.map_eq_some_iff.mp e1
  obtain ⟨rfl, rfl⟩ := Prod.mk.inj e5
  exact ⟨F, μ, M, ρ, xs, M1, S, e2, fun F1 μ1 H1 vs S1 s1 p1 r1 => ⟨F1, μ1, M1, ρ, σ, xs, z, S1, r1, e4, fun F2 H2 w S2 s2 r2 => k F2 μ1 H2 w S2 (s1.trans s2) p1 r2⟩⟩
/-- list(x) -/
theorem tf_list {e : Expr} (hK : X.K = L.K) {x : Str} (hg : Gl X x) (hm : X.mg x = none) (hx : bootBuiltins x = some (.type "list"))
    (hn : x ≠ "__name__") (hd : (x == ("__debug__" : Str)) = false) (ha : PA X [e] (tlb L pm (evLB cf a)))
    (he : starEach [e] X.env = (false, eval e X.env) :: starEach [] X.env) (hpl : (backTo pos (starEach [] X.env)).any (·.1) = false) :
    PE X (.Call (.Name x p) [e] [] pos) (tf L pm (evE cf (.bi .listOf a))) := by
  refine (pe_callTy call_list_of hg hm hx ha hn hd he hpl).imp fun σ H Q ⟨F, μ, M, ρ, v, M', S, e1, k⟩ => ?_
  obtain ⟨xs, M1, e2, e1⟩ := bnd_inv e1
  obtain ⟨z, e4, e5⟩ := Option.map_eq_some_iff.mp e1
  obtain ⟨rfl, rfl⟩ := Prod.mk.inj e5
  refine ⟨F, μ, M, ρ, xs, M1, S, e2, fun F1 μ1 H1 vs S1 s1 p1 r1 => ?_⟩
  cases r1 with
  | nil => cases e4
  | cons r1 rr =>
    cases rr with
    | cons _ _ => cases e4
    | nil =>
      obtain ⟨ys, h1, h2⟩ := Option.map_eq_some_iff.mp (show Option.map PV.lst (look M1 _) = some (PV.lst v) from e4)
      cases h2
      obtain ⟨q, ws, rfl, hq, hr⟩ := S1.look r1 h1
      rw [← hK] at hq
      refine ⟨q, ws, rfl, hq, fun z hz => ?_⟩
      obtain ⟨S3, lo⟩ := S1.loose hz (HO.lst ws)
      exact k F1 μ1 _ z ws S3 s1 p1 hr upd_same lo
/-- isinstance -/
theorem tv_isi {e : Expr} {py : Pos} (hK : X.K = L.K) (ty : Ty) {x y : Str} (hg : Gl X x) (hm : X.mg x = none) (hx : bootBuiltins x = some (.builtin "isinstance")) (hgy : Gl X y) (hmy : X.mg y = none) (hy : bootBuiltins y = some (.type (tyPy ty)))
    (hn : x ≠ "__name__") (hd : (x == ("__debug__" : Str)) = false) (hny : y ≠ "__name__") (hdy : (y == ("__debug__" : Str)) = false) (ha : PE X e (tb L pm a (evE cf a)))
    (hs : starEach [e, .Name y py] X.env = (false, eval e X.env) :: starEach [.Name y py] X.env) :
    PE X (.Call (.Name x p) [e, .Name y py] [] pos) (tv L pm (evE cf (.isi a ty))) := by
  have h2 : PA X [e, .Name y py] (tCons (tb L pm a (evE cf a)) (tCons (tC (.ty (tyPy ty))) tNil)) := pa_cons ha (pa_cons (pe_bltn hgy hmy hy rfl hny hdy) pa_nil) hs
  refine (pe_callB (call_ty (pm := pm) hK ty) hg hm hx h2 hn hd hs).imp fun σ H Q ⟨F, μ, M, ρ, v, M', S, e1, k⟩ => ?_
  obtain ⟨z, M1, e2, e1⟩ := bnd_inv e1
  obtain ⟨w, e4, e5⟩ := Option.map_eq_some_iff.mp e1
  obtain ⟨rfl, rfl⟩ := Prod.mk.inj e5
  refine ⟨F, μ, M, ρ, z, M1, S, e2, fun F1 μ1 H1 x' S1 s1 p1 r1 _ => ?_⟩
  exact ⟨F1, μ1, M1, ρ, σ, x', z, w, S1, rfl, r1, e4, k F1 μ1 H1 _ S1 s1 p1 (.bl _)⟩
/-! ### fields -/
theorem tv_fld {e : Expr} {f : Str} (hK : X.K = L.K) (hcl : ∀ c C, L.cls c = some C → Cls X.K C ∧ NoAttr X.K C f) (ha : PE X e (tv L pm (evE cf a))) (hb : attributeBase e f X.env (eval e X.env) = eval e X.env) : PE X (.Attribute e f p) (tv L pm (evE cf (.fld a f))) := by
  refine (pe_fld ha hb).imp fun σ H Q ⟨F, μ, M, ρ, v, M', S, e1, k⟩ => ?_
  obtain ⟨z, M1, e2, e1⟩ := bnd_inv e1
  obtain ⟨w, e4, e5⟩ := Option.map_eq_some_iff.mp e1
  obtain ⟨rfl, rfl⟩ := Prod.mk.inj e5
  refine ⟨F, μ, M, ρ, z, M1, S, e2, fun F1 μ1 H1 x' S1 s1 p1 r1 => ?_⟩
  cases z with
  | ref i =>
    obtain ⟨q, rfl, hq⟩ := r1.inv_ref
    simp only [fldV] at e4
    cases hm : M1[i]? with
    | none => simp [hm] at e4
    | some m =>
      cases m with
      | ins cn fs =>
        simp only [hm] at e4
        obtain ⟨o, ho, hr⟩ := S1.mem i q _ hq hm
        cases o <;> first
          | exact False.elim hr
          | skip
        rename_i C dx gs
        obtain ⟨h1, h2, h3⟩ := hr
        obtain ⟨c1, c2⟩ := hcl _ _ h1
        obtain ⟨y, h4, h5⟩ := look_rep h2 h3 e4
        exact ⟨q, C, dx, gs, y, rfl, ho, c1, c2, h4, k F1 μ1 H1 y S1 s1 p1 h5⟩
      | _ => simp [hm] at e4
  | _ => cases e4
end
end Ev
end
section -- Sound11
/-! Sound11: what loops walk; lists and tuples of ranges. -/
namespace Ev
open PySem PySem.Spec PyProof.Rows L2
def iSeqA (K : PySem.W.Frag) (te : TE) : TI := fun σ H Rk => te σ H fun x H1 => ∃ k a xs, x = .ref a ∧ SqA k K H1 a xs ∧ Rk (if k then Itl K a else Itt K a) H1
section
variable {X : Cx} {L : Lk} {cf : CallF} {pm : Pm} {a b c d : E} {e e1 e2 tg : Expr} {p pos : Pos}
theorem pi_seqA {te : TE} (he : PE X e te) : PI X tg e (iSeqA X.K te) := by
  refine ⟨fun pins s σ H Rk I h => thn (he.run pins s σ H _ I h) fun v s1 ⟨x, H1, I1, r1, k, q, xs, ex, hq, w⟩ => ?_⟩
  subst ex
  cases r1
  have fp : ∀ b ∈ [s1.heap.objs.size], FpOk X pins H1 b := fun b hb => by
    rw [List.mem_singleton.mp hb]
    exact I1.fpOk (Nat.le_refl _) (I1.hok.fresh (Nat.le_refl _))
  cases k with
  | true =>
    obtain ⟨its, _, g, _⟩ := I1.list hq
    exact wpAny_pyIter_list g.isList ⟨s1.heap.objs.size, [s1.heap.objs.size], _, _, H1, rfl, I1.kept (t' := s1.toks) fun b o z => Heap.get?_push_of_some _ z, turn_list q _, ⟨_, Heap.get?_push_size _ rfl, rfl, rfl⟩, fp, w⟩
  | false =>
    obtain ⟨its, _, g, _⟩ := I1.tuple hq
    exact wpAny_pyIter_tuple (show s1.heap.IsTuple q its.toArray from g) ⟨s1.heap.objs.size, [s1.heap.objs.size], _, _, H1, rfl, I1.kept (t' := s1.toks) fun b o z => Heap.get?_push_of_some _ z, turn_tuple q _, ⟨_, Heap.get?_push_size _ rfl, rfl, rfl⟩, fp, w⟩
theorem sq_or {v : PV} {M M' : Mem} {xs : List PV} {f : List PV → List PV} (h : (match v with
    | .lst xs => some (f xs, M)
    | .tup xs => some (f xs, M)
    | _ => none) = some (xs, M')) : ∃ ys, (v = .lst ys ∨ v = .tup ys) ∧ xs = f ys ∧ M = M' := by
  cases v <;> first
    | (cases h; done)
    | (obtain ⟨h1, h2⟩ := sm h
       exact ⟨_, by simp, h1.symm, h2⟩)
/-- for .. in a -/
theorem ti_seq (hK : X.K = L.K) (ha : PE X e (tb L pm a (evE cf a))) : PI X tg e (ti L pm (.seq a) (evI cf (.seq a))) := by
  refine (pi_seqA ha).imp fun σ H Rk ⟨F, μ, M, ρ, xs, M', S, e1, k⟩ => ?_
  obtain ⟨v, M1, e2, e1⟩ := bnd_inv e1
  obtain ⟨ys, ev, h1, h2⟩ := sq_or (f := id) e1
  subst h1 h2
  refine ⟨F, μ, M, ρ, v, M1, S, e2, fun F1 μ1 H1 x S1 s1 p1 r1 rr => ?_⟩
  obtain ⟨kk, q, vs, Z, ex, hq, hs, hz, hw, _⟩ := src_of S1 r1 ev
  rw [hK]
  refine ⟨kk, q, vs, ex, hq, k F1 μ1 H1 _ Z S1 s1 p1 (jw_seq (hs F1 μ1 Z (Sub.refl _) List.prefix_rfl fun _ h => h)) hz fun ho => hw (rr ho)⟩
/-- range -/
theorem ti_rng1 (hg : Gl X "range") (hm : X.mg "range" = none) (ha : PE X e (tv L pm (evE cf a))) (hs : starEach [e] X.env = (false, eval e X.env) :: starEach [] X.env) : PI X tg (.Call (.Name "range" p) [e] [] pos) (ti L pm (.rng1 a) (evI cf (.rng1 a))) := by
  refine (pi_range1 hg hm (pa_cons ha pa_nil hs) hs).imp fun σ H Rk ⟨F, μ, M, ρ, xs, M', S, e1, k⟩ => ?_
  obtain ⟨v, M1, e2, e1⟩ := bnd_inv e1
  cases v with
  | int j =>
    simp only at e1
    split at e1
    · rename_i hj
      obtain ⟨h1, h2⟩ := sm e1
      subst h1 h2
      have hj := smallI_b hj
      refine ⟨F, μ, M, ρ, _, M1, S, e2, fun F1 μ1 H1 x S1 s1 p1 r1 => ⟨j, by rw [r1.inv_int], hj.1, hj.2, ?_⟩⟩
      have := k F1 μ1 H1 (Itr 0 (j - 0).toNat) [] S1 s1 p1 (jw_range 0 j) (fun p hp => by simp at hp) fun _ => rfl
      rwa [Int.sub_zero] at this
    · cases e1
  | _ => cases e1
theorem ti_rng2 (hg : Gl X "range") (hm : X.mg "range" = none) (ha : PE X e1 (tv L pm (evE cf a))) (hb : PE X e2 (tv L pm (evE cf b))) (hs : starEach [e1, e2] X.env = (false, eval e1 X.env) :: starEach [e2] X.env) (hs2 : starEach [e2] X.env = (false, eval e2 X.env) :: starEach [] X.env) :
    PI X tg (.Call (.Name "range" p) [e1, e2] [] pos) (ti L pm (.rng2 a b) (evI cf (.rng2 a b))) := by
  refine (pi_range2 hg hm (pa_cons ha (pa_cons hb pa_nil hs2) hs) (by rw [hs, hs2]; rfl) hs2).imp fun σ H Rk ⟨F, μ, M, ρ, xs, M', S, e1, k⟩ => ?_
  obtain ⟨v, M1, e2, e1⟩ := bnd_inv e1
  obtain ⟨w, M2, e3, e1⟩ := bnd_inv e1
  cases v with
  | int i =>
    cases w with
    | int j =>
      simp only at e1
      split at e1
      · rename_i hj
        obtain ⟨h1, h2⟩ := sm e1
        subst h1 h2
        have hj : (-(2 ^ 62) ≤ i ∧ i < 2 ^ 62) ∧ -(2 ^ 62) ≤ j ∧ j < 2 ^ 62 := by
          rw [Bool.and_eq_true] at hj
          exact ⟨smallI_b hj.1, smallI_b hj.2⟩
        refine ⟨F, μ, M, ρ, _, M1, S, e2, fun F1 μ1 H1 x S1 s1 p1 r1 => ⟨F1, μ1, M1, ρ, _, M2, S1, e3, fun F2 μ2 H2 y S2 s2 p2 r2 => ⟨i, j, by rw [r1.inv_int, r2.inv_int], ⟨hj.1.1, hj.1.2, hj.2.1, hj.2.2⟩, ?_⟩⟩⟩
        exact k F2 μ2 H2 (Itr i (j - i).toNat) [] S2 (s1.trans s2) (p1.trans p2) (jw_range i j) (fun p hp => by simp at hp) fun _ => rfl
      · cases e1
    | _ => cases e1
  | _ => cases e1
/-- enumerate(a) -/
theorem ti_enum {tpos : Pos} {elts : List Expr} {kk : Nat} (hK : X.K = L.K) (hg : Gl X "enumerate") (hm : X.mg "enumerate" = none) (ha : PE X e (tb L pm a (evE cf a))) (hs : starEach [e] X.env = (false, eval e X.env) :: starEach [] X.env) :
    PI X (.Tuple elts kk tpos) (.Call (.Name "enumerate" p) [e] [] pos) (ti L pm (.enum a) (evI cf (.enum a))) := by
  refine (pi_enumA hg hm (pa_cons ha pa_nil hs) hs).imp fun σ H Rk ⟨F, μ, M, ρ, xs, M', S, e1, k⟩ => ?_
  obtain ⟨v, M1, e2, e1⟩ := bnd_inv e1
  obtain ⟨ys, ev, h1, h2⟩ := sq_or (f := pairs 0) e1
  subst h1 h2
  refine ⟨F, μ, M, ρ, v, M1, S, e2, fun F1 μ1 H1 x S1 s1 p1 r1 rr => ?_⟩
  obtain ⟨kk, q, vs, Z, ex, hq, hs, hz, hw, _⟩ := src_of S1 r1 ev
  rw [hK]
  refine ⟨kk, q, vs, by rw [ex], hq, k F1 μ1 H1 _ Z S1 s1 p1 (jw_enum (hs F1 μ1 Z (Sub.refl _) List.prefix_rfl fun _ h => h)) hz fun ho => hw (rr ho)⟩
/-- zip(a, b) -/
theorem ti_zip {tpos : Pos} {elts : List Expr} {kk : Nat} (hK : X.K = L.K) (hg : Gl X "zip") (hm : X.mg "zip" = none) (ha : PE X e1 (tb L pm a (evE cf a))) (hb : PE X e2 (tb L pm b (evE cf b)))
    (hs : starEach [e1, e2] X.env = (false, eval e1 X.env) :: starEach [e2] X.env) (hs2 : starEach [e2] X.env = (false, eval e2 X.env) :: starEach [] X.env) :
    PI X (.Tuple elts kk tpos) (.Call (.Name "zip" p) [e1, e2] [] pos) (ti L pm (.zip a b) (evI cf (.zip a b))) := by
  refine (pi_zipAll hg hm (pa_cons ha (pa_cons hb pa_nil hs2) hs) hs (by rw [hs2]; rfl)).imp fun σ H Rk ⟨F, μ, M, ρ, xs, M', S, e1, k⟩ => ?_
  obtain ⟨v, M1, e2, e1⟩ := bnd_inv e1
  obtain ⟨w, M2, e3, e1⟩ := bnd_inv e1
  have go : ∃ ys zs, (v = .lst ys ∨ v = .tup ys) ∧ (w = .lst zs ∨ w = .tup zs) ∧ xs = zipV ys zs ∧ M2 = M' := by
    cases v <;> cases w <;> first
      | (cases e1; done)
      | (obtain ⟨h1, h2⟩ := sm e1
         exact ⟨_, _, by simp, by simp, h1.symm, h2⟩)
  obtain ⟨ys, zs, ev, ew, h1, h2⟩ := go
  subst h1 h2
  refine ⟨F, μ, M, ρ, v, M1, S, e2, fun F1 μ1 H1 x S1 s1 p1 r1 rr => ⟨F1, μ1, M1, ρ, w, M2, S1, e3, fun F2 μ2 H2 y S2 s2 p2 r2 rr2 => ?_⟩⟩
  obtain ⟨k1, q1, vs1, Z1, ex, hq1, hs1, hz1, hw1, _⟩ := src_of S2 (r1.mono s2 p2) ev
  obtain ⟨k2, q2, vs2, Z2, ey, hq2, hs2, hz2, hw2, _⟩ := src_of S2 r2 ew
  rw [hK]
  refine ⟨k1, k2, q1, q2, vs1, vs2, by rw [ex, ey], hq1, hq2, k F2 μ2 H2 _ (Z1 ++ Z2) S2 (s1.trans s2) (p1.trans p2) (jw_zip (hs1 F2 μ2 _ (Sub.refl _) List.prefix_rfl fun _ h => List.mem_append_left _ h) (hs2 F2 μ2 _ (Sub.refl _) List.prefix_rfl fun _ h => List.mem_append_right _ h)) (fun p hp => ?_) fun ho => ?_⟩
  · rcases List.mem_append.mp hp with h | h
    · exact hz1 p h
    · exact hz2 p h
  · simp only [itOwn, Bool.or_eq_false_iff] at ho
    rw [hw1 ((rr ho.1).mono s2 p2), hw2 (rr2 ho.2)]
    rfl
/-! ### list(range), tuple(range) -/
theorem rg_rep (i j : Int) (F : Hp) (μ : List Addr) : RepVs L F μ (rgV i j) (rangeV i j) := by
  unfold rgV rangeV
  generalize List.range (j - i).toNat = ns
  induction ns with
  | nil => exact .nil
  | cons n ns ih => exact .cons (.int _) ih
theorem rg_ok {i j : Int} {one : Bool} (h : (smallI i && smallI j && decide ((j - i).toNat ≤ sizeLine) && (!one || decide (i = 0))) = true) : RgOk i j ∧ (one = true → i = 0) := by
  simp only [Bool.and_eq_true, Bool.or_eq_true, Bool.not_eq_true', decide_eq_true_eq] at h
  obtain ⟨⟨⟨h1, h2⟩, h3⟩, h4⟩ := h
  have h1 := smallI_b h1
  have h2 := smallI_b h2
  rw [sizeLine_eq] at h3
  refine ⟨⟨h1.1, h1.2, h2.1, h2.2, by omega⟩, fun h => ?_⟩
  rcases h4 with h4 | h4
  · rw [h] at h4
    cases h4
  · exact h4
def tRg (L : Lk) (pm : Pm) (cf : CallF) (a b : E) (one : Bool) : L2.St → Hp → (Int → Int → Hp → Prop) → Prop := fun σ H Q => ∃ F μ M ρ i j M', Stt L pm F μ M ρ σ H ∧ (∃ M1, evE cf a ρ M = some (.int i, M1) ∧ evE cf b ρ M1 = some (.int j, M')) ∧ (one = true → i = 0) ∧
  ∀ F' μ' H', Stt L pm F' μ' M' ρ σ H' → Sub F F' → μ <+: μ' → Q i j H'
theorem prg_one (hg : Gl X "range") (hm : X.mg "range" = none) (hz : evE cf a = fun _ M => some (.int 0, M)) (hb : PE X e (tv L pm (evE cf b))) (hs : starEach [e] X.env = (false, eval e X.env) :: starEach [] X.env) :
    PRg X (.Call (.Name "range" p) [e] [] pos) (tRg L pm cf a b true) := by
  intro pins s σ H Q I ⟨F, μ, M, ρ, i, j, M', S, ⟨M1, h1, h2⟩, h3, k⟩
  obtain rfl := h3 rfl
  rw [hz] at h1
  cases h1
  refine prg_1 hg hm hb hs pins s σ H Q I ⟨F, μ, M, ρ, _, M', S, h2, fun F1 μ1 H1 x S1 s1 p1 r1 => ⟨j, r1.inv_int, k F1 μ1 H1 S1 s1 p1⟩⟩
theorem prg_two (hg : Gl X "range") (hm : X.mg "range" = none) (ha : PE X e1 (tv L pm (evE cf a))) (hb : PE X e2 (tv L pm (evE cf b))) (hs : starEach [e1, e2] X.env = (false, eval e1 X.env) :: starEach [e2] X.env) (hs2 : starEach [e2] X.env = (false, eval e2 X.env) :: starEach [] X.env) (hp : (backTo pos (starEach [e2] X.env)).any (·.1) = false) :
    PRg X (.Call (.Name "range" p) [e1, e2] [] pos) (tRg L pm cf a b false) := by
  intro pins s σ H Q I ⟨F, μ, M, ρ, i, j, M', S, ⟨M1, h1, h2⟩, h3, k⟩
  refine prg_2 hg hm ha hb hs hs2 hp pins s σ H Q I ⟨F, μ, M, ρ, _, M1, S, h1, fun F1 μ1 H1 x S1 s1 p1 r1 => ⟨F1, μ1, M1, ρ, _, M', S1, h2, fun F2 μ2 H2 y S2 s2 p2 r2 => ⟨i, j, r1.inv_int, r2.inv_int, k F2 μ2 H2 S2 (s1.trans s2) (p1.trans p2)⟩⟩⟩
theorem rngl_inv {one tp : Bool} {ρ : Slots} {M M' : Mem} {v : PV} (h : evE cf (.rngl a b one tp) ρ M = some (v, M')) : ∃ i j M1, evE cf a ρ M = some (.int i, M1) ∧ evE cf b ρ M1 = some (.int j, M') ∧ RgOk i j ∧ (one = true → i = 0) ∧ v = if tp then .tup (rangeV i j) else .lst (rangeV i j) := by
  obtain ⟨x, M1, e2, h⟩ := bnd_inv h
  obtain ⟨y, M2, e3, h⟩ := bnd_inv h
  cases x with
  | int i =>
    cases y with
    | int j =>
      simp only at h
      split at h
      · rename_i hj
        obtain ⟨h1, h2⟩ := sm h
        obtain ⟨q1, q2⟩ := rg_ok hj
        subst h2
        exact ⟨i, j, M1, e2, e3, q1, q2, h1.symm⟩
      · cases h
    | _ => cases h
  | _ => cases h
theorem tf_rngl {one : Bool} (hc : X.calm = true) (hg : Gl X "list") (hm : X.mg "list" = none) (he : PRg X e (tRg L pm cf a b one)) (hs : starEach [e] X.env = (false, eval e X.env) :: starEach [] X.env) : PE X (.Call (.Name "list" p) [e] [] pos) (tf L pm (evE cf (.rngl a b one false))) := by
  refine (pe_listRg hc hg hm he hs).imp fun σ H Q ⟨F, μ, M, ρ, xs, M', S, e1, k⟩ => ?_
  obtain ⟨i, j, M1, h1, h2, h3, h4, h5⟩ := rngl_inv e1
  cases h5
  refine ⟨F, μ, M, ρ, i, j, M', S, ⟨M1, h1, h2⟩, h4, fun F1 μ1 H1 S1 s1 p1 => ⟨h3, fun q hq => ?_⟩⟩
  obtain ⟨S2, lo⟩ := S1.loose hq (HO.lst (rgV i j))
  exact k F1 μ1 _ q _ S2 s1 p1 (rg_rep i j F1 μ1) upd_same lo
theorem tv_rngl {one : Bool} (hc : X.calm = true) (hg : Gl X "tuple") (hm : X.mg "tuple" = none) (he : PRg X e (tRg L pm cf a b one)) (hs : starEach [e] X.env = (false, eval e X.env) :: starEach [] X.env) : PE X (.Call (.Name "tuple" p) [e] [] pos) (tv L pm (evE cf (.rngl a b one true))) := by
  refine (pe_tupRg hc hg hm he hs).imp fun σ H Q ⟨F, μ, M, ρ, xs, M', S, e1, k⟩ => ?_
  obtain ⟨i, j, M1, h1, h2, h3, h4, h5⟩ := rngl_inv e1
  subst h5
  exact ⟨F, μ, M, ρ, i, j, M', S, ⟨M1, h1, h2⟩, h4, fun F1 μ1 H1 S1 s1 p1 => ⟨h3, end_tup S1 (rg_rep i j F1 μ1) fun F2 H2 z S2 s2 r2 => k F2 μ1 H2 z S2 (s1.trans s2) p1 r2⟩⟩
end
end Ev
end
section -- Sound12
/-! Sound12: targets; comprehensions. -/
namespace Ev
open PySem PySem.Spec PyProof.Rows L2
def tG (L : Lk) (tg : E) : TG := fun v σ H Q => ∃ pm F μ M ρ z ρ1, Stt L pm F μ M ρ σ H ∧ RepV L F μ v z ∧ setTg tg z ρ = some ρ1 ∧
  ∀ σ1, Stt L pm F μ M ρ1 σ1 H → (∀ pm', Own pm' ρ σ → Own pm' ρ1 σ1) → σ1.length = σ.length → (∀ j, j ∉ tgN tg → σ1[j]? = σ[j]?) → Q σ1 H
def tGs (L : Lk) (tg : E) : TGs := fun vs σ H Q => ∃ pm F μ M ρ zs ρ1, Stt L pm F μ M ρ σ H ∧ RepVs L F μ vs zs ∧ setTgs tg zs ρ = some ρ1 ∧
  ∀ σ1, Stt L pm F μ M ρ1 σ1 H → (∀ pm', Own pm' ρ σ → Own pm' ρ1 σ1) → σ1.length = σ.length → (∀ j, j ∉ tgN tg → σ1[j]? = σ[j]?) → Q σ1 H
def elen : E → Nat
  | .cons _ b => elen b + 1
  | _ => 0
theorem setTgs_len : ∀ {es : E} {zs : List PV} {ρ ρ1 : Slots}, setTgs es zs ρ = some ρ1 → zs.length = elen es
  | .nil, [], _, _, _ => rfl
  | .cons a b, z :: zs, _, _, h => by
    obtain ⟨ρ2, _, h2⟩ := Option.bind_eq_some_iff.mp (show (setTg a z _).bind (fun ρ1 => setTgs b zs ρ1) = some _ from h)
    rw [List.length_cons, setTgs_len h2, elen]
  | .nil, _ :: _, _, _, h => by simp [setTgs] at h
  | .cons _ _, [], _, _, h => by simp [setTgs] at h
  | .var _, _, _, _, h => by simp [setTgs] at h
  | .cst _, _, _, _, h => by simp [setTgs] at h
  | .glo _ _, _, _, _, h => by simp [setTgs] at h
  | .bin _ _ _, _, _, _, h => by simp [setTgs] at h
  | .neg _, _, _, _, h => by simp [setTgs] at h
  | .no _, _, _, _, h => by simp [setTgs] at h
  | .and _ _, _, _, _, h => by simp [setTgs] at h
  | .or _ _, _, _, _, h => by simp [setTgs] at h
  | .cmp _ _ _, _, _, _, h => by simp [setTgs] at h
  | .cmp2 _ _ _ _ _, _, _, _, h => by simp [setTgs] at h
  | .ite _ _ _, _, _, _, h => by simp [setTgs] at h
  | .tup _, _, _, _, h => by simp [setTgs] at h
  | .call _ _, _, _, _, h => by simp [setTgs] at h
  | .callB _ _, _, _, _, h => by simp [setTgs] at h
  | .meth _ _ _ _ _, _, _, _, h => by simp [setTgs] at h
  | .make _ _ _, _, _, _, h => by simp [setTgs] at h
  | .idx _ _, _, _, _, h => by simp [setTgs] at h
  | .slc _ _ _, _, _, _, h => by simp [setTgs] at h
  | .fld _ _, _, _, _, h => by simp [setTgs] at h
  | .bi _ _, _, _, _, h => by simp [setTgs] at h
  | .isi _ _, _, _, _, h => by simp [setTgs] at h
  | .disp _, _, _, _, h => by simp [setTgs] at h
  | .comp _ _ _ _ _, _, _, _, h => by simp [setTgs] at h
  | .comp2 _ _ _ _ _ _ _, _, _, _, h => by simp [setTgs] at h
  | .dkeys _ _ _ _ _, _, _, _, h => by simp [setTgs] at h
  | .rngl _ _ _ _, _, _, _, h => by simp [setTgs] at h
  | .seq _, _, _, _, h => by simp [setTgs] at h
  | .rng1 _, _, _, _, h => by simp [setTgs] at h
  | .rng2 _ _, _, _, _, h => by simp [setTgs] at h
  | .enum _, _, _, _, h => by simp [setTgs] at h
  | .zip _ _, _, _, _, h => by simp [setTgs] at h
section
variable {X : Cx} {L : Lk} {a b : E} {e : Expr} {es : List Expr} {pos : Pos}
theorem _root_.L2.PG.imp {t u : TG} (h : PG X e t) (k : ∀ v σ H Q, u v σ H Q → t v σ H Q) : PG X e u := ⟨fun pins s σ H v w Q I r q => h.run pins s σ H v w Q I r (k v σ H Q q)⟩
theorem _root_.L2.PGs.imp {t u : TGs} (h : PGs X es t) (k : ∀ v σ H Q, u v σ H Q → t v σ H Q) : PGs X es u := ⟨fun pins s σ H v w Q I r q => h.run pins s σ H v w Q I r (k v σ H Q q)⟩
theorem pg_var {i : Nat} {x : Str} (hN : X.N.Nodup) (hi : X.N[i]? = some x) (hx : Loc X.env.scope x) (hf : X.fn x = true ∨ X.env.scope.names.lookup x = some .local) : PG X (.Name x pos) (tG L (.var i)) := by
  refine (pg_name hN hi hx hf).imp fun v σ H Q ⟨pm, F, μ, M, ρ, z, ρ1, S, r, e1, k⟩ => ?_
  cases e1
  refine k _ (S.setVal i r) (fun pm' W => W.setVal i z v) (List.length_set ..) fun j hj => ?_
  exact List.getElem?_set_ne (fun q => hj (by rw [← q]; exact List.mem_singleton.mpr rfl))
theorem pg_tupT {n : Nat} (hK : X.K = L.K) (hc : X.calm = true) (h : PGs X es (tGs L a)) (hn : (assignEach es X.env).length = elen a) (hst : (assignEach es X.env).findIdx? (·.1) = none) : PG X (.Tuple es n pos) (tG L (.tup a)) := by
  refine (pg_tup hc h hn hst).imp fun v σ H Q ⟨pm, F, μ, M, ρ, z, ρ1, S, r, e1, k⟩ => ?_
  cases z with
  | tup zs =>
    obtain ⟨q, vs, rfl, h1, h2⟩ := r.inv_tup
    have e1 : setTgs a zs ρ = some ρ1 := e1
    refine ⟨q, vs, rfl, ?_, by rw [h2.length]; exact setTgs_len e1, pm, F, μ, M, ρ, zs, ρ1, S, h2, e1, k⟩
    rw [hK]
    exact SqT.sub S.fz h1
  | _ => cases e1
theorem pgs_nilT : PGs X [] (tGs L .nil) := pgs_nil.imp fun vs σ H Q ⟨pm, F, μ, M, ρ, z, ρ1, S, r, e1, k⟩ => by
  cases r with
  | nil =>
    cases e1
    exact ⟨rfl, k σ S (fun _ W => W) rfl fun _ _ => rfl⟩
  | cons _ _ => cases e1
theorem pgs_consT (h1 : PG X e (tG L a)) (h2 : PGs X es (tGs L b)) (hs : (assignEach (e :: es) X.env).map (·.2) = assign e X.env :: (assignEach es X.env).map (·.2)) : PGs X (e :: es) (tGs L (.cons a b)) :=
  (pgs_cons h1 h2 hs).imp fun vs σ H Q ⟨pm, F, μ, M, ρ, z, ρ1, S, r, e1, k⟩ => by
    cases r with
    | nil => cases e1
    | @cons v z vs zs r rr =>
      obtain ⟨ρ2, e2, e3⟩ := Option.bind_eq_some_iff.mp (show (setTg a z ρ).bind (fun ρ1 => setTgs b zs ρ1) = some _ from e1)
      refine ⟨v, vs, rfl, pm, F, μ, M, ρ, z, ρ2, S, r, e2, fun σ1 S1 W1 l1 g1 => ⟨pm, F, μ, M, ρ2, zs, ρ1, S1, rr, e3, fun σ2 S2 W2 l2 g2 => ?_⟩⟩
      refine k σ2 S2 (fun pm' W => W2 pm' (W1 pm' W)) (l2.trans l1) fun j hj => ?_
      have hj : j ∉ tgN a ++ tgN b := hj
      rw [List.mem_append, not_or] at hj
      exact (g2 j hj.2).trans (g1 j hj.1)
/-! ### wiped slots -/
theorem wipe_get (σ : L2.St) : ∀ (vs : List Nat) (j : Nat), (wipe σ vs)[j]? = if j ∈ vs ∧ j < σ.length then some none else σ[j]?
  | [], j => by simp [wipe]
  | v :: vs, j => by
    unfold wipe
    rw [List.getElem?_set, wipe_length, wipe_get σ vs j]
    by_cases h : v = j
    · subst h
      by_cases h2 : v < σ.length
      · simp [h2]
      · simp [h2]
    · have : ¬ j = v := fun q => h q.symm
      simp [h, this]
theorem wipeL_get (ρ : Slots) : ∀ (vs : List Nat) (j : Nat), (wipeL ρ vs)[j]? = if j ∈ vs ∧ j < ρ.length then some .non else ρ[j]? := by
  have hl : ∀ vs : List Nat, (wipeL ρ vs).length = ρ.length := fun vs => by
    induction vs with
    | nil => rfl
    | cons v vs ih => unfold wipeL; rw [List.length_set, ih]
  intro vs
  induction vs with
  | nil => intro j; simp [wipeL]
  | cons v vs ih =>
    intro j
    unfold wipeL
    rw [List.getElem?_set, hl, ih j]
    by_cases h : v = j
    · subst h
      by_cases h2 : v < ρ.length
      · simp [h2]
      · simp [h2]
    · have : ¬ j = v := fun q => h q.symm
      simp [h, this]
theorem wipeL_length (ρ : Slots) (vs : List Nat) : (wipeL ρ vs).length = ρ.length := by
  induction vs with
  | nil => rfl
  | cons v vs ih => unfold wipeL; rw [List.length_set, ih]
theorem wipe_eq {σ σ' : L2.St} {vs : List Nat} (hl : σ'.length = σ.length) (h : ∀ j, j ∉ vs → σ'[j]? = σ[j]?) : wipe σ' vs = wipe σ vs := by
  refine List.ext_getElem? fun j => ?_
  rw [wipe_get, wipe_get, hl]
  by_cases q : j ∈ vs
  · by_cases q2 : j < σ.length
    · simp [q, q2]
    · have : ¬ j < σ'.length := by rw [hl]; exact q2
      simp only [q2, and_false, if_false]
      rw [List.getElem?_eq_none (by omega), List.getElem?_eq_none (by omega)]
  · simp only [q, false_and, if_false]
    exact h j q
theorem wiped {vs : List Nat} {pm : Pm} {F : Hp} {μ : List Addr} {M : Mem} {ρ : Slots} {σ : L2.St} {H : Hp} (S : Stt L pm F μ M ρ σ H) : Stt L pm F μ M (wipeL ρ vs) (wipe σ vs) H := by
  have nw : ∀ {i : Nat} {s : Slot}, (wipeL ρ vs)[i]? = some s → s = .non ∨ (ρ[i]? = some s ∧ (wipe σ vs)[i]? = σ[i]?) := fun {i s} h => by
    rw [wipeL_get] at h
    rw [wipe_get, ← S.lenS]
    by_cases q : i ∈ vs ∧ i < ρ.length
    · rw [if_pos q] at h
      cases h
      exact .inl rfl
    · rw [if_neg q] at h
      rw [if_neg q]
      exact .inr ⟨h, rfl⟩
  refine ⟨S.fz, S.f0, S.fnew, S.m0, S.mnew, S.keep, S.len, S.mem, S.muF, S.nod, by rw [wipeL_length, wipe_length]; exact S.lenS, fun i s h => ?_, fun i j s t a h1 h2 o1 o2 e1 e2 => ?_⟩
  · rcases nw h with rfl | ⟨h1, h2⟩
    · trivial
    · rw [h2]
      exact S.slot i s h1
  · rcases nw h1 with rfl | ⟨h3, h4⟩
    · cases o1
    · rcases nw h2 with rfl | ⟨h5, h6⟩
      · cases o2
      · rw [h4] at e1
        rw [h6] at e2
        exact S.sep i j s t a h3 h5 o1 o2 e1 e2
/-- a loose list grows -/
theorem Stt.looseSet {pm : Pm} {F : Hp} {μ : List Addr} {M : Mem} {ρ : Slots} {σ : L2.St} {H : Hp} (S : Stt L pm F μ M ρ σ H) {D : Addr} (l : Loose pm F μ ρ σ D) (o : HO) : Stt L pm F μ M ρ σ (upd H D o) := by
  obtain ⟨l1, l2, l3, l4⟩ := l
  have ne : ∀ {b : Addr} {u : HO}, F b = some u → b ≠ D := fun {b u} h q => by rw [q, l1] at h; cases h
  refine ⟨fun b u h => by rw [upd_ne (ne h)]; exact S.fz b u h, S.f0, S.fnew, S.m0, S.mnew, fun b u h m => ?_, S.len, fun i b m h1 h2 => ?_, S.muF, S.nod, S.lenS, fun i s h => ?_, S.sep⟩
  · rw [upd_ne (show b ≠ D from fun q => by rw [q, l3] at h; cases h)]
    exact S.keep b u h m
  · obtain ⟨u, h3, h4⟩ := S.mem i b m h1 h2
    refine ⟨u, ?_, h4⟩
    rw [upd_ne (show b ≠ D from fun q => l2 (q ▸ List.mem_of_getElem? h1))]
    exact h3
  · have q := S.slot i s h
    cases s with
    | non => trivial
    | val v => exact q
    | own xs =>
      obtain ⟨c, vs, e1, e2, e3, e4, e5⟩ := q
      exact ⟨c, vs, e1, by rw [upd_ne (show c ≠ D from fun q => l4 i _ h rfl (q ▸ e1))]; exact e2, e3, e4, e5⟩
    | ownD ks vs =>
      obtain ⟨c, kvs, e1, e2, e3, e4, e5, e6⟩ := q
      exact ⟨c, kvs, e1, by rw [upd_ne (show c ≠ D from fun q => l4 i _ h rfl (q ▸ e1))]; exact e2, e3, e4, e5, e6⟩
end
end Ev
end
section -- Sound13
/-! Sound13: comprehensions. -/
namespace Ev
open PySem PySem.Spec PyProof.Rows L2
/-- .. wherever the block began -/
def xt (L : Lk) (c : Cp) : TT := fun σ H Q => ∃ pm, tt L pm c σ H Q
def xv (L : Lk) (c : Cp) : TE := fun σ H Q => ∃ pm, tv L pm c σ H Q
def xi (L : Lk) (it : E) (c : CpL) : TI := fun σ H Rk => ∃ pm, ti L pm it c σ H Rk
theorem pe_x {X : Cx} {L : Lk} {c : Cp} {e : Expr} (h : ∀ pm, PE X e (tv L pm c)) : PE X e (xv L c) := ⟨fun pins s σ H Q I ⟨pm, q⟩ => (h pm).run pins s σ H Q I q⟩
theorem pt_x {X : Cx} {L : Lk} {c : Cp} {e : Expr} (h : ∀ pm, PT X e (tt L pm c)) : PT X e (xt L c) := ⟨fun pins s σ H Q I ⟨pm, q⟩ => (h pm).run pins s σ H Q I q⟩
theorem pi_x {X : Cx} {L : Lk} {c : CpL} {it : E} {tg e : Expr} (h : ∀ pm, PI X tg e (ti L pm it c)) : PI X tg e (xi L it c) := ⟨fun pins s σ H Q I ⟨pm, q⟩ => (h pm).run pins s σ H Q I q⟩
theorem pts_none {X : Cx} {L : Lk} {cf : CallF} {c : E} (hc : evE cf c = fun _ M => some (.bl true, M)) : PTs X [] (xt L (evE cf c)) := ⟨fun pins s σ H Q I ⟨pm, F, μ, M, ρ, b, M', S, e, k⟩ => pts_nil.run pins s σ H Q I (by
  rw [hc] at e
  cases e
  exact k F μ H S (Sub.refl _) List.prefix_rfl)⟩
theorem pts_some {X : Cx} {L : Lk} {c : Cp} {e : Expr} (h : ∀ pm, PT X e (tt L pm c)) : PTs X [e] (xt L c) := pts_one (pt_x h)
/-- an object that stays loose while a block runs -/
theorem Loose.stays {L : Lk} {pm : Pm} {F F' : Hp} {μ μ' : List Addr} {M' : Mem} {ρ ρ' : Slots} {σ σ' : L2.St} {H H' : Hp} {D : Addr} {o : HO} (l : Loose pm F μ ρ σ D) (hD : H D = some o) (S' : Stt L ⟨H, F, μ⟩ F' μ' M' ρ' σ' H') : Loose pm F' μ' ρ σ D ∧ H' D = some o := by
  obtain ⟨l1, l2, l3, l4⟩ := l
  refine ⟨⟨?_, fun hm => ?_, l3, l4⟩, S'.keep D o hD l2⟩
  · cases e : F' D with
    | none => rfl
    | some u =>
      rcases S'.fnew D u e with ⟨w, z⟩ | z
      · have z : F D = some w := z
        rw [l1] at z
        cases z
      · have z : H D = none := z
        rw [hD] at z
        cases z
  · rcases S'.mnew D hm with z | z
    · exact l2 z
    · have z : H D = none := z
      rw [hD] at z
      cases z
section
variable {X : Cx} {L : Lk} {cf : CallF} {pm : Pm} {a b c d : E}
theorem drop_cons {α : Type} {xs : List α} {i : Nat} (h : i < xs.length) : xs.drop i = xs[i] :: xs.drop (i + 1) := by
  rw [List.drop_eq_getElem_cons h]
theorem wipe_two (σ : L2.St) (vs : List Nat) : wipe (wipe σ vs) vs = wipe σ vs := by
  refine List.ext_getElem? fun j => ?_
  rw [wipe_get, wipe_length]
  by_cases q : j ∈ vs ∧ j < σ.length
  · rw [if_pos q, wipe_get, if_pos q]
  · rw [if_neg q]
/-- the turns of a comprehension's loop -/
theorem turns {cond elt tg : E} {vs : List Nat} (hv : ∀ j ∈ tgN tg, j ∈ vs) {F1 F2 : Hp} {μ1 μ2 : List Addr} {M2 : Mem} {ρ0 : Slots} {σ0 : L2.St} {G : Hp} {items acc : List PV} {us : List V} {r : List PV × Mem} {J : It} {Z : List (Addr × HO)} {D : Addr}
    (jw : JW L J items F1 μ1 Z) (hz : ∀ p ∈ Z, pm.H0 p.1 = some p.2 ∧ p.1 ∉ pm.μ0) (S2 : Stt L pm F2 μ2 M2 ρ0 σ0 G) (sf : Sub F1 F2) (sm' : μ1 <+: μ2) (l2 : Loose pm F2 μ2 ρ0 σ0 D) (hD : G D = some (.lst us)) (r2 : RepVs L F2 μ2 us acc)
    (ec : compL tg (evE cf cond) (evE cf elt) ρ0 items acc M2 = some r) (End : Hp → Prop)
    (fin : ∀ F μ G us, Stt L pm F μ r.2 ρ0 σ0 G → Loose pm F μ ρ0 σ0 D → G D = some (.lst us) → RepVs L F μ us r.1 → Sub F2 F → μ2 <+: μ → End G) :
    ∃ W : Nat → Nat → Hp → Prop, (∃ m, W 0 m G) ∧ ∀ i m H, W i m H →
      (J.stop i H ∧ End H) ∨ (J.go i H ∧ ∃ Nx : Hp → Prop, (∀ H', Nx H' → ∃ m', m' < m ∧ W (i + 1) m' H') ∧ ∀ x H', J.yld i H x H' → tG L tg x σ0 H' fun σ2 H2 => wipe σ2 vs = wipe σ0 vs ∧ xt L (evE cf cond) σ2 H2 fun b H3 =>
        if b = true then xv L (evE cf elt) σ2 H3 fun y H4 => ∃ acc, H4 D = some (.lst acc) ∧ acc.length < sizeLine ∧ Nx (upd H4 D (.lst (acc ++ [y]))) else Nx H3) := by
  refine ⟨fun i m G => m = items.length - i ∧ i ≤ items.length ∧ ∃ F3 μ3 M3 acc us, Stt L pm F3 μ3 M3 ρ0 σ0 G ∧ Loose pm F3 μ3 ρ0 σ0 D ∧ G D = some (.lst us) ∧ RepVs L F3 μ3 us acc ∧ Sub F2 F3 ∧ μ2 <+: μ3 ∧
    compL tg (evE cf cond) (evE cf elt) ρ0 (items.drop i) acc M3 = some r, ⟨items.length, rfl, Nat.zero_le _, F2, μ2, M2, acc, us, S2, l2, hD, r2, Sub.refl _, List.prefix_rfl, ec⟩, fun i m G ⟨em, hi, F3, μ3, M3, acc, us, S4, l4, hD4, r4, sb, pb, ec⟩ => ?_⟩
  have sp : SrcP F1 μ1 Z F3 μ3 G := ⟨sf.trans sb, sm'.trans pb, fun p hp => S4.keep _ _ (hz p hp).1 (hz p hp).2⟩
  obtain ⟨js, jg⟩ := jw _ i F3 μ3 M3 _ _ G S4.nest sp
  by_cases hlt : i < items.length
  · refine .inr ?_
    obtain ⟨go, yl⟩ := jg items[i] (List.getElem?_eq_getElem hlt)
    rw [drop_cons hlt] at ec
    obtain ⟨ρ1, e7, ec⟩ := Option.bind_eq_some_iff.mp ec
    obtain ⟨bv, M3', e8, ec⟩ := bnd_inv ec
    refine ⟨go, fun G' => ∃ F5 μ5 M5 acc' us', Stt L pm F5 μ5 M5 ρ0 σ0 G' ∧ Loose pm F5 μ5 ρ0 σ0 D ∧ G' D = some (.lst us') ∧ RepVs L F5 μ5 us' acc' ∧ Sub F2 F5 ∧ μ2 <+: μ5 ∧
      compL tg (evE cf cond) (evE cf elt) ρ0 (items.drop (i + 1)) acc' M5 = some r, fun G' hG => ⟨items.length - (i + 1), by omega, rfl, hlt, hG⟩, fun x G1 y1 => ?_⟩
    obtain ⟨F4, S5, s5, r5, sp5⟩ := yl x G1 y1
    refine ⟨_, F4, μ3, M3, _, items[i], ρ1, S5, r5, e7, fun σ1 S6 _ hl hg => ⟨wipe_eq hl fun j hj => ?_, ?_⟩⟩
    · exact hg j fun q => hj (hv j q)
    · obtain ⟨bb, rfl⟩ : ∃ bb, bv = .bl bb := by
        cases bv <;> first
          | exact ⟨_, rfl⟩
          | cases ec
      refine ⟨_, F4, μ3, M3, ρ1, bb, M3', S6, e8, fun F5 μ5 H5 S7 s7 p7 => ?_⟩
      cases bb with
      | false =>
        have S8 := S4.unnest S7
        obtain ⟨l8, hD8⟩ := l4.stays hD4 S7
        exact ⟨F5, μ5, M3', acc, us, S8, l8, hD8, r4.mono (s5.trans s7) p7, sb.trans (s5.trans s7), pb.trans p7, ec⟩
      | true =>
        obtain ⟨v, M4, e9, ec⟩ := bnd_inv ec
        refine ⟨_, F5, μ5, M3', ρ1, v, M4, S7, e9, fun F6 μ6 H6 y S9 s9 p9 r9 => ?_⟩
        split at ec
        · rename_i hacc
          have S10 := S4.unnest S9
          obtain ⟨l10, hD10⟩ := l4.stays hD4 S9
          have sx := s5.trans (s7.trans s9)
          have px := p7.trans p9
          refine ⟨us, hD10, by rw [r4.length]; exact hacc, F6, μ6, M4, _, _, S10.looseSet l10 _, l10, upd_same, ?_, sb.trans sx, pb.trans px, ec⟩
          exact (r4.mono sx px).append (.cons r9 .nil)
        · cases ec
  · refine .inl ⟨js (by omega), ?_⟩
    have hi : i = items.length := by omega
    rw [hi, List.drop_length] at ec
    cases ec
    exact fin F3 μ3 G us S4 l4 hD4 r4 sb pb
theorem own_wipe {pm : Pm} {ρ : Slots} {σ : L2.St} {vs : List Nat} (W : Own pm ρ σ) (hl : ρ.length = σ.length) : Own pm (wipeL ρ vs) (wipe σ vs) := fun i s a h1 h2 h3 => by
  rw [wipeL_get] at h1
  rw [wipe_get, ← hl] at h3
  by_cases q : i ∈ vs ∧ i < ρ.length
  · rw [if_pos q] at h1
    cases h1
    cases h2
  · rw [if_neg q] at h1 h3
    exact W i s a h1 h2 h3
theorem endL {F1 F2 : Hp} {μ1 μ2 : List Addr} {M1 : Mem} {ρ ρ' : Slots} {σ σ' : L2.St} {H1 : Hp} {D : Addr} (S1 : Stt L pm F1 μ1 M1 ρ σ H1) (hD : H1 D = none) (l : Loose ⟨H1, F1, μ1⟩ F2 μ2 ρ' σ' D) : Loose pm F2 μ2 ρ σ D := by
  obtain ⟨l1, l2, l3', l4'⟩ := l
  refine ⟨l1, l2, (S1.new hD).1, fun j t h1 h2 h3 => ?_⟩
  obtain ⟨u, hu⟩ := S1.ownAt h1 h2 h3
  rw [hD] at hu
  cases hu
/-- a comprehension's reading -/
theorem lc_of {it cond elt tg : E} {vs : List Nat} (hv : ∀ j ∈ tgN tg, j ∈ vs) {σ : L2.St} {H : Hp} {Q : VK} (h : tf L pm (evE cf (.comp elt it cond tg vs)) σ H Q) :
    tLc (ti L pm it (evI cf it)) (tG L tg) (xt L (evE cf cond)) (xv L (evE cf elt)) vs σ H Q := by
  obtain ⟨F, μ, M, ρ, res, M', S, e1, k⟩ := h
  obtain ⟨items, M1, e2, e1⟩ := bnd_inv e1
  obtain ⟨r, e3, e4⟩ := Option.map_eq_some_iff.mp e1
  obtain ⟨e5, e6⟩ := Prod.mk.inj e4
  cases e5
  subst e6
  refine ⟨F, μ, M, ρ, items, M1, S, e2, fun F1 μ1 H1 J Z S1 s1 p1 jw hz _ D hD => ?_⟩
  have S2 : Stt L ⟨H1, F1, μ1⟩ F1 μ1 M1 (wipeL ρ vs) (wipe σ vs) H1 := wiped S1.nest
  obtain ⟨S3, l3⟩ := S2.loose hD (HO.lst [])
  have := turns hv jw hz S3 (Sub.refl _) List.prefix_rfl l3 upd_same .nil e3 (fun G => Q (.ref D) G) fun F2 μ2 G us S4 l4 hD4 r4 sb pb => k F2 μ2 G D us (S1.unnest S4) (s1.trans S4.f0) (p1.trans S4.m0) r4 hD4 (endL S1 hD l4)
  simp only [wipe_two] at this
  exact this
/-- .. with two loops -/
theorem Stt.reslot {pm pm' : Pm} {F : Hp} {μ : List Addr} {M : Mem} {ρ ρ' : Slots} {σ σ' : L2.St} {H : Hp} (S : Stt L pm F μ M ρ σ H) (S' : Stt L pm' F μ M ρ' σ' H) : Stt L pm F μ M ρ' σ' H :=
  ⟨S.fz, S.f0, S.fnew, S.m0, S.mnew, S.keep, S.len, S.mem, S.muF, S.nod, S'.lenS, S'.slot, S'.sep⟩
def xi0 (L : Lk) (it : E) (c : CpL) : TI := fun σ H Rk => ∃ pm F μ M ρ xs M', Stt L pm F μ M ρ σ H ∧ c ρ M = some (xs, M') ∧ itOwn ρ it = false ∧
  ∀ F' μ' H' J, Stt L pm F' μ' M' ρ σ H' → Sub F F' → μ <+: μ' → JW L J xs F' μ' [] → Rk J H'
theorem pi_x0 {X : Cx} {L : Lk} {c : CpL} {it : E} {tg e : Expr} (h : ∀ pm, PI X tg e (ti L pm it c)) : PI X tg e (xi0 L it c) := (pi_x h).imp fun σ H Rk ⟨pm, F, μ, M, ρ, xs, M', S, e, hw, k⟩ => ⟨pm, F, μ, M, ρ, xs, M', S, e, fun F' μ' H' J Z S' s p jw _ hz => by
  rw [hz hw] at jw
  exact k F' μ' H' J S' s p jw⟩
theorem lc2_of {it it2 cond elt tg tg2 : E} {vs : List Nat} (hv : ∀ j ∈ tgN tg, j ∈ vs) {σ : L2.St} {H : Hp} {Q : VK} (h : tf L pm (evE cf (.comp2 elt it it2 cond tg tg2 vs)) σ H Q) :
    tLc2 (ti L pm it (evI cf it)) (tG L tg) tYes (xi0 L it2 (evI cf it2)) (tG L tg2) (xt L (evE cf cond)) (xv L (evE cf elt)) vs (tgN tg2) σ H Q := by
  obtain ⟨F, μ, M, ρ, res, M', S, e1, k⟩ := h
  obtain ⟨items, M1, e2, e1⟩ := bnd_inv e1
  obtain ⟨r, e3, e4⟩ := Option.map_eq_some_iff.mp e1
  obtain ⟨e5, e6⟩ := Prod.mk.inj e4
  cases e5
  subst e6
  refine ⟨F, μ, M, ρ, items, M1, S, e2, fun F1 μ1 H1 J Z S1 s1 p1 jw hz _ D hD => ?_⟩
  have S2 : Stt L ⟨H1, F1, μ1⟩ F1 μ1 M1 (wipeL ρ vs) (wipe σ vs) H1 := wiped S1.nest
  obtain ⟨S3, l3⟩ := S2.loose hD (HO.lst [])
  generalize hit : (fun ρ1 M1 => if itOwn ρ1 it2 then none else evI cf it2 ρ1 M1) = f2 at e3
  refine ⟨fun i m G => m = items.length - i ∧ i ≤ items.length ∧ ∃ F2 μ2 M2 acc us, Stt L ⟨H1, F1, μ1⟩ F2 μ2 M2 (wipeL ρ vs) (wipe σ vs) G ∧ Loose ⟨H1, F1, μ1⟩ F2 μ2 (wipeL ρ vs) (wipe σ vs) D ∧ G D = some (.lst us) ∧ RepVs L F2 μ2 us acc ∧
    comp2L tg tg2 f2 (evE cf cond) (evE cf elt) (wipeL ρ vs) (items.drop i) acc M2 = some r, ⟨items.length, rfl, Nat.zero_le _, F1, μ1, M1, [], [], S3, l3, upd_same, .nil, e3⟩, fun i m G ⟨em, hi, F2, μ2, M2, acc, us, S4, l4, hD4, r4, ec⟩ => ?_⟩
  have sp : SrcP F1 μ1 Z F2 μ2 G := ⟨S4.f0, S4.m0, fun p hp => S4.keep _ _ (hz p hp).1 (hz p hp).2⟩
  obtain ⟨js, jg⟩ := jw _ i F2 μ2 M2 _ _ G S4.nest sp
  by_cases hlt : i < items.length
  · refine .inr ?_
    obtain ⟨go, yl⟩ := jg items[i] (List.getElem?_eq_getElem hlt)
    rw [drop_cons hlt] at ec
    obtain ⟨ρ1, e7, ec⟩ := Option.bind_eq_some_iff.mp ec
    obtain ⟨ys, M3, e8, ec⟩ := bnd_inv ec
    obtain ⟨acc2, M4, e9, ec⟩ := bnd_inv ec
    refine ⟨go, fun G' => ∃ F5 μ5 M5 acc' us', Stt L ⟨H1, F1, μ1⟩ F5 μ5 M5 (wipeL ρ vs) (wipe σ vs) G' ∧ Loose ⟨H1, F1, μ1⟩ F5 μ5 (wipeL ρ vs) (wipe σ vs) D ∧ G' D = some (.lst us') ∧ RepVs L F5 μ5 us' acc' ∧
      comp2L tg tg2 f2 (evE cf cond) (evE cf elt) (wipeL ρ vs) (items.drop (i + 1)) acc' M5 = some r, fun G' hG => ⟨items.length - (i + 1), by omega, rfl, hlt, hG⟩, fun x G1 y1 => ?_⟩
    obtain ⟨F3, S5, s5, r5, sp5⟩ := yl x G1 y1
    refine ⟨_, F3, μ2, M2, _, items[i], ρ1, S5, r5, e7, fun σ1 S6 wo hl hg => ⟨(wipe_eq hl fun j hj => hg j fun q => hj (hv j q)).trans (wipe_two σ vs), ?_⟩⟩
    unfold tYes
    dsimp only
    try rw [if_pos rfl]
    rw [← hit] at e8
    simp only at e8
    split at e8
    · cases e8
    · rename_i ho
      refine ⟨_, F3, μ2, M2, ρ1, ys, M3, S6, e8, by simpa using ho, fun F4 μ4 H4 J1 S7 s7 p7 jw1 => ?_⟩
      have S8 := S4.unnest S7
      obtain ⟨l8, hD8⟩ := l4.stays hD4 S7
      have S9 : Stt L ⟨H1, F1, μ1⟩ F4 μ4 M3 (wipeL ρ1 (tgN tg2)) (wipe σ1 (tgN tg2)) H4 := wiped (S8.reslot S7)
      have hD9 : (H1 D = none) := hD
      have ow : Own ⟨fun c => if c = D then some (HO.lst []) else none, F1, μ1⟩ (wipeL ρ vs) (wipe σ vs) := fun j t c h1 h2 h3 => by
        show (if c = D then some (HO.lst []) else none) = none
        rw [if_neg]
        intro q
        subst q
        exact l4.2.2.2 j t h1 h2 h3
      have ow := own_wipe (vs := tgN tg2) (wo _ ow) S6.lenS
      have l9 : Loose ⟨H1, F1, μ1⟩ F4 μ4 (wipeL ρ1 (tgN tg2)) (wipe σ1 (tgN tg2)) D := by
        refine ⟨l8.1, l8.2.1, hD, fun j t h1 h2 h3 => ?_⟩
        have q : (if D = D then some (HO.lst []) else none) = none := ow j t D h1 h2 h3
        rw [if_pos rfl] at q
        cases q
      have := turns (fun j h => h) jw1 (fun p hp => by simp at hp) S9 (Sub.refl _) List.prefix_rfl l9 hD8 (r4.mono (s5.trans s7) p7) e9
        (fun G' => ∃ F5 μ5 M5 acc' us', Stt L ⟨H1, F1, μ1⟩ F5 μ5 M5 (wipeL ρ vs) (wipe σ vs) G' ∧ Loose ⟨H1, F1, μ1⟩ F5 μ5 (wipeL ρ vs) (wipe σ vs) D ∧ G' D = some (.lst us') ∧ RepVs L F5 μ5 us' acc' ∧
      comp2L tg tg2 f2 (evE cf cond) (evE cf elt) (wipeL ρ vs) (items.drop (i + 1)) acc' M5 = some r) fun F5 μ5 G5 us5 S10 l10 hD10 r10 sb pb => ⟨F5, μ5, M4, acc2, us5, S2.unnest S10, ⟨l10.1, l10.2.1, hD, l4.2.2.2⟩, hD10, r10, ec⟩
      simp only [wipe_two] at this
      exact this
  · refine .inl ⟨js (by omega), ?_⟩
    have hi : i = items.length := by omega
    rw [hi, List.drop_length] at ec
    cases ec
    exact k F2 μ2 G D us (S1.unnest S4) (s1.trans S4.f0) (p1.trans S4.m0) r4 hD4 (endL S1 hD l4)
theorem tf_comp {it cond elt tg : E} {ow : List (Str × Nat)} {e1 e2 te : Expr} {ifs : List Expr} {scope : Scope} {pos : Pos} (hc : X.calm = true) (hN : X.N.Nodup) (ok : BlkOk X.N X.env.scope scope ow) (hv : ∀ j ∈ tgN tg, j ∈ ow.map (·.2))
    (hi : PI X te e2 (ti L pm it (evI cf it)))
    (hg : ∀ (s : Shared) (H : Hp) (C : Addr) (cl : List (Str × Addr)) (fp : List Addr), PG (X.blk s H scope (compEnvC scope cl C X.env) fp) te (tG L tg))
    (ht : ∀ (s : Shared) (H : Hp) (C : Addr) (cl : List (Str × Addr)) (fp : List Addr), PTs (X.blk s H scope (compEnvC scope cl C X.env) fp) ifs (xt L (evE cf cond)))
    (he : ∀ (s : Shared) (H : Hp) (C : Addr) (cl : List (Str × Addr)) (fp : List Addr), PE (X.blk s H scope (compEnvC scope cl C X.env) fp) e1 (xv L (evE cf elt))) (hs : ∀ x, foldedSetIterable e2 X.env x = pure x) :
    PE X (.ListComp e1 [⟨te, e2, ifs, 0⟩] scope pos) (tf L pm (evE cf (.comp elt it cond tg (ow.map (·.2))))) :=
  (pe_lc hc hN hi ok hg ht he hs).imp fun σ H Q h => lc_of hv h
theorem tf_comp2 {it it2 cond elt tg tg2 : E} {ow : List (Str × Nat)} {e1 e2 e3 te te2 : Expr} {ifs : List Expr} {scope : Scope} {pos : Pos} (hc : X.calm = true) (hN : X.N.Nodup) (ok : BlkOk X.N X.env.scope scope ow) (hv : ∀ j ∈ tgN tg, j ∈ ow.map (·.2)) (hv2 : ∀ j ∈ tgN tg2, j ∈ ow.map (·.2))
    (hi : PI X te e2 (ti L pm it (evI cf it)))
    (hg : ∀ (s : Shared) (H : Hp) (C : Addr) (cl : List (Str × Addr)) (fp : List Addr), PG (X.blk s H scope (compEnvC scope cl C X.env) fp) te (tG L tg))
    (hi2 : ∀ (s : Shared) (H : Hp) (C : Addr) (cl : List (Str × Addr)) (fp : List Addr), PI (X.blk s H scope (compEnvC scope cl C X.env) fp) te2 e3 (xi0 L it2 (evI cf it2)))
    (hg2 : ∀ (s : Shared) (H : Hp) (C : Addr) (cl : List (Str × Addr)) (fp : List Addr), PG (X.blk s H scope (compEnvC scope cl C X.env) fp) te2 (tG L tg2))
    (ht : ∀ (s : Shared) (H : Hp) (C : Addr) (cl : List (Str × Addr)) (fp : List Addr), PTs (X.blk s H scope (compEnvC scope cl C X.env) fp) ifs (xt L (evE cf cond)))
    (he : ∀ (s : Shared) (H : Hp) (C : Addr) (cl : List (Str × Addr)) (fp : List Addr), PE (X.blk s H scope (compEnvC scope cl C X.env) fp) e1 (xv L (evE cf elt))) (hs : ∀ x, foldedSetIterable e2 X.env x = pure x) (hs1 : ∀ env x, foldedSetIterable e3 env x = pure x) :
    PE X (.ListComp e1 [⟨te, e2, [], 0⟩, ⟨te2, e3, ifs, 0⟩] scope pos) (tf L pm (evE cf (.comp2 elt it it2 cond tg tg2 (ow.map (·.2))))) :=
  (pe_lc2 hc hN hi ok hv2 hg (fun _ _ _ _ _ => pts_nil) hi2 hg2 ht he hs hs1).imp fun σ H Q h => lc2_of hv h
end
end Ev
end
section -- SoundG
/-! SoundG: promises that hold where nothing is being shown (repr asks for that). -/
namespace Ev
open PySem PySem.Spec PyProof.Rows L2
structure RoomG (k : Nat) (A : Around) : Prop where
  rm : Room k A
  gd : A.guards = some []
theorem RoomG.mono {j k : Nat} {A : Around} (r : RoomG k A) (h : j ≤ k) : RoomG j A := ⟨r.rm.mono h, r.gd⟩
theorem RoomG.deeper {k : Nat} {A : Around} (r : RoomG (k + 1) A) (env : Env) : RoomG k (A.deeper env) := ⟨r.rm.deeper env, r.gd⟩
theorem RoomG.make {k : Nat} {A : Around} (r : RoomG (k + 1) A) (C : Addr) (us : List Value) (kw : List (Str × Value)) : RoomG k (A.under (.builtin "type.__call__" ⟨.ref C :: us, kw⟩)) := by
  refine ⟨r.rm.make C us kw, ?_⟩
  have hg : (Code.builtin "type.__call__" ⟨.ref C :: us, kw⟩).isGuard = false := by
    show guardIds.contains "type.__call__" = false
    decide +kernel
  unfold Around.under Code.guards
  simp only [hg, pushGuards, Bool.false_eq_true, if_false]
  exact r.gd
theorem RoomG.un {k : Nat} {A : Around} (r : RoomG k A) : A.units + 16 * k + 200 < cLine := r.rm.un
/-- what a def does where nothing is being shown -/
structure FnG (P : Program) (w : World) (K : PySem.W.Frag) (mg : Str → Option Value) (base : Heap) (k : Nat) (f : Addr) (fd : FuncData) (ps : List Str) (sp : Sp) : Prop where
  len : ∀ vs H Q E, sp vs H Q E → vs.length = ps.length
  go : ∀ (A : Around) (outer : List Env) (s : Shared) (H : Hp) (args : Args) (us : List Value) (vs : List V) (Q : VK) (E : XK), RoomG k A → Env0 P w K mg base A outer s H → BindsTo s fd args (ps.zip us) → Vals vs us → sp vs H Q E →
    codeAny (model P w) A (.call (.ref f) args) (CR CX0 outer P w H s Q E) s
theorem FnG.mono {P : Program} {w : World} {K : PySem.W.Frag} {mg : Str → Option Value} {base : Heap} {j k : Nat} {f : Addr} {fd : FuncData} {ps : List Str} {sp : Sp} (F : FnG P w K mg base j f fd ps sp) (h : j ≤ k) : FnG P w K mg base k f fd ps sp :=
  ⟨F.len, fun A outer s H args us vs Q E hr => F.go A outer s H args us vs Q E (hr.mono h)⟩
section
variable {X : Cx} {k : Nat} {f C : Addr} {fd : FuncData} {ps ks : List Str} {sp : Sp} {x m : Str} {p pos apos : Pos} {e o : Expr} {es : List Expr} {ta : TE} {t tk : TA} {kws : List Keyword}
/-- the end of a call, for the body around -/
theorem back_call {pins : List (Addr × Obj)} {σ : L2.St} {H : Hp} {s s' : Shared} {Q : VK} {E : XK} {r : Result} (I : Inv X pins σ H s) (h : CR CX0 X.stack X.prog X.w H s Q E r s') : ∃ u, r = .ok (.ret u) ∧ EP X pins σ Q u s' := by
  rcases r with z | z
  · exact h.elim
  · cases z
    case ret u => exact ⟨u, rfl, I.after h⟩
    all_goals exact False.elim h
/-- calls of the value u keep the promise -/
def Runs (X : Cx) (u : Value) (kw : List Value → List (Str × Value)) (sp : List V → List V → Hp → VK → Prop) : Prop :=
  ∀ (pins : List (Addr × Obj)) (σ : L2.St) (H : Hp) (s : Shared) (Q : VK) (us ws : List Value) (vs zs : List V), Inv X pins σ H s → Vals vs us → Vals zs ws → sp vs zs H Q → wpAny (model X.prog X.w) X.A (call u us (kw ws)) (EP X pins σ Q) X.xe s
theorem wp_of_call {pins : List (Addr × Obj)} {σ : L2.St} {H : Hp} {s : Shared} {Q : VK} {E : XK} {u : Value} {us : List Value} {kw : List (Str × Value)} (I : Inv X pins σ H s) (h : codeAny (model X.prog X.w) X.A (.call u ⟨us, kw⟩) (CR CX0 X.stack X.prog X.w H s Q E) s) :
    wpAny (model X.prog X.w) X.A (call u us kw) (EP X pins σ Q) X.xe s := by
  refine wpAny_call (codeAny_mono h fun r s' q => ?_)
  obtain ⟨z, rfl, h2⟩ := back_call I q
  exact h2
theorem FnG.runs (F : FnG X.prog X.w X.K X.mg X.base k f fd ps sp) (hr : RoomG k X.A) (hb : Binds X.K fd ps []) : Runs X (.ref f) (fun _ => []) (fun vs zs H Q => sp vs H Q (fun _ _ _ => False)) := by
  intro pins σ H s Q us ws vs zs I r rz h
  have hl : us.length = ps.length := r.length.symm.trans (F.len _ _ _ _ h)
  have hb' := hb s us I.kIn (by rw [List.append_nil]; exact hl)
  rw [List.append_nil] at hb'
  exact wp_of_call I (F.go X.A X.stack s H ⟨us, []⟩ us vs Q _ hr I.env0 hb' r h)
/-- f(..) -/
theorem gg_call (F : FnG X.prog X.w X.K X.mg X.base k f fd ps sp) (hr : RoomG k X.A) (hg : Gl X x) (hm : X.mg x = some (.ref f)) (hk : PySem.W.keepIn X.K (.ref f) = true) (hb : Binds X.K fd ps []) (ha : PA X (e :: es) t)
    (hdb : (x == ("__debug__" : Str)) = false) (he : starEach (e :: es) X.env = (false, eval e X.env) :: starEach es X.env) (hpl : (backTo pos (starEach es X.env)).any (·.1) = false) : PE X (.Call (.Name x p) (e :: es) [] pos) (tCall sp [] (fun _ _ _ => False) t) :=
  ⟨fun pins s σ H Q I h => wpAny_Call_Name_kw (ld_glob I hg hm (PySem.W.callWith_K (h₀ := X.base) I.ok.mod.kin hk
    (thn (ha.run pos pins s σ H _ I h) fun us s1 ⟨vs, H1, I1, r, q⟩ => ⟨I1.kIn, F.runs hr hb pins σ H1 s1 Q us [] vs [] I1 r .nil (by simp only [List.append_nil] at q; exact q)⟩) he hpl) hdb)⟩
theorem gg_call0 (F : FnG X.prog X.w X.K X.mg X.base k f fd ps sp) (hr : RoomG k X.A) (hg : Gl X x) (hm : X.mg x = some (.ref f)) (hk : PySem.W.keepIn X.K (.ref f) = true) (hb : Binds X.K fd ps [])
    (hdb : (x == ("__debug__" : Str)) = false) : PE X (.Call (.Name x p) [] [] pos) (tCall sp [] (fun _ _ _ => False) tNil) :=
  ⟨fun pins s σ H Q I h => wpAny_Call_Name_kw (ld_glob I hg hm (PySem.W.callWith_K0 I.kIn hk (F.runs hr hb pins σ H s Q [] [] [] [] I .nil .nil h)) hdb)⟩
/-- o.m(..) -/
theorem gg_meth {pl : Sem Bool} (he : PE X o ta) (c : Cls X.K C) (hm : Meth X.K C m f) (F : FnG X.prog X.w X.K X.mg X.base k f fd ps sp) (hr : RoomG k X.A) (hb : Binds X.K fd ps []) (ha : PA X (e :: es) t)
    (hst : starEach (e :: es) X.env = (false, eval e X.env) :: starEach es X.env) (hpl : (backTo pos (starEach es X.env)).any (·.1) = false)
    (ht : eval (.Call (.Attribute o m apos) (e :: es) [] pos) X.env = (do let ov ← eval o X.env; standAt apos.atName; let (f, first) ← holding [ov] (getMethod ov m pl); callWith pos f first (backTo pos (starEach (e :: es) X.env)) (backToKw pos (keywordEach [] X.env)))) :
    PE X (.Call (.Attribute o m apos) (e :: es) [] pos) (tMeth C m sp [] (fun _ _ _ => False) ta t) := by
  constructor
  intro pins s σ H Q I h
  refine PySem.W.methodCall_KW (pl := pl) (thn (he.run pins s σ H _ I h) fun u s1 q0 => ?_) ht
  obtain ⟨y, H1, I1, rx, a, dx, fs, rfl, ea, l, q⟩ := q0
  obtain rfl : u = Value.ref a := rx
  exact getmeth_ok I1 ea c hm l (PySem.W.callWith_K (first := [.ref a]) (h₀ := X.base) I.ok.mod.kin hm.kp (thn (ha.run pos pins s1 σ H1 _ I1 q) fun us s2 ⟨vs, H2, I2, r, q2⟩ =>
    ⟨I2.kIn, F.runs hr hb pins σ H2 s2 Q (.ref a :: us) [] (.ref a :: vs) [] I2 (.cons rfl r) .nil (by simp only [List.append_nil] at q2; exact q2)⟩) hst hpl)
theorem gg_meth0 {pl : Sem Bool} (he : PE X o ta) (c : Cls X.K C) (hm : Meth X.K C m f) (F : FnG X.prog X.w X.K X.mg X.base k f fd ps sp) (hr : RoomG k X.A) (hb : Binds X.K fd ps [])
    (ht : eval (.Call (.Attribute o m apos) [] [] pos) X.env = (do let ov ← eval o X.env; standAt apos.atName; let (f, first) ← holding [ov] (getMethod ov m pl); callWith pos f first (backTo pos (starEach [] X.env)) (backToKw pos (keywordEach [] X.env)))) :
    PE X (.Call (.Attribute o m apos) [] [] pos) (tMeth C m sp [] (fun _ _ _ => False) ta tNil) := by
  constructor
  intro pins s σ H Q I h
  refine PySem.W.methodCall_KW (pl := pl) (thn (he.run pins s σ H _ I h) fun u s1 q0 => ?_) ht
  obtain ⟨y, H1, I1, rx, a, dx, fs, rfl, ea, l, q⟩ := q0
  obtain rfl : u = Value.ref a := rx
  exact getmeth_ok I1 ea c hm l (PySem.W.callWith_K0 (first := [.ref a]) I1.kIn hm.kp (F.runs hr hb pins σ H1 s1 Q [.ref a] [] [.ref a] [] I1 (.cons rfl .nil) .nil q))
/-- C(..) -/
theorem gg_init {pins : List (Addr × Obj)} {σ : L2.St} {H : Hp} {s : Shared} {Q : VK} {us : List Value} {vs : List V} (M : Mk X.K C f) (F : FnG X.prog X.w X.K X.mg X.base k f fd ps sp) (hr : RoomG (k + 1) X.A) (hb : Binds X.K fd ps []) (I : Inv X pins σ H s) (r : Vals vs us)
    (h : ∀ x dx, H x = none → H dx = none → dx ≠ x → sp (.ref x :: vs) (upd (upd H dx (.own x)) x (.ins C dx [])) (fun v H2 => v = .non ∧ Q (.ref x) H2) (fun _ _ _ => False)) : wpAny (model X.prog X.w) X.A (call (.ref C) us) (EP X pins σ Q) X.xe s := by
  have h1 := h (s.heap.objs.size + 1) s.heap.objs.size (I.hok.fresh (Nat.le_succ _)) (I.hok.fresh (Nat.le_refl _)) (Nat.ne_of_lt (Nat.lt_succ_self _))
  have J := Inv.made (C := C) I
  have rr : Vals (V.ref (s.heap.objs.size + 1) :: vs) (Value.ref (s.heap.objs.size + 1) :: us) := .cons rfl r
  have hl : (Value.ref (s.heap.objs.size + 1) :: us).length = ps.length := rr.length.symm.trans (F.len _ _ _ _ h1)
  have hb1 := hb _ (Value.ref (s.heap.objs.size + 1) :: us) J.kIn (by rw [List.append_nil]; exact hl)
  rw [List.append_nil] at hb1
  refine wpAny_call (make_map (f := f) I.kIn M.makes M.init (beq_iff_eq.mp M.fn) (codeAny_mono (F.go _ X.stack _ _ ⟨Value.ref (s.heap.objs.size + 1) :: us, []⟩ _ _ _ _ (hr.make C us []) (J.env0.make C us []) hb1 rr h1) fun res s' hq => ?_))
  obtain ⟨z, rfl, v, H', I3, rv, ev, q3⟩ := back_call J hq
  subst ev
  exact ⟨rv, V.ref (s.heap.objs.size + 1), H', I3, rfl, q3⟩
theorem gg_make (M : Mk X.K C f) (F : FnG X.prog X.w X.K X.mg X.base k f fd ps sp) (hr : RoomG (k + 1) X.A) (hg : Gl X x) (hm : X.mg x = some (.ref C)) (hb : Binds X.K fd ps []) (ha : PA X (e :: es) t) (hdb : (x == ("__debug__" : Str)) = false)
    (he : starEach (e :: es) X.env = (false, eval e X.env) :: starEach es X.env) (hpl : (backTo pos (starEach es X.env)).any (·.1) = false) : PE X (.Call (.Name x p) (e :: es) [] pos) (tMake C sp [] (fun _ _ _ => False) t) :=
  ⟨fun pins s σ H Q I h => wpAny_Call_Name_kw (ld_glob I hg hm (PySem.W.callWith_K (h₀ := X.base) I.ok.mod.kin M.kp
    (thn (ha.run pos pins s σ H _ I h) fun us s1 ⟨vs, H1, I1, r, q⟩ => ⟨I1.kIn, gg_init M F hr hb I1 r (by simp only [List.append_nil] at q; exact q)⟩) he hpl) hdb)⟩
theorem gg_make0 (M : Mk X.K C f) (F : FnG X.prog X.w X.K X.mg X.base k f fd ps sp) (hr : RoomG (k + 1) X.A) (hg : Gl X x) (hm : X.mg x = some (.ref C)) (hb : Binds X.K fd ps [])
    (hdb : (x == ("__debug__" : Str)) = false) : PE X (.Call (.Name x p) [] [] pos) (tMake C sp [] (fun _ _ _ => False) tNil) :=
  ⟨fun pins s σ H Q I h => wpAny_Call_Name_kw (ld_glob I hg hm (PySem.W.callWith_K0 I.kIn M.kp (gg_init (us := []) M F hr hb I .nil h)) hdb)⟩
end
/-- a body keeps its def's promise -/
theorem fn_ofG {P : Program} {w : World} {K : PySem.W.Frag} {mg : Str → Option Value} {base : Heap} {k : Nat} {f : Addr} {name qual : Str} {params : Arguments} {body : List Stmt} {scope : Scope} {dV kV doc pm cdv ct oc : Value} {an od : Option Addr} {osl : Array (Option Value)} {N ps : List Str} {sp : Sp}
    (lk : K.lookup f = some ⟨oc, od, .func (PySem.W.fnOf name qual params body scope dV kV doc pm an cdv ct), osl⟩) (hcd : PySem.W.codeIn K cdv qual = true) (S : FnScope N ps scope) (len : ∀ vs H Q E, sp vs H Q E → vs.length = ps.length)
    (hbody : ∀ (A : Around) (outer : List Env) (s : Shared) (H : Hp) (vs : List V) (Q : VK) (E : XK), RoomG k (A.deeper (envOfC qual scope s.heap.objs.size f cdv)) → sp vs H Q E → ∃ t, PSs (cxOf CX0 P w K mg base N qual scope f cdv A outer s H E) body t ∧ t { nx := fun _ H' => Q .non H', rt := Q } (L2.start N vs) H) :
    FnG P w K mg base (k + 1) f (PySem.W.fnOf name qual params body scope dV kV doc pm an cdv ct) ps sp := by
  refine ⟨len, ?_⟩
  intro A outer s H args us vs Q E hr e0 hb r hsp
  have old := fun b o e => (e0.bs b o e).1
  have kin : K.In s.heap := e0.mod.kin.keeps old
  have par : ∀ y ∈ ps.zip us, scope.names.lookup y.1 = some .local ∨ (scope.names.lookup y.1 = some .cell ∧ ((cellsFrom (s.heap.objs.size + 1) scope.names []).lookup y.1).isSome = true) := by
    rintro ⟨n, v⟩ hy
    refine (S.par n (List.of_mem_zip hy).1).imp id fun q => ⟨q, PySem.W.cellsFrom_some _ _ _ (.inl q)⟩
  refine codeAny_call_function hr.rm.depth (kin _ _ lk) rfl S.co S.gen rfl (PySem.W.codeRec_of kin hcd) (hb _ _ _ _ (wpAny_newFunctionEnv_cells S.kind par fun env he s1 x => ?_))
  obtain rfl := he
  obtain ⟨t, ht, hq⟩ := hbody A outer s H vs Q E (hr.deeper _) hsp
  have J := inv_start (CX := CX0) (E := E) S hr.rm.hd e0 (len _ _ _ _ hsp) r x
  refine ⟨(e0.mod.nolimit.keeps old).keeps x.toInCall.keep, codeAny_func (wpAny_mono (ht.run [] s1 (L2.start N vs) H _ J hq) ?_ fun e s' hs => hs)⟩
  intro fl s' hs
  cases fl
  case ret u =>
    obtain ⟨v, σ', H', J', rv, q⟩ := hs
    exact ⟨v, H', J'.os, J'.bare, J'.base, J'.hok, rv, q⟩
  case next =>
    obtain ⟨σ', H', J', q⟩ := hs
    exact ⟨.non, H', J'.os, J'.bare, J'.base, J'.hok, rfl, q⟩
  all_goals
    obtain ⟨_, _, _, q⟩ := hs
    exact q.elim
end Ev
end
section -- Sound14
/-! Sound14: calls of defs, methods, classes. -/
namespace Ev
open PySem PySem.Spec PyProof.Rows L2
/-- what a def promises: what c computes -/
def spI (L : Lk) (c : List PV → Mem → R PV) : Sp := fun vs H Q _ => ∃ F μ M xs v M', Stt L ⟨H, F, μ⟩ F μ M [] [] H ∧ RepVs L F μ vs xs ∧ c xs M = some (v, M') ∧
  ∀ F' μ' H' x, Stt L ⟨H, F, μ⟩ F' μ' M' [] [] H' → RepV L F' μ' x v → Q x H'
theorem look_none {f : Str} : ∀ {gs : List (Str × V)} {fs : List (Str × PV)}, gs.map (·.1) = fs.map (·.1) → fs.lookup f = none → gs.lookup f = none
  | [], [], _, _ => rfl
  | [], _ :: _, h, _ => by simp at h
  | _ :: _, [], h, _ => by simp at h
  | (g, y) :: gs, (g', z) :: fs, h, e => by
    simp only [List.map_cons, List.cons.injEq] at h
    obtain ⟨h1, h2⟩ := h
    subst h1
    rw [List.lookup_cons] at e ⊢
    cases q : f == g with
    | true =>
      rw [q] at e
      cases e
    | false =>
      rw [q] at e
      exact look_none h2 e
abbrev noE : XK := fun _ _ _ => False
section
variable {X : Cx} {L : Lk} {cf : CallF} {pm : Pm} {a b c d : E} {k n : Nat} {f C : Addr} {fd : FuncData} {ps : List Str} {x m : Str} {p pos apos : Pos} {e o : Expr} {es : List Expr}
/-- the arguments are there -/
theorem at_call {F1 : Hp} {μ1 : List Addr} {M1 M' : Mem} {ρ : Slots} {σ : L2.St} {H1 : Hp} {vs : List V} {xs : List PV} {v : PV} {ff : List PV → Mem → R PV} {Q : VK} {Eh : XK} (S1 : Stt L pm F1 μ1 M1 ρ σ H1) (r1 : RepVs L F1 μ1 vs xs) (e1 : ff xs M1 = some (v, M'))
    (kk : ∀ F' μ' H' x, Stt L pm F' μ' M' ρ σ H' → Sub F1 F' → μ1 <+: μ' → RepV L F' μ' x v → Q x H') : spI L ff vs H1 Q Eh :=
  ⟨F1, μ1, M1, xs, v, M', S1.nest.bare, r1, e1, fun F' μ' H' y S' r' => kk F' μ' H' y (S1.unnest S') S'.f0 S'.m0 r'⟩
theorem tv_call (F : FnG X.prog X.w X.K X.mg X.base k f fd ps (spI L (cf n))) (hr : RoomG k X.A) (hg : Gl X x) (hm : X.mg x = some (.ref f)) (hk : PySem.W.keepIn X.K (.ref f) = true) (hb : Binds X.K fd ps [])
    (ha : PA X (e :: es) (tl L pm (evL cf a))) (hdb : (x == ("__debug__" : Str)) = false) (he : starEach (e :: es) X.env = (false, eval e X.env) :: starEach es X.env) (hpl : (backTo pos (starEach es X.env)).any (·.1) = false) :
    PE X (.Call (.Name x p) (e :: es) [] pos) (tv L pm (evE cf (.call n a))) := by
  refine (gg_call F hr hg hm hk hb  ha hdb he hpl).imp fun σ H Q ⟨F, μ, M, ρ, v, M', S, e1, k⟩ => ?_
  obtain ⟨xs, M1, e2, e1⟩ := bnd_inv e1
  refine ⟨F, μ, M, ρ, xs, M1, S, e2, fun F1 μ1 H1 vs S1 s1 p1 r1 => ?_⟩
  simp only [List.append_nil]
  exact at_call (Eh := noE) S1 r1 e1 fun F2 μ2 H2 y S2 s2 p2 r2 => k F2 μ2 H2 y S2 (s1.trans s2) (p1.trans p2) r2
theorem tv_call0 (F : FnG X.prog X.w X.K X.mg X.base k f fd ps (spI L (cf n))) (hr : RoomG k X.A) (hg : Gl X x) (hm : X.mg x = some (.ref f)) (hk : PySem.W.keepIn X.K (.ref f) = true) (hb : Binds X.K fd ps [])
    (hdb : (x == ("__debug__" : Str)) = false) : PE X (.Call (.Name x p) [] [] pos) (tv L pm (evE cf (.call n .nil))) := by
  refine (gg_call0 F hr hg hm hk hb  hdb).imp fun σ H Q ⟨F, μ, M, ρ, v, M', S, e1, k⟩ => ?_
  exact at_call (Eh := noE) S .nil e1 k
theorem tv_meth {cn : Nat} {pl : Sem Bool} (hK : X.K = L.K) (hC : L.cls cn = some C) (ho : PE X o (tv L pm (evE cf b))) (c : Cls X.K C) (hm : Meth X.K C m f) (F : FnG X.prog X.w X.K X.mg X.base k f fd ps (spI L (cf n))) (hr : RoomG k X.A) (hb : Binds X.K fd ps [])
    (ha : PA X (e :: es) (tl L pm (evL cf a)))
    (hst : starEach (e :: es) X.env = (false, eval e X.env) :: starEach es X.env) (hpl : (backTo pos (starEach es X.env)).any (·.1) = false)
    (ht : eval (.Call (.Attribute o m apos) (e :: es) [] pos) X.env = (do
      let ov ← eval o X.env
      standAt apos.atName
      let (f, first) ← holding [ov] (getMethod ov m pl)
      callWith pos f first (backTo pos (starEach (e :: es) X.env)) (backToKw pos (keywordEach [] X.env)))) :
    PE X (.Call (.Attribute o m apos) (e :: es) [] pos) (tv L pm (evE cf (.meth cn m n b a))) := by
  refine (gg_meth ho c hm F hr hb  ha hst hpl ht).imp fun σ H Q ⟨F, μ, M, ρ, v, M', S, e1, k⟩ => ?_
  obtain ⟨z, M1, e2, e1⟩ := bnd_inv e1
  cases z with
  | ref i =>
    obtain ⟨xs, M2, e3, e4⟩ := bnd_inv e1
    refine ⟨F, μ, M, ρ, _, M1, S, e2, fun F1 μ1 H1 y S1 s1 p1 r1 => ?_⟩
    cases hmi : M1[i]? with
    | none => simp [hmi] at e4
    | some mo =>
      cases mo with
      | ins c' fs =>
        simp only [hmi] at e4
        split at e4
        · rename_i hh
          obtain ⟨hc', hl⟩ := hh
          subst hc'
          obtain ⟨q, rfl, hq⟩ := r1.inv_ref
          obtain ⟨ob, hob, hr'⟩ := S1.mem i q _ hq hmi
          cases ob <;> first
            | exact False.elim hr'
            | skip
          rename_i C' dx gs
          obtain ⟨h1, h2, h3⟩ := hr'
          rw [hC] at h1
          cases h1
          refine ⟨q, dx, gs, rfl, hob, look_none h2 (Option.isNone_iff_eq_none.mp hl), F1, μ1, M1, ρ, xs, M2, S1, e3, fun F2 μ2 H2 vs S2 s2 p2 r2 => ?_⟩
          simp only [List.append_nil]
          exact at_call (Eh := noE) S2 (.cons (r1.mono s2 p2) r2) e4 fun F3 μ3 H3 y S3 s3 p3 r3 => k F3 μ3 H3 y S3 (s1.trans (s2.trans s3)) (p1.trans (p2.trans p3)) r3
        · cases e4
      | _ => simp [hmi] at e4
  | _ => cases e1
theorem tv_meth0 {cn : Nat} {pl : Sem Bool} (hK : X.K = L.K) (hC : L.cls cn = some C) (ho : PE X o (tv L pm (evE cf b))) (c : Cls X.K C) (hm : Meth X.K C m f) (F : FnG X.prog X.w X.K X.mg X.base k f fd ps (spI L (cf n))) (hr : RoomG k X.A) (hb : Binds X.K fd ps [])
    (ht : eval (.Call (.Attribute o m apos) [] [] pos) X.env = (do
      let ov ← eval o X.env
      standAt apos.atName
      let (f, first) ← holding [ov] (getMethod ov m pl)
      callWith pos f first (backTo pos (starEach [] X.env)) (backToKw pos (keywordEach [] X.env)))) :
    PE X (.Call (.Attribute o m apos) [] [] pos) (tv L pm (evE cf (.meth cn m n b .nil))) := by
  refine (gg_meth0 ho c hm F hr hb  ht).imp fun σ H Q ⟨F, μ, M, ρ, v, M', S, e1, k⟩ => ?_
  obtain ⟨z, M1, e2, e1⟩ := bnd_inv e1
  cases z with
  | ref i =>
    obtain ⟨xs, M2, e3, e4⟩ := bnd_inv e1
    refine ⟨F, μ, M, ρ, _, M1, S, e2, fun F1 μ1 H1 y S1 s1 p1 r1 => ?_⟩
    cases hmi : M1[i]? with
    | none => simp [hmi] at e4
    | some mo =>
      cases mo with
      | ins c' fs =>
        simp only [hmi] at e4
        split at e4
        · rename_i hh
          obtain ⟨hc', hl⟩ := hh
          subst hc'
          obtain ⟨q, rfl, hq⟩ := r1.inv_ref
          obtain ⟨ob, hob, hr'⟩ := S1.mem i q _ hq hmi
          cases ob <;> first
            | exact False.elim hr'
            | skip
          rename_i C' dx gs
          obtain ⟨h1, h2, h3⟩ := hr'
          rw [hC] at h1
          cases h1
          cases e3
          refine ⟨q, dx, gs, rfl, hob, look_none h2 (Option.isNone_iff_eq_none.mp hl), ?_⟩
          exact at_call (Eh := noE) S1 (.cons r1 .nil) e4 fun F3 μ3 H3 y S3 s3 p3 r3 => k F3 μ3 H3 y S3 (s1.trans s3) (p1.trans p3) r3
        · cases e4
      | _ => simp [hmi] at e4
  | _ => cases e1
/-- a new instance -/
theorem at_make {cn : Nat} (hC : L.cls cn = some C) {F1 : Hp} {μ1 : List Addr} {M1 M' : Mem} {ρ : Slots} {σ : L2.St} {H1 : Hp} {vs : List V} {xs : List PV} {v : PV} {ff : List PV → Mem → R PV} {Q : VK} {Eh : XK} (S1 : Stt L pm F1 μ1 M1 ρ σ H1) (r1 : RepVs L F1 μ1 vs xs)
    (e1 : bnd (ff (.ref M1.length :: xs) (M1 ++ [.ins cn []])) (fun v M2 => match v with
      | .non => some (PV.ref M1.length, M2)
      | _ => none) = some (v, M'))
    (kk : ∀ F' μ' H' x, Stt L pm F' μ' M' ρ σ H' → Sub F1 F' → μ1 <+: μ' → RepV L F' μ' x v → Q x H') :
    ∀ y dx, H1 y = none → H1 dx = none → dx ≠ y → spI L ff (.ref y :: vs) (upd (upd H1 dx (.own y)) y (.ins C dx [])) (fun v H2 => v = .non ∧ Q (.ref y) H2) Eh := by
  intro y dx hy hdx ne
  obtain ⟨w, M2, e2, e3⟩ := bnd_inv e1
  cases w with
  | non =>
    obtain ⟨rfl, rfl⟩ := sm e3
    have S2 := S1.grow hdx (HO.own y)
    have hy2 : (upd H1 dx (HO.own y)) y = none := by rw [upd_ne (Ne.symm ne)]; exact hy
    have S3 := S2.made (p := y) hy2 (o := .ins C dx []) (m := .ins cn []) ⟨hC, rfl, .nil⟩
    have hp : (μ1 ++ [y])[M1.length]? = some y := by rw [← S1.len]; simp
    refine at_call S3 (.cons (.ref hp) (r1.mono (Sub.refl _) (List.prefix_append _ _))) e2 fun F' μ' H' z S' s' p' r' => ⟨r'.inv_non, ?_⟩
    exact kk F' μ' H' _ S' s' ((List.prefix_append _ _).trans p') (.ref (pre_get p' hp))
  | _ => cases e3
theorem tv_make {cn : Nat} (hC : L.cls cn = some C) (M : Mk X.K C f) (F : FnG X.prog X.w X.K X.mg X.base k f fd ps (spI L (cf n))) (hr : RoomG (k + 1) X.A) (hg : Gl X x) (hm : X.mg x = some (.ref C)) (hb : Binds X.K fd ps [])
    (ha : PA X (e :: es) (tl L pm (evL cf a))) (hdb : (x == ("__debug__" : Str)) = false) (he : starEach (e :: es) X.env = (false, eval e X.env) :: starEach es X.env) (hpl : (backTo pos (starEach es X.env)).any (·.1) = false) :
    PE X (.Call (.Name x p) (e :: es) [] pos) (tv L pm (evE cf (.make cn n a))) := by
  refine (gg_make M F hr hg hm hb  ha hdb he hpl).imp fun σ H Q ⟨F, μ, M, ρ, v, M', S, e1, k⟩ => ?_
  obtain ⟨xs, M1, e2, e1⟩ := bnd_inv e1
  refine ⟨F, μ, M, ρ, xs, M1, S, e2, fun F1 μ1 H1 vs S1 s1 p1 r1 => ?_⟩
  simp only [List.append_nil]
  exact at_make (Eh := noE) hC S1 r1 e1 fun F2 μ2 H2 y S2 s2 p2 r2 => k F2 μ2 H2 y S2 (s1.trans s2) (p1.trans p2) r2
theorem tv_make0 {cn : Nat} (hC : L.cls cn = some C) (M : Mk X.K C f) (F : FnG X.prog X.w X.K X.mg X.base k f fd ps (spI L (cf n))) (hr : RoomG (k + 1) X.A) (hg : Gl X x) (hm : X.mg x = some (.ref C)) (hb : Binds X.K fd ps [])
    (hdb : (x == ("__debug__" : Str)) = false) : PE X (.Call (.Name x p) [] [] pos) (tv L pm (evE cf (.make cn n .nil))) := by
  refine (gg_make0 M F hr hg hm hb  hdb).imp fun σ H Q ⟨F, μ, M, ρ, v, M', S, e1, k⟩ => ?_
  exact at_make (Eh := noE) hC S .nil e1 k
end
end Ev
end
section -- SoundB
/-! SoundB: a call that only looks at lists of one's own. -/
namespace Ev
open PySem PySem.Spec PyProof.Rows L2
def IsOwnA (ρ : Slots) (σ : L2.St) (a : Addr) : Prop := ∃ (i : Nat) (s : Slot), ρ[i]? = some s ∧ s.isOwn = true ∧ σ[i]? = some (some (V.ref a))
open Classical in
noncomputable def lend (ρ : Slots) (σ : L2.St) (H F : Hp) : Hp := fun a => if IsOwnA ρ σ a then H a else F a
open Classical in
noncomputable def back (ρ : Slots) (σ : L2.St) (F : Hp) : Hp := fun a => if IsOwnA ρ σ a then none else F a
theorem own_obj {L : Lk} {pm : Pm} {F : Hp} {μ : List Addr} {M : Mem} {ρ : Slots} {σ : L2.St} {H : Hp} (S : Stt L pm F μ M ρ σ H) {a : Addr} (h : IsOwnA ρ σ a) : F a = none ∧ a ∉ μ ∧ ((∃ vs, H a = some (.lst vs)) ∨ ∃ kvs, H a = some (.dK kvs)) := by
  obtain ⟨i, s, h1, h2, h3⟩ := h
  have q := S.slot i s h1
  cases s with
  | non => cases h2
  | val v => cases h2
  | own xs =>
    obtain ⟨b, vs, e, hb, _, f, m⟩ := q
    rw [h3] at e
    cases e
    exact ⟨f, m, .inl ⟨vs, hb⟩⟩
  | ownD ks vs =>
    obtain ⟨b, kvs, e, hb, _, _, f, m⟩ := q
    rw [h3] at e
    cases e
    exact ⟨f, m, .inr ⟨kvs, hb⟩⟩
section
variable {L : Lk} {F G : Hp} {μ : List Addr}
mutual
theorem RepV.nol (hG : ∀ a o, F a = some o → (∀ vs, o ≠ .lst vs) → (∀ kvs, o ≠ .dK kvs) → G a = some o) : ∀ {n : Nat} {v : V} {x : PV}, RepV L F μ v x → noLst n x = true → RepV L G μ v x
  | _, _, _, .non, _ => .non
  | _, _, _, .bl _, _ => .bl _
  | _, _, _, .int _, _ => .int _
  | _, _, _, .str _, _ => .str _
  | 0, _, _, .tup _ _, h => by cases h
  | n + 1, _, _, .tup h1 r, h => .tup (h1.imp (fun z => z.elim (fun z => .inl (hG _ _ z (fun _ q => by cases q) (fun _ q => by cases q))) fun ⟨o, z⟩ => .inr ⟨o, hG _ _ z (fun _ q => by cases q) (fun _ q => by cases q)⟩) id) (RepVs.nol hG (n := n) r fun x hx => List.all_eq_true.mp h x hx)
  | 0, _, _, .scr _ _, h => by cases h
  | n + 1, _, _, .scr h1 r, h => .scr (h1.imp (fun ⟨o, z⟩ => ⟨o, hG _ _ z (fun _ q => by cases q) (fun _ q => by cases q)⟩) id) (RepVs.nol hG (n := n) r fun x hx => List.all_eq_true.mp h x hx)
  | n, _, _, .lst _ _, h => by cases n <;> cases h
  | n, _, _, .dct _ _ _, h => by cases n <;> cases h
  | n, _, _, .ref h1, h => .ref h1
theorem RepVs.nol (hG : ∀ a o, F a = some o → (∀ vs, o ≠ .lst vs) → (∀ kvs, o ≠ .dK kvs) → G a = some o) : ∀ {n : Nat} {v : List V} {x : List PV}, RepVs L F μ v x → (∀ y ∈ x, noLst n y = true) → RepVs L G μ v x
  | _, _, _, .nil, _ => .nil
  | _, _, _, .cons r rr, h => .cons (RepV.nol hG r (h _ List.mem_cons_self)) (RepVs.nol hG rr fun y hy => h y (List.mem_cons_of_mem _ hy))
end
end
/-- lists of one's own are lent -/
theorem Stt.lend {L : Lk} {pm : Pm} {F : Hp} {μ : List Addr} {M : Mem} {ρ : Slots} {σ : L2.St} {H : Hp} (S : Stt L pm F μ M ρ σ H) : Sub F (Ev.lend ρ σ H F) ∧ Stt L ⟨H, Ev.lend ρ σ H F, μ⟩ (Ev.lend ρ σ H F) μ M [] [] H := by
  have sb : Sub F (Ev.lend ρ σ H F) := fun a o e => by
    unfold Ev.lend
    rw [if_neg (fun h => by rw [(own_obj S h).1] at e; cases e)]
    exact e
  refine ⟨sb, fun a o e => ?_, Sub.refl _, fun a o e => .inl ⟨o, e⟩, List.prefix_rfl, fun a h => .inl h, fun a o e _ => e, S.len, fun i a m h1 h2 => ?_, fun a ha => ?_, S.nod, rfl, fun i s h => by simp at h, fun i j s t a h => by simp at h⟩
  · unfold Ev.lend at e
    split at e
    · exact e
    · exact S.fz a o e
  · obtain ⟨o, h3, h4⟩ := S.mem i a m h1 h2
    exact ⟨o, h3, h4.mono sb List.prefix_rfl⟩
  · unfold Ev.lend
    rw [if_neg (fun h => (own_obj S h).2.1 ha)]
    exact S.muF a ha
theorem lend_rep {L : Lk} {pm : Pm} {F : Hp} {μ : List Addr} {M : Mem} {ρ : Slots} {σ : L2.St} {H : Hp} (S : Stt L pm F μ M ρ σ H) {x : V} {v : PV} (h : WRep L F μ ρ σ x v) : RepV L (Ev.lend ρ σ H F) μ x v := by
  have sb := S.lend.1
  cases h with
  | of r => exact r.mono sb List.prefix_rfl
  | own h1 h2 =>
    rename_i i a
    obtain ⟨b, vs, e, hb, hr, _⟩ := S.slot _ _ h1
    rw [h2] at e
    cases e
    refine .lst (vs := vs) ?_ (hr.mono sb List.prefix_rfl)
    unfold Ev.lend
    rw [if_pos ⟨_, _, h1, rfl, h2⟩]
    exact hb
  | ownD h1 h2 =>
    obtain ⟨b, kvs, e, hb, hk, hr, _⟩ := S.slot _ _ h1
    rw [h2] at e
    cases e
    refine .dct (kvs := kvs) ?_ hk (hr.mono sb List.prefix_rfl)
    unfold Ev.lend
    rw [if_pos ⟨_, _, h1, rfl, h2⟩]
    exact hb
theorem lend_reps {L : Lk} {pm : Pm} {F : Hp} {μ : List Addr} {M : Mem} {ρ : Slots} {σ : L2.St} {H : Hp} (S : Stt L pm F μ M ρ σ H) : ∀ {vs : List V} {xs : List PV}, WReps L F μ ρ σ vs xs → RepVs L (Ev.lend ρ σ H F) μ vs xs
  | _, _, .nil => .nil
  | _, _, .cons h r => .cons (lend_rep S h) (lend_reps S r)
/-- .. and come back -/
theorem Stt.back {L : Lk} {pm : Pm} {F F2 : Hp} {μ μ2 : List Addr} {M : Mem} {ρ : Slots} {σ : L2.St} {H H2 : Hp} (S : Stt L pm F μ M ρ σ H) (S2 : Stt L ⟨H, Ev.lend ρ σ H F, μ⟩ F2 μ2 M [] [] H2) (hM : M.all moNoLst = true) {x : V} {v : PV} (r : RepV L F2 μ2 x v) (hv : noLst 60 v = true) :
    Stt L pm (Ev.back ρ σ F2) μ M ρ σ H2 ∧ Sub F (Ev.back ρ σ F2) ∧ RepV L (Ev.back ρ σ F2) μ x v := by
  have em : μ2 = μ := by
    obtain ⟨t, ht⟩ := (show μ <+: μ2 from S2.m0)
    have h1 := S.len
    have h2 := S2.len
    rw [← ht, List.length_append] at h2
    have : t = [] := List.length_eq_zero_iff.mp (by omega)
    rw [← ht, this, List.append_nil]
  subst em
  have own2 : ∀ {a : Addr}, IsOwnA ρ σ a → (∃ vs, F2 a = some (.lst vs)) ∨ ∃ kvs, F2 a = some (.dK kvs) := fun {a} h => by
    have q := (own_obj S h).2.2
    have l : Ev.lend ρ σ H F a = H a := by
      unfold Ev.lend
      rw [if_pos h]
    rcases q with ⟨vs, q⟩ | ⟨kvs, q⟩
    · exact .inl ⟨vs, S2.f0 a _ (l.trans q)⟩
    · exact .inr ⟨kvs, S2.f0 a _ (l.trans q)⟩
  have hG : ∀ a o, F2 a = some o → (∀ vs, o ≠ .lst vs) → (∀ kvs, o ≠ .dK kvs) → Ev.back ρ σ F2 a = some o := fun a o e n1 n2 => by
    unfold Ev.back
    rw [if_neg]
    · exact e
    · intro h
      rcases own2 h with ⟨vs, q⟩ | ⟨kvs, q⟩ <;> rw [e] at q <;> cases q
      · exact n1 _ rfl
      · exact n2 _ rfl
  have sb : Sub F (Ev.back ρ σ F2) := fun a o e => by
    have hn : ¬ IsOwnA ρ σ a := fun h => by
      rw [(own_obj S h).1] at e
      cases e
    unfold Ev.back
    rw [if_neg hn]
    exact S2.f0 a o (S.lend.1 a o e)
  refine ⟨⟨fun a o e => ?_, S.f0.trans sb, fun a o e => ?_, S.m0, S.mnew, fun a o h m => ?_, S.len, fun i a m h1 h2 => ?_, fun a ha => ?_, S.nod, S.lenS, fun i s h => ?_, S.sep⟩, sb, RepV.nol hG r hv⟩
  · unfold Ev.back at e
    split at e
    · cases e
    · exact S2.fz a o e
  · unfold Ev.back at e
    split at e
    · cases e
    · rename_i hn
      rcases S2.fnew a o e with ⟨u, z⟩ | z
      · have z : Ev.lend ρ σ H F a = some u := z
        unfold Ev.lend at z
        rw [if_neg hn] at z
        exact S.fnew a u z
      · exact .inr (S.new z).1
  · have h1 := S.keep a o h m
    by_cases hm : a ∈ μ2
    · rcases S.mnew a hm with z | z
      · exact absurd z m
      · rw [h] at z
        cases z
    · exact S2.keep a o h1 hm
  · obtain ⟨o, h3, h4⟩ := S2.mem i a m h1 h2
    refine ⟨o, h3, ?_⟩
    have hm := List.all_eq_true.mp hM m (List.mem_of_getElem? h2)
    cases o <;> cases m <;> first
      | exact False.elim h4
      | exact RepVs.nol hG h4 (fun y hy => List.all_eq_true.mp hm y hy)
      | exact ⟨h4.1, RepVs.nol hG h4.2 (fun y hy => List.all_eq_true.mp hm y hy)⟩
      | (refine ⟨h4.1, h4.2.1, RepVs.nol hG (n := 60) h4.2.2 (fun y hy => ?_)⟩
         obtain ⟨p, hp, rfl⟩ := List.mem_map.mp hy
         exact List.all_eq_true.mp hm p hp)
  · unfold Ev.back
    split
    · rfl
    · exact S2.muF a ha
  · have q := S.slot i s h
    have go : ∀ {b : Addr}, s.isOwn = true → σ[i]? = some (some (V.ref b)) → Ev.back ρ σ F2 b = none := fun {b} hs hb => by
      unfold Ev.back
      rw [if_pos ⟨i, s, h, hs, hb⟩]
    cases s with
    | non => trivial
    | val w =>
      obtain ⟨y, e1, e2⟩ := q
      exact ⟨y, e1, e2.mono sb List.prefix_rfl⟩
    | own xs =>
      obtain ⟨b, vs, e1, e2, e3, e4, e5⟩ := q
      exact ⟨b, vs, e1, S2.keep b _ e2 e5, e3.mono sb List.prefix_rfl, go rfl e1, e5⟩
    | ownD ks vs =>
      obtain ⟨b, kvs, e1, e2, e3, e4, e5, e6⟩ := q
      exact ⟨b, kvs, e1, S2.keep b _ e2 e6, e3, e4.mono sb List.prefix_rfl, go rfl e1, e6⟩
section
variable {X : Cx} {L : Lk} {cf : CallF} {pm : Pm} {a : E} {k n : Nat} {f : Addr} {fd : FuncData} {ps : List Str} {x : Str} {p pos : Pos} {e : Expr} {es : List Expr}
/-- a call that only looks at lists of one's own -/
theorem tv_callB (F : FnG X.prog X.w X.K X.mg X.base k f fd ps (spI L (cf n))) (hr : RoomG k X.A) (hg : Gl X x) (hm : X.mg x = some (.ref f)) (hk : PySem.W.keepIn X.K (.ref f) = true) (hb : Binds X.K fd ps [])
    (ha : PA X (e :: es) (tlb L pm (evLB cf a))) (hdb : (x == ("__debug__" : Str)) = false) (he : starEach (e :: es) X.env = (false, eval e X.env) :: starEach es X.env) (hpl : (backTo pos (starEach es X.env)).any (·.1) = false) :
    PE X (.Call (.Name x p) (e :: es) [] pos) (tv L pm (evE cf (.callB n a))) := by
  refine (gg_call F hr hg hm hk hb  ha hdb he hpl).imp fun σ H Q ⟨F, μ, M, ρ, v, M', S, e1, k⟩ => ?_
  obtain ⟨xs, M1, e2, e1⟩ := bnd_inv e1
  obtain ⟨w, M2, e3, e1⟩ := bnd_inv e1
  split at e1
  · rename_i hh
    obtain ⟨h1, h2, h3⟩ := hh
    obtain ⟨rfl, rfl⟩ := sm e1
    subst h3
    refine ⟨F, μ, M, ρ, xs, _, S, e2, fun F1 μ1 H1 vs S1 s1 p1 r1 => ?_⟩
    simp only [List.append_nil]
    refine ⟨_, μ1, _, xs, w, _, S1.lend.2, lend_reps S1 r1, e3, fun F2 μ2 H2 y S2 r2 => ?_⟩
    obtain ⟨S3, sb, r3⟩ := S1.back S2 h2 r2 h1
    exact k _ μ1 H2 y S3 (s1.trans sb) p1 r3
  · cases e1
end
end Ev
end
section -- SoundD
/-! SoundD: new lists and dicts of the store. -/
namespace Ev
open PySem PySem.Spec PyProof.Rows L2
/-- a loose object becomes a thing of the store -/
theorem Stt.adopt {L : Lk} {pm : Pm} {F : Hp} {μ : List Addr} {M : Mem} {ρ : Slots} {σ : L2.St} {H : Hp} (S : Stt L pm F μ M ρ σ H) {p : Addr} {o : HO} {m : MO} (hp : H p = some o) (l : Loose pm F μ ρ σ p) (h : MOR L F (μ ++ [p]) o m) :
    Stt L pm F (μ ++ [p]) (M ++ [m]) ρ σ H := by
  obtain ⟨l1, l2, l3, l4⟩ := l
  have px : μ <+: μ ++ [p] := List.prefix_append _ _
  refine ⟨S.fz, S.f0, S.fnew, S.m0.trans px, fun a ha => ?_, S.keep, by simp [S.len], fun i a m' h1 h2 => ?_, fun a ha => ?_, ?_, S.lenS, fun i s h => ?_, S.sep⟩
  · rcases List.mem_append.mp ha with z | z
    · exact S.mnew a z
    · rw [List.mem_singleton.mp z]
      exact .inr l3
  · by_cases hi : i < μ.length
    · rw [List.getElem?_append_left hi] at h1
      rw [List.getElem?_append_left (by rw [← S.len]; exact hi)] at h2
      obtain ⟨u, h3, h4⟩ := S.mem i a m' h1 h2
      exact ⟨u, h3, h4.mono (Sub.refl _) px⟩
    · have hlt := (List.getElem?_eq_some_iff.mp h1).1
      simp at hlt
      have ei : i = μ.length := by omega
      subst ei
      simp at h1
      rw [S.len] at h2
      simp at h2
      subst h1 h2
      exact ⟨o, hp, h⟩
  · rcases List.mem_append.mp ha with z | z
    · exact S.muF a z
    · rw [List.mem_singleton.mp z]
      exact l1
  · refine List.nodup_append.mpr ⟨S.nod, by simp, fun a ha b hb => ?_⟩
    rw [List.mem_singleton.mp hb]
    exact fun e => l2 (e ▸ ha)
  · have q := S.slot i s h
    have go : ∀ {b : Addr}, s.isOwn = true → σ[i]? = some (some (V.ref b)) → b ∉ μ → b ∉ μ ++ [p] := fun {b} hs hb hn hm => by
      rcases List.mem_append.mp hm with z | z
      · exact hn z
      · rw [List.mem_singleton.mp z] at hb
        exact l4 i s h hs hb
    cases s with
    | non => trivial
    | val v =>
      obtain ⟨y, e, r⟩ := q
      exact ⟨y, e, r.mono (Sub.refl _) px⟩
    | own xs =>
      obtain ⟨a, vs, e, ha, r, f, m⟩ := q
      exact ⟨a, vs, e, ha, r.mono (Sub.refl _) px, f, go rfl e m⟩
    | ownD ks vs =>
      obtain ⟨a, kvs, e, ha, ek, r, f, m⟩ := q
      exact ⟨a, kvs, e, ha, ek, r.mono (Sub.refl _) px, f, go rfl e m⟩
section
variable {X : Cx} {L : Lk} {cf : CallF} {pm : Pm} {a : E} {e : Expr} {pos : Pos}
theorem tv_box (h : PE X e (tf L pm (evE cf a))) : PE X e (tv L pm (evE cf (.box a))) := h.imp fun σ H Q ⟨F, μ, M, ρ, v, M', S, e1, k⟩ => by
  have e1 : (if fresh a = true then bnd (evE cf a ρ M) fun v M1 => (match v with
      | .lst xs => some (PV.ref M1.length, M1 ++ [.lst xs])
      | _ => none) else none) = some (v, M') := e1
  split at e1
  · obtain ⟨w, M1, e2, e3⟩ := bnd_inv e1
    cases w with
    | lst xs =>
      obtain ⟨rfl, rfl⟩ := sm e3
      refine ⟨F, μ, M, ρ, xs, M1, S, e2, fun F1 μ1 H1 p vs S1 s1 p1 r1 hp lo => ?_⟩
      have S2 := S1.adopt hp lo (m := .lst xs) (RepVs.mono (Sub.refl _) (List.prefix_append _ _) r1)
      refine k F1 _ H1 _ S2 s1 (p1.trans (List.prefix_append _ _)) (.ref ?_)
      rw [← S1.len]
      simp
    | _ => cases e3
  · cases e1
/-- the pairs of a display -/
def trsOf (L : Lk) (cf : CallF) : List Str → E → List (TE × TE)
  | [], _ => []
  | k :: ks, .cons a b => (tC (.str k), xv L (evE cf a)) :: trsOf L cf ks b
  | _ :: _, _ => []
theorem at_pairs {pm : Pm} {ρ : Slots} {σ : L2.St} : ∀ (ks : List Str) (es : E) {F : Hp} {μ : List Addr} {M M' : Mem} {H : Hp} {xs : List PV} {Q : List (V × V) → Hp → Prop}, Stt L pm F μ M ρ σ H → evL cf es ρ M = some (xs, M') → xs.length = ks.length →
    (∀ F' μ' H' vs, Stt L pm F' μ' M' ρ σ H' → Sub F F' → μ <+: μ' → RepVs L F' μ' vs xs → Q ((ks.map V.str).zip vs) H') → tPairs (trsOf L cf ks es) σ H Q := by
  intro ks
  induction ks with
  | nil =>
    intro es F μ M M' H xs Q S e hl k
    obtain rfl := List.length_eq_zero_iff.mp hl
    have hM : M' = M := by
      cases es with
      | nil => exact (sm (a := PV.lst []) (b := PV.lst []) (by cases e; rfl)).2
      | cons a b =>
        obtain ⟨x, M1, e2, e3⟩ := bnd_inv e
        obtain ⟨ys, M2, e4, e5⟩ := bnd_inv e3
        cases e5
      | _ => cases e
    subst hM
    exact k F μ H [] S (Sub.refl _) List.prefix_rfl .nil
  | cons y ks ih =>
    intro es F μ M M' H xs Q S e hl k
    cases es with
    | cons a b =>
      obtain ⟨x, M1, e2, e3⟩ := bnd_inv e
      obtain ⟨ys, M2, e4, e5⟩ := bnd_inv e3
      cases e5
      refine (show tPairs ((tC (.str y), xv L (evE cf a)) :: trsOf L cf ks b) σ H Q from ?_)
      exact ⟨pm, F, μ, M, ρ, x, M1, S, e2, fun F1 μ1 H1 x' S1 s1 p1 r1 => ih b S1 e4 (by simpa using hl) fun F2 μ2 H2 vs S2 s2 p2 r2 => k F2 μ2 H2 (x' :: vs) S2 (s1.trans s2) (p1.trans p2) (.cons (r1.mono s2 p2) r2)⟩
    | nil =>
      cases e
      simp at hl
    | _ => cases e
theorem merge_new : ∀ (ks : List Str) (vs : List V) (acc : List (Key × V)), ks.Nodup → vs.length = ks.length → (∀ k ∈ ks, ∀ q ∈ acc, q.1 ≠ Sum.inr k) → mergeK acc ((ks.map Sum.inr).zip vs) = acc ++ (ks.map Sum.inr).zip vs
  | [], vs, acc, _, _, _ => by simp [mergeK]
  | k :: ks, [], acc, _, h, _ => by simp at h
  | k :: ks, v :: vs, acc, nd, h, na => by
    have n2 := List.nodup_cons.mp nd
    show mergeK (putK acc (Sum.inr k) v) ((ks.map Sum.inr).zip vs) = _
    have e : putK acc (Sum.inr k) v = acc ++ [(Sum.inr k, v)] := by
      unfold putK
      rw [if_neg]
      intro z
      obtain ⟨q, hq, h2⟩ := List.any_eq_true.mp z
      exact na k List.mem_cons_self q hq (of_decide_eq_true h2)
    rw [e, merge_new ks vs _ n2.2 (by simpa using h) fun k' hk' q hq => ?_]
    · simp
    · rcases List.mem_append.mp hq with z | z
      · exact na k' (List.mem_cons_of_mem _ hk') q z
      · rw [List.mem_singleton.mp z]
        intro w
        have w2 : k = k' := by injection w
        exact n2.1 (w2 ▸ hk')
theorem tv_boxD {ks : List Str} {keys : List (Option Expr)} {values : List Expr} (h : PPs X pos keys values (trsOf L cf ks a)) (hall : keys.all (·.isSome) = true) (hl : keys.length = values.length) (h0 : keys ≠ []) (h15 : keys.length ≤ 15) :
    PE X (.Dict keys values pos) (tv L pm (evE cf (.boxD ks a))) := (pe_disp h hall hl h0 h15).imp fun σ H Q ⟨F, μ, M, ρ, v, M', S, e1, k⟩ => by
  have e1 : (if ks.Nodup ∧ ks.length ≤ 15 then bnd (evL cf a ρ M) fun xs M1 => if xs.length = ks.length then some (PV.ref M1.length, M1 ++ [.dct (ks.map .str) xs]) else none else none) = some (v, M') := e1
  split at e1
  · rename_i hks
    obtain ⟨xs, M1, e2, e3⟩ := bnd_inv e1
    split at e3
    · rename_i hx
      obtain ⟨rfl, rfl⟩ := sm e3
      intro p hp
      obtain ⟨S1, lo⟩ := S.loose hp (HO.dK [])
      refine at_pairs ks a S1.nest e2 hx fun F2 μ2 H2 vs S2 s2 p2 r2 => ?_
      obtain ⟨lo2, hp2⟩ := lo.stays upd_same S2
      have hv : vs.length = ks.length := r2.length.trans hx
      refine ⟨hp2, (ks.map Sum.inr).zip vs, ?_, ?_, ?_⟩
      · have z : ∀ (ks : List Str) (vs : List V), (ks.map V.str).zip vs = ((ks.map (Sum.inr : Str → Key)).zip vs).map fun kv => (kV kv.1, kv.2) := by
          intro ks
          induction ks with
          | nil => intro vs; rfl
          | cons k ks ih =>
            intro vs
            cases vs with
            | nil => rfl
            | cons v vs =>
              show (V.str k, v) :: (ks.map V.str).zip vs = _
              rw [ih vs] <;> rfl
        exact z ks vs
      · rw [List.length_zip, List.length_map, hv, Nat.min_self]
        exact hks.2
      · rw [merge_new ks vs [] hks.1 hv (fun _ _ q hq => by cases hq), List.nil_append]
        have S3 := (S1.unnest S2).looseSet lo2 (.dK ((ks.map Sum.inr).zip vs))
        have z1 : ∀ (ks : List Str) (vs : List V), vs.length = ks.length → ks.map PV.str = ((ks.map (Sum.inr : Str → Key)).zip vs).map (fun p => kP p.1) ∧ ((ks.map (Sum.inr : Str → Key)).zip vs).map (·.2) = vs := by
          intro ks
          induction ks with
          | nil =>
            intro vs h
            obtain rfl := List.length_eq_zero_iff.mp h
            exact ⟨rfl, rfl⟩
          | cons k ks ih =>
            intro vs h
            cases vs with
            | nil => simp at h
            | cons v vs =>
              obtain ⟨q1, q2⟩ := ih vs (by simpa using h)
              exact ⟨by rw [List.map_cons, q1]; rfl, by rw [List.map_cons, List.zip_cons_cons, List.map_cons, q2]⟩
        obtain ⟨q1, q2⟩ := z1 ks vs hv
        have S4 := S3.adopt (m := .dct (ks.map .str) xs) upd_same lo2 ⟨q1, by rw [q2]; exact RepVs.mono (Sub.refl _) (List.prefix_append _ _) r2⟩
        refine k F2 _ _ _ S4 s2 (p2.trans (List.prefix_append _ _)) (.ref ?_)
        rw [← S3.len]
        simp
    · cases e3
  · cases e1
end
end Ev
end
section -- Sound15
/-! Sound15: the shape of a text. -/
namespace Ev
open PySem PySem.Spec PyProof.Rows L2
def noStar : Expr → Bool
  | .Starred _ _ => false
  | _ => true
theorem star_cons {e : Expr} {es : List Expr} {env : Env} (h : noStar e = true) : starEach (e :: es) env = (false, eval e env) :: starEach es env := by
  cases e <;> first
    | rfl
    | cases h
theorem star_any {pos : Pos} {env : Env} : ∀ {es : List Expr}, es.all noStar = true → (backTo pos (starEach es env)).any (·.1) = false
  | [], _ => rfl
  | e :: es, h => by
    simp only [List.all_cons, Bool.and_eq_true] at h
    rw [star_cons h.1]
    unfold backTo
    rw [List.map_cons, List.any_cons]
    have := star_any (pos := pos) (env := env) h.2
    unfold backTo at this
    rw [this] <;> rfl
theorem star_all {pos : Pos} {env : Env} : ∀ {es : List Expr}, es.all noStar = true → (backTo pos (starEach es env)).all (fun p => !p.1) = true
  | [], _ => rfl
  | e :: es, h => by
    simp only [List.all_cons, Bool.and_eq_true] at h
    rw [star_cons h.1]
    unfold backTo
    rw [List.map_cons, List.all_cons]
    have := star_all (pos := pos) (env := env) h.2
    unfold backTo at this
    rw [this] <;> rfl
def noSlice : Expr → Bool
  | .Slice _ _ _ _ => false
  | _ => true
theorem plainIx {e : Expr} (h : noSlice e = true) : PlainIx e := by
  intro o i
  cases e <;> first
    | rfl
    | cases h
def plainTest : Expr → Bool
  | .UnaryOp _ _ _ => false
  | .BoolOp _ _ _ => false
  | .IfExp _ _ _ _ => false
  | .Compare _ _ _ _ => false
  | _ => true
theorem plain_test {e : Expr} {env : Env} (h : plainTest e = true) : ∀ whole, isTrue e env whole = (do let v ← whole; standAt e.pos; holding [v] (truthy v)) := by
  intro whole
  cases e <;> first
    | rfl
    | cases h
def plainBase : Expr → Bool
  | .Call (.Name _ _) [] [] _ => false
  | _ => true
theorem plain_base {e : Expr} {f : Str} {env : Env} (h : plainBase e = true) : attributeBase e f env (eval e env) = eval e env := by
  unfold attributeBase
  split
  · cases h
  · rfl
def noSet : Expr → Bool
  | .Set _ _ _ => false
  | _ => true
theorem no_set {e : Expr} {env : Env} {x : Value} (h : noSet e = true) : foldedSetIterable e env x = pure x := by
  unfold foldedSetIterable
  split
  · cases h
  · rfl
def noComp : Expr → Bool
  | .ListComp _ _ _ _ => false
  | .SetComp _ _ _ _ => false
  | .DictComp _ _ _ _ _ => false
  | _ => true
theorem no_swap {e : Expr} {t : Option Expr} {n : Nat} {env : Env} (h : noComp e = true) : swapsWith e t n env = pure false := by
  unfold swapsWith
  cases e <;> first
    | rfl
    | cases h
theorem meth_tree {o : Expr} {m : Str} {apos pos : Pos} {args : List Expr} {env : Env} (hb : plainBase o = true) (hs : args.all noStar = true) (hl : args.length < 30) (hp : (apos.endLine == pos.line) = true) :
    eval (.Call (.Attribute o m apos) args [] pos) env = (do
      let ov ← eval o env
      standAt apos.atName
      let (f, first) ← holding [ov] (getMethod ov m (do return (← importBound o env).getD true))
      callWith pos f first (backTo pos (starEach args env)) (backToKw pos (keywordEach [] env))) := by
  rw [arm_eval_Call, plain_base hb]
  have hf : methodCallForm (args.length + ([] : List Keyword).length) (backTo pos (starEach args env)) (backToKw pos (keywordEach [] env)) = true := by
    unfold methodCallForm
    rw [star_all hs]
    simp [backToKw, keywordEach, hl]
  unfold methodCall calleeOf methodCallPos
  rw [hf, hp]
  rfl
theorem assign_len {env : Env} : ∀ (es : List Expr), (assignEach es env).length = es.length
  | [] => rfl
  | e :: es => by cases e <;> (unfold assignEach; rw [List.length_cons, List.length_cons, assign_len es])
theorem assign_cons {e : Expr} {es : List Expr} {env : Env} (h : noStar e = true) : assignEach (e :: es) env = (false, assign e env) :: assignEach es env := by
  cases e <;> first
    | rfl
    | cases h
theorem assign_star {env : Env} : ∀ {es : List Expr}, es.all noStar = true → (assignEach es env).findIdx? (·.1) = none
  | [], _ => rfl
  | e :: es, h => by
    simp only [List.all_cons, Bool.and_eq_true] at h
    rw [assign_cons h.1, List.findIdx?_cons]
    simp [assign_star h.2]
theorem pw_of {X : Cx} {op : BoolOp} {es : List Expr} {pos : Pos} {t : TT} (h : PT X (.BoolOp op es pos) t) : PW X (.BoolOp op es pos) t := ⟨fun wh pins s σ H Q I q => h.run pins s σ H Q I q⟩
theorem pt_of {X : Cx} {e : Expr} {t : TT} (h : PW X e t) : PT X e t := ⟨fun pins s σ H Q I q => h.run _ pins s σ H Q I q⟩
end Ev
end
section -- Sound16
/-! Sound16: does a term say what a text says. -/
namespace Ev
open PySem PySem.Spec PyProof.Rows L2
/-- what names stand for -/
structure Tb where
  fname : Nat → Option Str
  mth : Nat → Str → Nat → Bool
  mkc : Nat → Nat → Option Str
  fld : Str → Bool
  glo : Str → PV → Bool
def okd (x : Str) : Bool := !(x == ("__debug__" : Str)) && !(x == ("__classdict__" : Str))
def glb (sc : Scope) (x : Str) : Bool := decide (sc.names.lookup x = some .globalImplicit)
def ckNm (N : List Str) (sc : Scope) (i : Nat) (x : Str) : Bool := decide (N[i]? = some x) && (decide (sc.names.lookup x = some .local) || decide (sc.names.lookup x = some .cell) || decide (sc.names.lookup x = some .free)) && okd x
def cstOk : PV → PySem.Const → Bool
  | .non, .none => true
  | .bl b, .bool c => b == c
  | .int i, .int j => decide (i = j)
  | .str x, .str y => decide (x = y)
  | _, _ => false
def isNonC : E → Bool
  | .cst .non => true
  | _ => false
def isZeroC : E → Bool
  | .cst (.int i) => decide (i = 0)
  | _ => false
def isTrueC : E → Bool
  | .cst (.bl b) => b
  | _ => false
def isNil : E → Bool
  | .nil => true
  | _ => false
def bnm (sc : Scope) (x s : Str) : Bool := decide (x = s) && glb sc x
def biN (b : Bi) : Str := Str.ofString (biPy b).1
mutual
def ckG (N : List Str) (sc : Scope) : E → Expr → Bool
  | .var i, e => (match e with
    | .Name x _ => decide (N[i]? = some x) && (decide (sc.names.lookup x = some .local) || decide (sc.names.lookup x = some .cell))
    | _ => false)
  | .tup es, e => (match e with
    | .Tuple ts _ _ => ckGs N sc es ts
    | _ => false)
  | _, _ => false
def ckGs (N : List Str) (sc : Scope) : E → List Expr → Bool
  | .nil, es => es.isEmpty
  | .cons a b, es => (match es with
    | t :: ts => noStar t && ckG N sc a t && ckGs N sc b ts
    | [] => false)
  | _, _ => false
end
def ckK : List Str → List (Option Expr) → Bool
  | [], ds => ds.isEmpty
  | k :: ks, ds => (match ds with
    | some (.Constant (.str x) _ _) :: r => decide (k = x) && ckK ks r
    | _ => false)
def owN (N : List Str) (own : List Nat) : List (Str × Nat) := own.map fun i => ((N[i]?).getD "", i)
mutual
/-- m: as a test -/
def ck (T : Tb) (N : List Str) : E → Bool → Scope → Expr → Bool
  | .var i, m, sc, e => (match e with
    | .Name x _ => ckNm N sc i x
    | _ => false)
  | .cst v, m, sc, e => (match e with
    | .Constant c _ _ => cstOk v c
    | _ => false)
  | .glo x v, m, sc, e => (match e with
    | .Name y _ => decide (x = y) && glb sc y && T.glo x v && okd y
    | _ => false)
  | .bin op a b, m, sc, e => (match e with
    | .BinOp l o r _ => decide (o = opPy op) && ck T N a false sc l && ck T N b false sc r
    | _ => false)
  | .neg a, m, sc, e => (match e with
    | .UnaryOp .USub l _ => !m && ck T N a false sc l
    | _ => false)
  | .no a, m, sc, e => (match e with
    | .UnaryOp .Not l _ => ck T N a m sc l
    | _ => false)
  | .and a b, m, sc, e => (match e with
    | .BoolOp .And (x :: y :: rest) p => ck T N a m sc x && (match rest with
      | [] => ck T N b m sc y
      | _ :: _ => ck T N b m sc (.BoolOp .And (y :: rest) p))
    | _ => false)
  | .or a b, m, sc, e => (match e with
    | .BoolOp .Or (x :: y :: rest) p => ck T N a m sc x && (match rest with
      | [] => ck T N b m sc y
      | _ :: _ => ck T N b m sc (.BoolOp .Or (y :: rest) p))
    | _ => false)
  | .cmp op a b, m, sc, e => (match e with
    | .Compare l [o] [r] _ => decide (o = copPy op) && !(behindInMarks o r) && ck T N a false sc l && ck T N b false sc r
    | _ => false)
  | .cmp2 o1 o2 a b c, m, sc, e => (match e with
    | .Compare l [p1, p2] [r, t] _ => decide (p1 = copPy o1) && decide (p2 = copPy o2) && !(behindInMarks p2 t) && ck T N a false sc l && ck T N b false sc r && ck T N c false sc t
    | _ => false)
  | .ite c a b, m, sc, e => (match e with
    | .IfExp t l r _ => !m && ck T N c true sc t && ck T N a false sc l && ck T N b false sc r
    | _ => false)
  | .tup es, m, sc, e => (match e with
    | .Tuple ts _ _ => ckL T N es sc ts
    | _ => false)
  | .call f es, m, sc, e => (match e with
    | .Call (.Name x _) args [] _ => decide (T.fname f = some x) && glb sc x && okd x && (args.isEmpty == isNil es) && ckL T N es sc args
    | _ => false)
  | .callB f es, m, sc, e => (match e with
    | .Call (.Name x _) args [] _ => decide (T.fname f = some x) && glb sc x && okd x && !(args.isEmpty) && ckLB T N es sc args
    | _ => false)
  | .meth c n f o es, m, sc, e => (match e with
    | .Call (.Attribute l n' apos) args [] pos => decide (n = n') && T.mth c n f && plainBase l && decide (args.length < 30) && (apos.endLine == pos.line) && (args.isEmpty == isNil es) && ck T N o false sc l && ckL T N es sc args
    | _ => false)
  | .make c f es, m, sc, e => (match e with
    | .Call (.Name x _) args [] _ => decide (T.mkc c f = some x) && glb sc x && okd x && (args.isEmpty == isNil es) && ckL T N es sc args
    | _ => false)
  | .idx a b, m, sc, e => (match e with
    | .Subscript l r _ => noSlice r && ck T N a false sc l && ck T N b false sc r
    | _ => false)
  | .slc a lo hi, m, sc, e => (match e with
    | .Subscript l (.Slice x y none _) _ => ck T N a false sc l && (match x with
      | none => isNonC lo
      | some x => !(isNonC lo) && ck T N lo false sc x) && (match y with
      | none => isNonC hi
      | some y => !(isNonC hi) && ck T N hi false sc y)
    | _ => false)
  | .fld a f, m, sc, e => (match e with
    | .Attribute l f' _ => decide (f = f') && T.fld f && plainBase l && ck T N a false sc l
    | _ => false)
  | .bi b es, m, sc, e => (match e with
    | .Call (.Name x _) args [] _ => bnm sc x (biN b) && (match b with
      | .sorted => false
      | .listOf => decide (args.length = 1)
      | _ => true) && !(args.isEmpty) && ckLB T N es sc args
    | _ => false)
  | .isi a t, m, sc, e => (match e with
    | .Call (.Name x _) [l, .Name y _] [] _ => bnm sc x "isinstance" && bnm sc y (Str.ofString (tyPy t)) && noStar l && ck T N a false sc l
    | _ => false)
  | .disp es, m, sc, e => (match e with
    | .List ts _ => !m && ckL T N es sc ts
    | _ => false)
  | .comp elt it cond tg own, m, sc, e => (match e with
    | .ListComp e1 [⟨te, e2, ifs, 0⟩] scope _ => !m && blkC N sc scope (owN N own) && ((tgN tg).all fun j => own.contains j) && noSet e2 && ckI T N it sc te e2 && ckG N scope tg te && (match ifs with
      | [] => isTrueC cond
      | [c] => ck T N cond true (relS scope sc) c
      | _ => false) && ck T N elt false (relS scope sc) e1
    | _ => false)
  | .comp2 elt it it2 cond tg tg2 own, m, sc, e => (match e with
    | .ListComp e1 [⟨te, e2, [], 0⟩, ⟨te2, e3, ifs, 0⟩] scope _ => !m && blkC N sc scope (owN N own) && ((tgN tg).all fun j => own.contains j) && ((tgN tg2).all fun j => own.contains j) && noSet e2 && noSet e3 && ckI T N it sc te e2 && ckG N scope tg te && ckI T N it2 (relS scope sc) te2 e3 && ckG N scope tg2 te2 && (match ifs with
      | [] => isTrueC cond
      | [c] => ck T N cond true (relS scope sc) c
      | _ => false) && ck T N elt false (relS scope sc) e1
    | _ => false)
  | .rngl a b one tp, m, sc, e => (match e with
    | .Call (.Name x _) [.Call (.Name y _) args [] _] [] _ => !m && bnm sc x (if tp then "tuple" else "list") && bnm sc y "range" && (match args with
      | [e1] => one && isZeroC a && noStar e1 && ck T N b false sc e1
      | [e1, e2] => !one && noStar e1 && noStar e2 && ck T N a false sc e1 && ck T N b false sc e2
      | _ => false)
    | _ => false)
  | .dkeys _ _ _ _ _, _, _, _ => false
  | .box a, m, sc, e => !m && fresh a && ck T N a false sc e
  | .boxD ks es, m, sc, e => (match e with
    | .Dict dk dv _ => !m && ckK ks dk && ckL T N es sc dv && !(ks.isEmpty)
    | _ => false)
  | .nil, _, _, _ => false
  | .cons _ _, _, _, _ => false
  | .seq _, _, _, _ => false
  | .rng1 _, _, _, _ => false
  | .rng2 _ _, _, _, _ => false
  | .enum _, _, _, _ => false
  | .zip _ _, _, _, _ => false
def ckL (T : Tb) (N : List Str) : E → Scope → List Expr → Bool
  | .nil, sc, es => es.isEmpty
  | .cons a b, sc, es => (match es with
    | t :: ts => noStar t && ck T N a false sc t && ckL T N b sc ts
    | [] => false)
  | _, _, _ => false
def ckLB (T : Tb) (N : List Str) : E → Scope → List Expr → Bool
  | .nil, sc, es => es.isEmpty
  | .cons a b, sc, es => (match es with
    | t :: ts => noStar t && ck T N a false sc t && ckLB T N b sc ts
    | [] => false)
  | _, _, _ => false
def ckI (T : Tb) (N : List Str) : E → Scope → Expr → Expr → Bool
  | .seq a, sc, tg, e => ck T N a false sc e
  | .rng1 a, sc, tg, e => (match e with
    | .Call (.Name x _) [e1] [] _ => bnm sc x "range" && noStar e1 && ck T N a false sc e1
    | _ => false)
  | .rng2 a b, sc, tg, e => (match e with
    | .Call (.Name x _) [e1, e2] [] _ => bnm sc x "range" && noStar e1 && noStar e2 && ck T N a false sc e1 && ck T N b false sc e2
    | _ => false)
  | .enum a, sc, tg, e => (match tg with
    | .Tuple _ _ _ => (match e with
      | .Call (.Name x _) [e1] [] _ => bnm sc x "enumerate" && noStar e1 && ck T N a false sc e1
      | _ => false)
    | _ => false)
  | .zip a b, sc, tg, e => (match tg with
    | .Tuple _ _ _ => (match e with
      | .Call (.Name x _) [e1, e2] [] _ => bnm sc x "zip" && noStar e1 && noStar e2 && ck T N a false sc e1 && ck T N b false sc e2
      | _ => false)
    | _ => false)
  | _, _, _, _ => false
end
/-- where all of this happens -/
structure Wld where
  prog : Program
  w : World
  K : PySem.W.Frag
  mg : Str → Option Value
  base : Heap
structure Good (W : Wld) (L : Lk) (N : List Str) (k : Nat) (sc : Scope) (X : Cx) : Prop where
  eprog : X.prog = W.prog
  ew : X.w = W.w
  eK : X.K = W.K
  eL : X.K = L.K
  emg : X.mg = W.mg
  ebase : X.base = W.base
  calm : X.calm = true
  eN : X.N = N
  nd : N.Nodup
  esc : X.env.scope = sc
  kind : sc.kind = ScopeKind.function
  room : RoomG (k + 1) X.A
def bnames : List Str := ["len", "sum", "max", "min", "all", "any", "tuple", "list", "sorted", "int", "str", "repr", "isinstance", "bool", "dict", "range", "enumerate", "zip", "set"]
structure TabOk (W : Wld) (L : Lk) (cf : CallF) (T : Tb) (k : Nat) : Prop where
  fn : ∀ n x, T.fname n = some x → ∃ f fd ps, FnG W.prog W.w W.K W.mg W.base k f fd ps (spI L (cf n)) ∧ W.mg x = some (.ref f) ∧ PySem.W.keepIn W.K (.ref f) = true ∧ Binds W.K fd ps []
  mth : ∀ c m n, T.mth c m n = true → ∃ C f fd ps, L.cls c = some C ∧ Cls W.K C ∧ Meth W.K C m f ∧ FnG W.prog W.w W.K W.mg W.base k f fd ps (spI L (cf n)) ∧ Binds W.K fd ps []
  mkc : ∀ c n x, T.mkc c n = some x → ∃ C f fd ps, L.cls c = some C ∧ Mk W.K C f ∧ W.mg x = some (.ref C) ∧ FnG W.prog W.w W.K W.mg W.base k f fd ps (spI L (cf n)) ∧ Binds W.K fd ps []
  fld : ∀ f, T.fld f = true → ∀ c C, L.cls c = some C → Cls W.K C ∧ NoAttr W.K C f
  glo : ∀ x v, T.glo x v = true → ∃ y u, W.mg x = some u ∧ RelV y u ∧ ∀ F μ, RepV L F μ y v
  blt : ∀ x ∈ bnames, W.mg x = none
end Ev
end
section -- Sound17
/-! Sound17: a term that says what a text says: its readings (values). -/
namespace Ev
open PySem PySem.Spec PyProof.Rows L2
section
variable {W : Wld} {L : Lk} {cf : CallF} {T : Tb} {k : Nat} {N : List Str} {sc : Scope} {X : Cx}
theorem Good.gl (G : Good W L N k sc X) {x : Str} (h : glb sc x = true) : Gl X x := by
  unfold Gl Env.kindOf
  rw [G.esc]
  exact of_decide_eq_true h
theorem Good.un (G : Good W L N k sc X) : X.A.units + 65 < cLine := by
  have := G.room.un
  omega
theorem Good.un1 (G : Good W L N k sc X) : X.A.units + 1 < cLine := by
  have := G.room.un
  omega
theorem Good.nd' (G : Good W L N k sc X) : X.N.Nodup := by
  rw [G.eN]
  exact G.nd
theorem Good.fn (G : Good W L N k sc X) {f : Addr} {fd : FuncData} {ps : List Str} {sp : Sp} (F : FnG W.prog W.w W.K W.mg W.base k f fd ps sp) : FnG X.prog X.w X.K X.mg X.base k f fd ps sp := by
  rw [G.eprog, G.ew, G.eK, G.emg, G.ebase]
  exact F
theorem Good.blk (G : Good W L N k sc X) {scope : Scope} (hk : scope.kind = ScopeKind.function) (s : Shared) (H : Hp) (C : Addr) (cl : List (Str × Addr)) (fp : List Addr) : Good W L N k (relS scope sc) (X.blk s H scope (compEnvC scope cl C X.env) fp) :=
  ⟨G.eprog, G.ew, G.eK, G.eL, G.emg, G.ebase, G.calm, G.eN, G.nd, by rw [← G.esc] <;> rfl, hk, G.room⟩
theorem bnm_inv {x s : Str} (h : bnm sc x s = true) : x = s ∧ glb sc x = true := by
  unfold bnm at h
  simp only [Bool.and_eq_true, decide_eq_true_eq] at h
  exact h
theorem okd_inv {x : Str} (h : okd x = true) : (x == ("__debug__" : Str)) = false ∧ (x == ("__classdict__" : Str)) = false := by
  unfold okd at h
  simpa using h
theorem ckNm_inv (G : Good W L N k sc X) {i : Nat} {x : Str} {pos : Pos} (h : ckNm N sc i x = true) : PE X (.Name x pos) (tVar i) := by
  unfold ckNm at h
  simp only [Bool.and_eq_true, Bool.or_eq_true, decide_eq_true_eq] at h
  obtain ⟨⟨h1, h2⟩, h3⟩ := h
  obtain ⟨h4, h5⟩ := okd_inv h3
  refine pe_var (by rw [G.eN]; exact h1) ?_ h4 h5
  rw [G.esc]
  rcases h2 with (h2 | h2) | h2
  · exact .inl h2
  · exact .inr (.inl h2)
  · exact .inr (.inr h2)
theorem boot_all : ∀ b : Bi, bootBuiltins (biN b) = some (biPy b).2.1 ∧ biN b ∈ bnames ∧ biN b ≠ "__name__" ∧ (biN b == ("__debug__" : Str)) = false := by
  intro b
  cases b <;> exact ⟨by decide +kernel, by decide +kernel, by decide +kernel, by decide +kernel⟩
theorem boot_ty : ∀ t : Ty, bootBuiltins (Str.ofString (tyPy t)) = some (.type (tyPy t)) ∧ Str.ofString (tyPy t) ∈ bnames ∧ Str.ofString (tyPy t) ≠ "__name__" ∧ (Str.ofString (tyPy t) == ("__debug__" : Str)) = false := by
  intro b
  cases b <;> exact ⟨by decide +kernel, by decide +kernel, by decide +kernel, by decide +kernel⟩
theorem in_names : (("isinstance" : Str) ∈ bnames) ∧ (("range" : Str) ∈ bnames) ∧ (("enumerate" : Str) ∈ bnames) ∧ (("zip" : Str) ∈ bnames) ∧ (("list" : Str) ∈ bnames) ∧ (("tuple" : Str) ∈ bnames) := by decide +kernel
/-! ### targets -/
theorem ckGs_len : ∀ {a : E} {es : List Expr}, ckGs N sc a es = true → es.length = elen a ∧ es.all noStar = true := by
  intro a
  induction a with
  | nil =>
    intro es h
    cases es with
    | nil => exact ⟨rfl, rfl⟩
    | cons _ _ => cases h
  | cons a b _ ih =>
    intro es h
    cases es with
    | nil => cases h
    | cons e es =>
      unfold ckGs at h
      simp only [Bool.and_eq_true] at h
      obtain ⟨q1, q2⟩ := ih h.2
      exact ⟨by rw [List.length_cons, q1] <;> rfl, by rw [List.all_cons, h.1.1, q2] <;> rfl⟩
  | _ =>
    intro es h
    cases h
/-- where targets are stored -/
structure TgOk (L : Lk) (N : List Str) (sc0 : Scope) (X : Cx) : Prop where
  eN : X.N = N
  nd : X.N.Nodup
  eL : X.K = L.K
  calm : X.calm = true
  loc : ∀ x, sc0.names.lookup x = some .local → X.env.scope.names.lookup x = some .local
  cel : ∀ x, sc0.names.lookup x = some .cell → X.env.scope.names.lookup x = some .cell ∧ X.fn x = true
theorem TgOk.ofDef (G : Good W L N k sc X) (hf : ∀ x, X.fn x = true) : TgOk L N sc X :=
  ⟨G.eN, G.nd', G.eL, G.calm, fun x h => by rw [G.esc]; exact h, fun x h => ⟨by rw [G.esc]; exact h, hf x⟩⟩
theorem rel_keep {scope sc : Scope} {x : Str} {q : NameKind} (hq : q ≠ .free) : ∀ {l : List (Str × NameKind)}, l.lookup x = some q → (l.map fun (n, k) => if (k == .free && sc.kind == .function && sc.names.lookup n == some .cell) then (n, NameKind.cell) else (n, k)).lookup x = some q
  | [], h => by cases h
  | p :: l, h => by
    obtain ⟨n, k0⟩ := p
    rw [List.lookup_cons] at h
    rw [List.map_cons]
    cases e : x == n with
    | true =>
      rw [e] at h
      obtain rfl : k0 = q := Option.some.inj h
      have : (k0 == NameKind.free) = false := by cases k0 <;> first | rfl | exact absurd rfl hq
      dsimp only
      rw [if_neg (by rw [this]; simp), List.lookup_cons, e]
    | false =>
      rw [e] at h
      have ih := rel_keep (scope := scope) (sc := sc) hq h
      dsimp only
      by_cases hc : (k0 == NameKind.free && sc.kind == .function && sc.names.lookup n == some .cell) = true
      · rw [if_pos hc, List.lookup_cons, e]
        exact ih
      · rw [if_neg hc, List.lookup_cons, e]
        exact ih
theorem TgOk.blk (G : Good W L N k sc X) (scope : Scope) (s : Shared) (H : Hp) (C : Addr) (cl : List (Str × Addr)) (fp : List Addr) : TgOk L N scope (X.blk s H scope (compEnvC scope cl C X.env) fp) :=
  ⟨G.eN, G.nd', G.eL, G.calm, fun x h => rel_keep (scope := scope) (by decide) h, fun x h => ⟨rel_keep (scope := scope) (by decide) h, by show (scope.names.lookup x == some .cell) = true; rw [h]; rfl⟩⟩
theorem snd_g (G : TgOk L N sc X) : ∀ (a : E), (∀ e, ckG N sc a e = true → PG X e (tG L a)) ∧ (∀ es, ckGs N sc a es = true → PGs X es (tGs L a)) := by
  intro a
  induction a with
  | var i =>
    refine ⟨fun e h => ?_, fun es h => (by cases h)⟩
    unfold ckG at h
    split at h
    · simp only [Bool.and_eq_true, decide_eq_true_eq] at h
      rw [Bool.or_eq_true, decide_eq_true_eq, decide_eq_true_eq] at h
      rcases h.2 with q | q
      · exact pg_var G.nd (by rw [G.eN]; exact h.1) (.inl (G.loc _ q)) (.inr (G.loc _ q))
      · exact pg_var G.nd (by rw [G.eN]; exact h.1) (.inr (G.cel _ q).1) (.inl (G.cel _ q).2)
    · cases h
  | tup es ih =>
    refine ⟨fun e h => ?_, fun es h => (by cases h)⟩
    unfold ckG at h
    split at h
    · obtain ⟨q1, q2⟩ := ckGs_len h
      exact pg_tupT G.eL G.calm (ih.2 _ h) (by rw [assign_len]; exact q1) (assign_star q2)
    · cases h
  | nil =>
    refine ⟨fun e h => (by cases h), fun es h => ?_⟩
    cases es with
    | nil => exact pgs_nilT
    | cons _ _ => cases h
  | cons a b iha ihb =>
    refine ⟨fun e h => (by cases h), fun es h => ?_⟩
    cases es with
    | nil => cases h
    | cons t ts =>
      unfold ckGs at h
      simp only [Bool.and_eq_true] at h
      exact pgs_consT (iha.1 _ h.1.2) (ihb.2 _ h.2) (by rw [assign_cons h.1.1]; rfl)
  | _ => exact ⟨fun e h => (by cases h), fun es h => (by cases h)⟩
end
end Ev
end
section -- Sound18
/-! Sound18: a term that says what a text says: its readings. -/
namespace Ev
open PySem PySem.Spec PyProof.Rows L2
structure Snd (W : Wld) (L : Lk) (cf : CallF) (T : Tb) (k : Nat) (N : List Str) (a : E) : Prop where
  v : ∀ sc X, Good W L N k sc X → ∀ e, ck T N a false sc e = true → ∀ pm, PE X e (tv L pm (evE cf a))
  f : ∀ sc X, Good W L N k sc X → fresh a = true → ∀ e, ck T N a false sc e = true → ∀ pm, PE X e (tf L pm (evE cf a))
  t : ∀ sc X, Good W L N k sc X → ∀ e, ck T N a true sc e = true → ∀ pm, PT X e (tt L pm (evE cf a))
  l : ∀ sc X, Good W L N k sc X → ∀ es, ckL T N a sc es = true → ∀ pm, PA X es (tl L pm (evL cf a))
  lb : ∀ sc X, Good W L N k sc X → ∀ es, ckLB T N a sc es = true → ∀ pm, PA X es (tlb L pm (evLB cf a))
  i : ∀ sc X, Good W L N k sc X → ∀ tg e, ckI T N a sc tg e = true → ∀ pm, PI X tg e (ti L pm a (evI cf a))
section
variable {W : Wld} {L : Lk} {cf : CallF} {T : Tb} {k : Nat} {N : List Str} {sc : Scope} {X : Cx}
theorem tt_cmp2 {pm : Pm} {a b c : E} {l r t : Expr} {p : Pos} (hK : X.K = L.K) (hu : X.A.units + 65 < cLine) (o1 o2 : COp) (ha : PE X l (tv L pm (evE cf a))) (hb : PE X r (tv L pm (evE cf b))) (hc : PE X t (tv L pm (evE cf c)))
    (h1 : behindInMarks (copPy o2) t = false) : PT X (.Compare l [copPy o1, copPy o2] [r, t] p) (tt L pm (evE cf (.cmp2 o1 o2 a b c))) := by
  refine (pt_chain (op_cmp (pm := pm) hK hu o1) (op_cmp (pm := pm) hK hu o2) ha hb hc h1).imp fun σ H Q ⟨F, μ, M, ρ, v, M', S, e1, k⟩ => ?_
  obtain ⟨x, M1, e2, e1⟩ := bnd_inv e1
  obtain ⟨y, M2, e3, e1⟩ := bnd_inv e1
  obtain ⟨z, e4, e5⟩ := Option.bind_eq_some_iff.mp e1
  refine ⟨F, μ, M, ρ, x, M1, S, e2, fun F1 μ1 H1 x' S1 s1 p1 r1 => ⟨F1, μ1, M1, ρ, y, M2, S1, e3, fun F2 μ2 H2 y' S2 s2 p2 r2 => ?_⟩⟩
  refine ⟨F2, μ2, M2, ρ, σ, x, y, .bl z, S2, .of (r1.mono s2 p2), .of r2, by show Option.map PV.bl _ = _; rw [e4]; rfl, fun F3 H3 w S3 s3 r3 => ⟨z, r3.inv_bl, ?_⟩⟩
  cases z with
  | false =>
    obtain ⟨rfl, rfl⟩ := smb e5
    exact ⟨false, rfl, k F3 μ2 H3 S3 (s1.trans (s2.trans s3)) (p1.trans p2)⟩
  | true =>
    obtain ⟨w', M3, e6, e7⟩ := bnd_inv e5
    obtain ⟨z', e8, e9⟩ := Option.map_eq_some_iff.mp e7
    obtain ⟨rfl, rfl⟩ := smb (congrArg some e9)
    refine ⟨F3, μ2, M2, ρ, w', M3, S3, e6, fun F4 μ4 H4 w4 S4 s4 p4 r4 => ?_⟩
    exact ⟨F4, μ4, M3, ρ, σ, y, w', .bl z', S4, .of (r2.mono (s3.trans s4) p4), .of r4, by show Option.map PV.bl _ = _; rw [e8]; rfl, fun F5 H5 w5 S5 s5 r5 => ⟨z', r5.inv_bl, k F5 μ4 H5 S5 (s1.trans (s2.trans (s3.trans (s4.trans s5)))) (p1.trans (p2.trans p4))⟩⟩
/-- a term of which only values are asked -/
theorem Snd.ofV {a : E} (hv : ∀ sc X, Good W L N k sc X → ∀ e, ck T N a false sc e = true → ∀ pm, PE X e (tv L pm (evE cf a))) (ht : ∀ sc e, ck T N a true sc e = true → ck T N a false sc e = true ∧ plainTest e = true) (hf : fresh a = false)
    (hl : ∀ sc es, ckL T N a sc es = false) (hlb : ∀ sc es, ckLB T N a sc es = false) (hi : ∀ sc tg e, ckI T N a sc tg e = false) : Snd W L cf T k N a :=
  ⟨hv, fun _ _ _ h => absurd h (by rw [hf]; decide), fun sc X G e h pm => tt_of (hv sc X G e (ht sc e h).1 pm) (plain_test (ht sc e h).2), fun sc X _ es h => absurd h (by rw [hl]; decide), fun sc X _ es h => absurd h (by rw [hlb]; decide), fun sc X _ tg e h => absurd h (by rw [hi]; decide)⟩
/-- .. a new list -/
theorem Snd.ofF {a : E} (hv : ∀ sc X, Good W L N k sc X → ∀ e, ck T N a false sc e = true → ∀ pm, PE X e (tf L pm (evE cf a))) (hx : ∀ ρ M v M', evE cf a ρ M = some (v, M') → ∃ xs, v = .lst xs) (ht : ∀ sc e, ck T N a true sc e = false)
    (hl : ∀ sc es, ckL T N a sc es = false) (hlb : ∀ sc es, ckLB T N a sc es = false) (hi : ∀ sc tg e, ckI T N a sc tg e = false) : Snd W L cf T k N a :=
  ⟨fun sc X G e h pm => tv_f (hv sc X G e h pm) hx, fun sc X G _ e h pm => hv sc X G e h pm, fun sc X G e h pm => absurd h (by rw [ht]; decide), fun sc X _ es h => absurd h (by rw [hl]; decide), fun sc X _ es h => absurd h (by rw [hlb]; decide), fun sc X _ tg e h => absurd h (by rw [hi]; decide)⟩
theorem Snd.b {a : E} (S : Snd W L cf T k N a) (G : Good W L N k sc X) {e : Expr} (h : ck T N a false sc e = true) (pm : Pm) : PE X e (tb L pm a (evE cf a)) := by
  by_cases hv : ∃ i, a = .var i
  · obtain ⟨i, rfl⟩ := hv
    unfold ck at h
    split at h
    · exact tb_var (ckNm_inv G h)
    · cases h
  · exact tb_of e (S.v sc X G e h pm) fun i q => hv ⟨i, q⟩
theorem nonC {a : E} (h : isNonC a = true) : a = .cst .non := by
  cases a with
  | cst v => cases v <;> first
    | rfl
    | cases h
  | _ => cases h
theorem zeroC {a : E} (h : isZeroC a = true) : evE cf a = fun _ M => some (.int 0, M) := by
  cases a with
  | cst v => cases v with
    | int i =>
      unfold isZeroC at h
      obtain rfl := of_decide_eq_true h
      rfl
    | _ => cases h
  | _ => cases h
theorem trueC {a : E} (h : isTrueC a = true) : evE cf a = fun _ M => some (.bl true, M) := by
  cases a with
  | cst v => cases v with
    | bl i =>
      have h : i = true := h
      subst h
      rfl
    | _ => cases h
  | _ => cases h
theorem nonC_ne {a : E} (h : (!(isNonC a)) = true) : a ≠ .cst .non := fun q => by
  rw [q] at h
  cases h
theorem ckL_star : ∀ {a : E} {es : List Expr}, ckL T N a sc es = true → es.all noStar = true := by
  intro a
  induction a with
  | nil =>
    intro es h
    cases es with
    | nil => rfl
    | cons _ _ => cases h
  | cons a b _ ih =>
    intro es h
    cases es with
    | nil => rfl
    | cons e es =>
      unfold ckL at h
      simp only [Bool.and_eq_true] at h
      rw [List.all_cons, h.1.1, ih h.2] <;> rfl
  | _ =>
    intro es h
    cases h
theorem ckLB_star : ∀ {a : E} {es : List Expr}, ckLB T N a sc es = true → es.all noStar = true := by
  intro a
  induction a with
  | nil =>
    intro es h
    cases es with
    | nil => rfl
    | cons _ _ => cases h
  | cons a b _ ih =>
    intro es h
    cases es with
    | nil => rfl
    | cons e es =>
      unfold ckLB at h
      simp only [Bool.and_eq_true] at h
      rw [List.all_cons, h.1.1, ih h.2] <;> rfl
  | _ =>
    intro es h
    cases h
theorem all_cons {e : Expr} {es : List Expr} (h : (e :: es).all noStar = true) : noStar e = true ∧ es.all noStar = true := by
  simpa [List.all_cons] using h
theorem isNil_nil {a : E} (h : isNil a = true) : a = .nil := by
  cases a <;> first
    | rfl
    | cases h
theorem owN_snd (own : List Nat) : (owN N own).map (·.2) = own := by
  unfold owN
  rw [List.map_map]
  exact List.map_id _
variable (B : TabOk W L cf T k)
include B
theorem s_bin (op : BOp) {a b : E} (A1 : Snd W L cf T k N a) (A2 : Snd W L cf T k N b) : Snd W L cf T k N (.bin op a b) := by
  have main : ∀ sc X, Good W L N k sc X → ∀ e, ck T N (.bin op a b) false sc e = true → ∀ pm, PE X e (tv L pm (evE cf (.bin op a b))) ∧ PE X e (tf L pm (evE cf (.bin op a b))) := fun sc X G e h pm => by
    unfold ck at h
    split at h
    · simp only [Bool.and_eq_true, decide_eq_true_eq] at h
      obtain ⟨⟨rfl, h2⟩, h3⟩ := h
      exact ⟨tv_bin G.eL op (A1.b G h2 pm) (A2.b G h3 pm), tf_bin G.eL op (A1.b G h2 pm) (A2.b G h3 pm)⟩
    · cases h
  refine ⟨fun sc X G e h pm => (main sc X G e h pm).1, fun sc X G _ e h pm => (main sc X G e h pm).2, fun sc X G e h pm => ?_, fun _ _ _ _ h => (by cases h), fun _ _ _ _ h => (by cases h), fun _ _ _ _ _ h => (by cases h)⟩
  have h2 : ck T N (.bin op a b) false sc e = true ∧ plainTest e = true := by
    unfold ck at h ⊢
    split at h
    · exact ⟨h, rfl⟩
    · cases h
  exact tt_of (main sc X G e h2.1 pm).1 (plain_test h2.2)
theorem s_var (i : Nat) : Snd W L cf T k N (.var i) := .ofV (fun sc X G e h pm => by
    unfold ck at h
    split at h
    · exact tv_var (ckNm_inv G h)
    · cases h) (fun sc e h => by
    unfold ck at h ⊢
    split at h
    · exact ⟨h, rfl⟩
    · cases h) rfl (fun _ _ => rfl) (fun _ _ => rfl) (fun _ _ _ => rfl)
theorem s_cst (v : PV) : Snd W L cf T k N (.cst v) := .ofV (fun sc X G e h pm => by
    unfold ck at h
    split at h
    · rename_i c _ _
      cases v <;> cases c <;> first
        | (cases h; done)
        | exact tv_con pe_non (fun _ _ => .non) rfl
        | (obtain rfl := eq_of_beq h; exact tv_con pe_bl (fun _ _ => .bl _) rfl)
        | (obtain rfl := of_decide_eq_true h; exact tv_con pe_int (fun _ _ => .int _) rfl)
        | (obtain rfl := of_decide_eq_true h; exact tv_con pe_str (fun _ _ => .str _) rfl)
    · cases h) (fun sc e h => by
    unfold ck at h ⊢
    split at h
    · exact ⟨h, rfl⟩
    · cases h) rfl (fun _ _ => rfl) (fun _ _ => rfl) (fun _ _ _ => rfl)
theorem s_glo (x : Str) (v : PV) : Snd W L cf T k N (.glo x v) := .ofV (fun sc X G e h pm => by
    unfold ck at h
    split at h
    · simp only [Bool.and_eq_true, decide_eq_true_eq] at h
      obtain ⟨⟨⟨rfl, h2⟩, h3⟩, h4⟩ := h
      obtain ⟨y, u, h5, h6, h7⟩ := B.glo _ _ h3
      exact tv_con (pe_glob (G.gl h2) (by rw [G.emg]; exact h5) h6 (okd_inv h4).1) h7 rfl
    · cases h) (fun sc e h => by
    unfold ck at h ⊢
    split at h
    · exact ⟨h, rfl⟩
    · cases h) rfl (fun _ _ => rfl) (fun _ _ => rfl) (fun _ _ _ => rfl)
theorem s_neg {a : E} (A1 : Snd W L cf T k N a) : Snd W L cf T k N (.neg a) := .ofV (fun sc X G e h pm => by
    unfold ck at h
    split at h
    · simp only [Bool.and_eq_true] at h
      exact tv_neg (A1.v _ _ G _ h.2 pm)
    · cases h) (fun sc e h => by
    unfold ck at h
    split at h <;> cases h) rfl (fun _ _ => rfl) (fun _ _ => rfl) (fun _ _ _ => rfl)
theorem s_no {a : E} (A1 : Snd W L cf T k N a) : Snd W L cf T k N (.no a) := by
  refine ⟨fun sc X G e h pm => ?_, fun _ _ _ h => (by cases h), fun sc X G e h pm => ?_, fun _ _ _ _ h => (by cases h), fun _ _ _ _ h => (by cases h), fun _ _ _ _ _ h => (by cases h)⟩
  · unfold ck at h
    split at h
    · exact tv_no (A1.v _ _ G _ h pm)
    · cases h
  · unfold ck at h
    split at h
    · exact tt_no (A1.t _ _ G _ h pm)
    · cases h
theorem s_and {a b : E} (A1 : Snd W L cf T k N a) (A2 : Snd W L cf T k N b) : Snd W L cf T k N (.and a b) := by
  refine ⟨fun sc X G e h pm => ?_, fun _ _ _ h => (by cases h), fun sc X G e h pm => ?_, fun _ _ _ _ h => (by cases h), fun _ _ _ _ h => (by cases h), fun _ _ _ _ _ h => (by cases h)⟩
  · unfold ck at h
    split at h
    · simp only [Bool.and_eq_true] at h
      obtain ⟨h1, h2⟩ := h
      split at h2
      · exact tv_and (A1.v _ _ G _ h1 pm) (pe_one (A2.v _ _ G _ h2 pm))
      · exact tv_and (A1.v _ _ G _ h1 pm) (A2.v _ _ G _ h2 pm)
    · cases h
  · unfold ck at h
    split at h
    · simp only [Bool.and_eq_true] at h
      obtain ⟨h1, h2⟩ := h
      split at h2
      · exact pt_of (tw_and (A1.t _ _ G _ h1 pm) (pw_and1 (A2.t _ _ G _ h2 pm)))
      · exact pt_of (tw_and (A1.t _ _ G _ h1 pm) (pw_of (A2.t _ _ G _ h2 pm)))
    · cases h
theorem s_or {a b : E} (A1 : Snd W L cf T k N a) (A2 : Snd W L cf T k N b) : Snd W L cf T k N (.or a b) := by
  refine ⟨fun sc X G e h pm => ?_, fun _ _ _ h => (by cases h), fun sc X G e h pm => ?_, fun _ _ _ _ h => (by cases h), fun _ _ _ _ h => (by cases h), fun _ _ _ _ _ h => (by cases h)⟩
  · unfold ck at h
    split at h
    · simp only [Bool.and_eq_true] at h
      obtain ⟨h1, h2⟩ := h
      split at h2
      · exact tv_or (A1.v _ _ G _ h1 pm) (pe_one (A2.v _ _ G _ h2 pm))
      · exact tv_or (A1.v _ _ G _ h1 pm) (A2.v _ _ G _ h2 pm)
    · cases h
  · unfold ck at h
    split at h
    · simp only [Bool.and_eq_true] at h
      obtain ⟨h1, h2⟩ := h
      split at h2
      · exact pt_of (tw_or (A1.t _ _ G _ h1 pm) (pw_or1 (A2.t _ _ G _ h2 pm)))
      · exact pt_of (tw_or (A1.t _ _ G _ h1 pm) (pw_of (A2.t _ _ G _ h2 pm)))
    · cases h
theorem s_cmp (op : COp) {a b : E} (A1 : Snd W L cf T k N a) (A2 : Snd W L cf T k N b) : Snd W L cf T k N (.cmp op a b) := by
  refine ⟨fun sc X G e h pm => ?_, fun _ _ _ h => (by cases h), fun sc X G e h pm => ?_, fun _ _ _ _ h => (by cases h), fun _ _ _ _ h => (by cases h), fun _ _ _ _ _ h => (by cases h)⟩
  · unfold ck at h
    split at h
    · simp only [Bool.and_eq_true, decide_eq_true_eq, Bool.not_eq_true'] at h
      obtain ⟨⟨⟨rfl, h2⟩, h3⟩, h4⟩ := h
      exact tv_cmp G.eL G.un op (A1.b G h3 pm) (A2.b G h4 pm) h2
    · cases h
  · unfold ck at h
    split at h
    · simp only [Bool.and_eq_true, decide_eq_true_eq, Bool.not_eq_true'] at h
      obtain ⟨⟨⟨rfl, h2⟩, h3⟩, h4⟩ := h
      exact tt_cmp G.eL G.un op (A1.b G h3 pm) (A2.b G h4 pm) h2
    · cases h
theorem s_cmp2 (o1 o2 : COp) {a b c : E} (A1 : Snd W L cf T k N a) (A2 : Snd W L cf T k N b) (A3 : Snd W L cf T k N c) : Snd W L cf T k N (.cmp2 o1 o2 a b c) := by
  refine ⟨fun sc X G e h pm => ?_, fun _ _ _ h => (by cases h), fun sc X G e h pm => ?_, fun _ _ _ _ h => (by cases h), fun _ _ _ _ h => (by cases h), fun _ _ _ _ _ h => (by cases h)⟩
  · unfold ck at h
    split at h
    · simp only [Bool.and_eq_true, decide_eq_true_eq, Bool.not_eq_true'] at h
      obtain ⟨⟨⟨⟨⟨rfl, rfl⟩, h2⟩, h3⟩, h4⟩, h5⟩ := h
      exact tv_cmp2 G.eL G.un o1 o2 (A1.v _ _ G _ h3 pm) (A2.v _ _ G _ h4 pm) (A3.v _ _ G _ h5 pm) h2
    · cases h
  · unfold ck at h
    split at h
    · simp only [Bool.and_eq_true, decide_eq_true_eq, Bool.not_eq_true'] at h
      obtain ⟨⟨⟨⟨⟨rfl, rfl⟩, h2⟩, h3⟩, h4⟩, h5⟩ := h
      exact tt_cmp2 G.eL G.un o1 o2 (A1.v _ _ G _ h3 pm) (A2.v _ _ G _ h4 pm) (A3.v _ _ G _ h5 pm) h2
    · cases h
theorem s_ite {c a b : E} (A3 : Snd W L cf T k N c) (A1 : Snd W L cf T k N a) (A2 : Snd W L cf T k N b) : Snd W L cf T k N (.ite c a b) := .ofV (fun sc X G e h pm => by
    unfold ck at h
    split at h
    · simp only [Bool.and_eq_true] at h
      obtain ⟨⟨⟨_, h2⟩, h3⟩, h4⟩ := h
      exact tv_ite (A3.t _ _ G _ h2 pm) (A1.v _ _ G _ h3 pm) (A2.v _ _ G _ h4 pm)
    · cases h) (fun sc e h => by
    unfold ck at h
    split at h <;> cases h) rfl (fun _ _ => rfl) (fun _ _ => rfl) (fun _ _ _ => rfl)
theorem s_tup {es : E} (A1 : Snd W L cf T k N es) : Snd W L cf T k N (.tup es) := .ofV (fun sc X G e h pm => by
    unfold ck at h
    split at h
    · exact tv_tup (A1.l _ _ G _ h pm)
    · cases h) (fun sc e h => by
    unfold ck at h ⊢
    split at h
    · exact ⟨h, rfl⟩
    · cases h) rfl (fun _ _ => rfl) (fun _ _ => rfl) (fun _ _ _ => rfl)
theorem s_call (f : Nat) {es : E} (A1 : Snd W L cf T k N es) : Snd W L cf T k N (.call f es) := .ofV (fun sc X G e h pm => by
    unfold ck at h
    split at h
    · rename_i args _
      simp only [Bool.and_eq_true, decide_eq_true_eq, beq_iff_eq] at h
      obtain ⟨⟨⟨⟨h1, h2⟩, h3⟩, h4⟩, h5⟩ := h
      obtain ⟨g, fd, ps, F, h6, h7, h8⟩ := B.fn _ _ h1
      have hr := G.room.mono (Nat.le_succ k)
      cases args with
      | nil =>
        obtain rfl := isNil_nil (show isNil es = true from h4.symm)
        exact tv_call0 (G.fn F) hr (G.gl h2) (by rw [G.emg]; exact h6) (by rw [G.eK]; exact h7) (by rw [G.eK]; exact h8) (okd_inv h3).1
      | cons y ys =>
        have st := all_cons (ckL_star h5)
        exact tv_call (G.fn F) hr (G.gl h2) (by rw [G.emg]; exact h6) (by rw [G.eK]; exact h7) (by rw [G.eK]; exact h8) (A1.l _ _ G _ h5 pm) (okd_inv h3).1 (star_cons st.1) (star_any st.2)
    · cases h) (fun sc e h => by
    unfold ck at h ⊢
    split at h
    · exact ⟨h, rfl⟩
    · cases h) rfl (fun _ _ => rfl) (fun _ _ => rfl) (fun _ _ _ => rfl)
theorem s_callB (f : Nat) {es : E} (A1 : Snd W L cf T k N es) : Snd W L cf T k N (.callB f es) := .ofV (fun sc X G e h pm => by
    unfold ck at h
    split at h
    · rename_i args _
      simp only [Bool.and_eq_true, decide_eq_true_eq] at h
      obtain ⟨⟨⟨⟨h1, h2⟩, h3⟩, h4⟩, h5⟩ := h
      obtain ⟨g, fd, ps, F, h6, h7, h8⟩ := B.fn _ _ h1
      have hr := G.room.mono (Nat.le_succ k)
      cases args with
      | nil => cases h4
      | cons y ys =>
        have st := all_cons (ckLB_star h5)
        exact tv_callB (G.fn F) hr (G.gl h2) (by rw [G.emg]; exact h6) (by rw [G.eK]; exact h7) (by rw [G.eK]; exact h8) (A1.lb _ _ G _ h5 pm) (okd_inv h3).1 (star_cons st.1) (star_any st.2)
    · cases h) (fun sc e h => by
    unfold ck at h ⊢
    split at h
    · exact ⟨h, rfl⟩
    · cases h) rfl (fun _ _ => rfl) (fun _ _ => rfl) (fun _ _ _ => rfl)
theorem s_make (c f : Nat) {es : E} (A1 : Snd W L cf T k N es) : Snd W L cf T k N (.make c f es) := .ofV (fun sc X G e h pm => by
    unfold ck at h
    split at h
    · rename_i args _
      simp only [Bool.and_eq_true, decide_eq_true_eq, beq_iff_eq] at h
      obtain ⟨⟨⟨⟨h1, h2⟩, h3⟩, h4⟩, h5⟩ := h
      obtain ⟨C, g, fd, ps, hC, hM, h6, F, h8⟩ := B.mkc _ _ _ h1
      rw [← G.eK] at hM h8
      cases args with
      | nil =>
        obtain rfl := isNil_nil (show isNil es = true from h4.symm)
        exact tv_make0 hC hM (G.fn F) G.room (G.gl h2) (by rw [G.emg]; exact h6) h8 (okd_inv h3).1
      | cons y ys =>
        have st := all_cons (ckL_star h5)
        exact tv_make hC hM (G.fn F) G.room (G.gl h2) (by rw [G.emg]; exact h6) h8 (A1.l _ _ G _ h5 pm) (okd_inv h3).1 (star_cons st.1) (star_any st.2)
    · cases h) (fun sc e h => by
    unfold ck at h ⊢
    split at h
    · exact ⟨h, rfl⟩
    · cases h) rfl (fun _ _ => rfl) (fun _ _ => rfl) (fun _ _ _ => rfl)
theorem s_meth (c : Nat) (n : Str) (f : Nat) {o es : E} (A0 : Snd W L cf T k N o) (A1 : Snd W L cf T k N es) : Snd W L cf T k N (.meth c n f o es) := .ofV (fun sc X G e h pm => by
    unfold ck at h
    split at h
    · rename_i l n' apos args pos
      simp only [Bool.and_eq_true, decide_eq_true_eq, beq_iff_eq] at h
      obtain ⟨⟨⟨⟨⟨⟨⟨rfl, h1⟩, h2⟩, h3⟩, h4⟩, h5⟩, h6⟩, h7⟩ := h
      obtain ⟨C, g, fd, ps, hC, hc, hm, F, h8⟩ := B.mth _ _ _ h1
      rw [← G.eK] at hc hm h8
      have hr := G.room.mono (Nat.le_succ k)
      have tr := meth_tree (m := n) (apos := apos) (pos := pos) (env := X.env) h2 (ckL_star h7) h3 (by rw [beq_iff_eq]; exact h4)
      cases args with
      | nil =>
        obtain rfl := isNil_nil (show isNil es = true from h5.symm)
        exact tv_meth0 G.eL hC (A0.v _ _ G _ h6 pm) hc hm (G.fn F) hr h8 tr
      | cons y ys =>
        have st := all_cons (ckL_star h7)
        exact tv_meth G.eL hC (A0.v _ _ G _ h6 pm) hc hm (G.fn F) hr h8 (A1.l _ _ G _ h7 pm) (star_cons st.1) (star_any st.2) tr
    · cases h) (fun sc e h => by
    unfold ck at h ⊢
    split at h
    · exact ⟨h, rfl⟩
    · cases h) rfl (fun _ _ => rfl) (fun _ _ => rfl) (fun _ _ _ => rfl)
theorem s_idx {a b : E} (A1 : Snd W L cf T k N a) (A2 : Snd W L cf T k N b) : Snd W L cf T k N (.idx a b) := .ofV (fun sc X G e h pm => by
    unfold ck at h
    split at h
    · simp only [Bool.and_eq_true] at h
      obtain ⟨⟨h1, h2⟩, h3⟩ := h
      exact tv_idx G.eL G.un1 (A1.b G h2 pm) (A2.v _ _ G _ h3 pm) (plainIx h1)
    · cases h) (fun sc e h => by
    unfold ck at h ⊢
    split at h
    · exact ⟨h, rfl⟩
    · cases h) rfl (fun _ _ => rfl) (fun _ _ => rfl) (fun _ _ _ => rfl)
theorem s_bound {a : E} (A1 : Snd W L cf T k N a) (G : Good W L N k sc X) {x : Option Expr} (h : (match x with
      | none => isNonC a
      | some x => !(isNonC a) && ck T N a false sc x) = true) (pm : Pm) : PO X x (to L pm a (evE cf a)) := by
  cases x with
  | none =>
    obtain rfl := nonC h
    exact to_none
  | some x =>
    simp only [Bool.and_eq_true] at h
    exact to_some (A1.v _ _ G _ h.2 pm) (nonC_ne h.1)
theorem s_slc {a lo hi : E} (A1 : Snd W L cf T k N a) (A2 : Snd W L cf T k N lo) (A3 : Snd W L cf T k N hi) : Snd W L cf T k N (.slc a lo hi) := by
  have main : ∀ sc X, Good W L N k sc X → ∀ e, ck T N (.slc a lo hi) false sc e = true → ∀ pm, PE X e (tv L pm (evE cf (.slc a lo hi))) ∧ PE X e (tf L pm (evE cf (.slc a lo hi))) := fun sc X G e h pm => by
    unfold ck at h
    split at h
    · rw [Bool.and_eq_true, Bool.and_eq_true] at h
      obtain ⟨⟨h1, h2⟩, h3⟩ := h
      have q2 := s_bound B A2 G h2 pm
      have q3 := s_bound B A3 G h3 pm
      exact ⟨tv_slc G.eL (A1.b G h1 pm) q2 q3, tf_slc G.eL (A1.b G h1 pm) q2 q3⟩
    · cases h
  refine ⟨fun sc X G e h pm => (main sc X G e h pm).1, fun sc X G _ e h pm => (main sc X G e h pm).2, fun sc X G e h pm => ?_, fun _ _ _ _ h => (by cases h), fun _ _ _ _ h => (by cases h), fun _ _ _ _ _ h => (by cases h)⟩
  have h2 : ck T N (.slc a lo hi) false sc e = true ∧ plainTest e = true := by
    unfold ck at h ⊢
    split at h
    · exact ⟨h, rfl⟩
    · cases h
  exact tt_of (main sc X G e h2.1 pm).1 (plain_test h2.2)
theorem s_fld {a : E} (f : Str) (A1 : Snd W L cf T k N a) : Snd W L cf T k N (.fld a f) := .ofV (fun sc X G e h pm => by
    unfold ck at h
    split at h
    · simp only [Bool.and_eq_true, decide_eq_true_eq] at h
      obtain ⟨⟨⟨rfl, h1⟩, h2⟩, h3⟩ := h
      exact tv_fld G.eL (fun c C hc => by rw [G.eK]; exact B.fld _ h1 c C hc) (A1.v _ _ G _ h3 pm) (plain_base h2)
    · cases h) (fun sc e h => by
    unfold ck at h ⊢
    split at h
    · exact ⟨h, rfl⟩
    · cases h) rfl (fun _ _ => rfl) (fun _ _ => rfl) (fun _ _ _ => rfl)
end
end Ev
end
section -- Sound19
/-! Sound19: a term that says what a text says: all terms. -/
namespace Ev
open PySem PySem.Spec PyProof.Rows L2
section
variable {W : Wld} {L : Lk} {cf : CallF} {T : Tb} {k : Nat} {N : List Str} {sc : Scope} {X : Cx}
theorem Good.no (G : Good W L N k sc X) (B : TabOk W L cf T k) {x s : Str} (h : bnm sc x s = true) (hs : s ∈ bnames) : x = s ∧ Gl X x ∧ X.mg x = none := by
  obtain ⟨h1, h2⟩ := bnm_inv h
  exact ⟨h1, G.gl h2, by rw [G.emg, h1]; exact B.blt _ hs⟩
variable (B : TabOk W L cf T k)
include B
theorem s_nil : Snd W L cf T k N .nil := by
  refine ⟨fun _ _ _ _ h => (by cases h), fun _ _ _ h => (by cases h), fun _ _ _ _ h => (by cases h), fun sc X G es h pm => ?_, fun sc X G es h pm => ?_, fun _ _ _ _ _ h => (by cases h)⟩
  · cases es with
    | nil => exact tl_nil
    | cons _ _ => cases h
  · cases es with
    | nil => exact tlb_nil
    | cons _ _ => cases h
theorem s_cons {a b : E} (A1 : Snd W L cf T k N a) (A2 : Snd W L cf T k N b) : Snd W L cf T k N (.cons a b) := by
  refine ⟨fun _ _ _ _ h => (by cases h), fun _ _ _ h => (by cases h), fun _ _ _ _ h => (by cases h), fun sc X G es h pm => ?_, fun sc X G es h pm => ?_, fun _ _ _ _ _ h => (by cases h)⟩
  · cases es with
    | nil => cases h
    | cons t ts =>
      unfold ckL at h
      simp only [Bool.and_eq_true] at h
      exact tl_cons (A1.v _ _ G _ h.1.2 pm) (A2.l _ _ G _ h.2 pm) (star_cons h.1.1)
  · cases es with
    | nil => cases h
    | cons t ts =>
      unfold ckLB at h
      simp only [Bool.and_eq_true] at h
      exact tlb_cons (A1.b G h.1.2 pm) (A2.lb _ _ G _ h.2 pm) (star_cons h.1.1)
theorem s_bi (bo : Bi) {es : E} (A1 : Snd W L cf T k N es) : Snd W L cf T k N (.bi bo es) := by
  have main : ∀ sc X, Good W L N k sc X → ∀ e, ck T N (.bi bo es) false sc e = true → ∀ pm, PE X e (tv L pm (evE cf (.bi bo es))) ∧ (fresh (.bi bo es) = true → PE X e (tf L pm (evE cf (.bi bo es)))) := fun sc X G e h pm => by
    unfold ck at h
    split at h
    · rename_i x _ args _
      rw [Bool.and_eq_true, Bool.and_eq_true, Bool.and_eq_true] at h
      obtain ⟨⟨⟨h1, h2⟩, h3⟩, h4⟩ := h
      obtain ⟨b1, b2, b3, b4⟩ := boot_all bo
      obtain ⟨rfl, hg, hm⟩ := G.no B h1 b2
      cases args with
      | nil => cases h3
      | cons y ys =>
        have st := all_cons (ckLB_star h4)
        have hb : bo ≠ .sorted := fun q => by
          subst q
          cases h2
        refine ⟨tv_bi G.eL G.calm G.room.gd G.un bo hb hg hm b1 b3 b4 (A1.lb _ _ G _ h4 pm) (star_cons st.1) (star_any st.2), fun hf => ?_⟩
        cases bo <;> first
          | (cases hf; done)
          | skip
        · cases ys with
          | nil => exact tf_list G.eL hg hm b1 b3 b4 (A1.lb _ _ G _ h4 pm) (star_cons st.1) (star_any st.2)
          | cons _ _ => cases h2
        · exact absurd rfl hb
    · cases h
  refine ⟨fun sc X G e h pm => (main sc X G e h pm).1, fun sc X G hf e h pm => (main sc X G e h pm).2 hf, fun sc X G e h pm => ?_, fun _ _ _ _ h => (by cases h), fun _ _ _ _ h => (by cases h), fun _ _ _ _ _ h => (by cases h)⟩
  have h2 : ck T N (.bi bo es) false sc e = true ∧ plainTest e = true := by
    unfold ck at h ⊢
    split at h
    · exact ⟨h, rfl⟩
    · cases h
  exact tt_of (main sc X G e h2.1 pm).1 (plain_test h2.2)
theorem s_isi (t : Ty) {a : E} (A1 : Snd W L cf T k N a) : Snd W L cf T k N (.isi a t) := .ofV (fun sc X G e h pm => by
    unfold ck at h
    split at h
    · simp only [Bool.and_eq_true] at h
      obtain ⟨⟨⟨h1, h2⟩, h3⟩, h4⟩ := h
      obtain ⟨b1, b2, b3, b4⟩ := boot_ty t
      obtain ⟨rfl, g1, m1⟩ := G.no B h1 in_names.1
      obtain ⟨rfl, g2, m2⟩ := G.no B h2 b2
      exact tv_isi G.eL t g1 m1 PyProof.Rows.boot_isinstance g2 m2 b1 (by decide) (by decide) b3 b4 (A1.b G h4 pm) (star_cons h3)
    · cases h) (fun sc e h => by
    unfold ck at h ⊢
    split at h
    · exact ⟨h, rfl⟩
    · cases h) rfl (fun _ _ => rfl) (fun _ _ => rfl) (fun _ _ _ => rfl)
theorem lst_disp {es : E} {ρ : Slots} {M M' : Mem} {v : PV} (h : evE cf (.disp es) ρ M = some (v, M')) : ∃ xs, v = .lst xs := by
  obtain ⟨xs, M1, _, h⟩ := bnd_inv h
  split at h
  · cases h
    exact ⟨_, rfl⟩
  · cases h
theorem s_disp {es : E} (A1 : Snd W L cf T k N es) : Snd W L cf T k N (.disp es) := .ofF (fun sc X G e h pm => by
    unfold ck at h
    split at h
    · simp only [Bool.and_eq_true] at h
      exact tf_disp (A1.l _ _ G _ h.2 pm)
    · cases h) (fun ρ M v M' h => lst_disp B h) (fun sc e => by
    unfold ck
    split <;> rfl) (fun _ _ => rfl) (fun _ _ => rfl) (fun _ _ _ => rfl)
theorem s_ifs {c : E} (A1 : Snd W L cf T k N c) (G : Good W L N k sc X) {ifs : List Expr} (h : (match ifs with
      | [] => isTrueC c
      | [e] => ck T N c true sc e
      | _ => false) = true) : PTs X ifs (xt L (evE cf c)) := by
  cases ifs with
  | nil => exact pts_none (trueC h)
  | cons e r =>
    cases r with
    | nil => exact pts_some fun pm => A1.t _ _ G _ h pm
    | cons _ _ => cases h
theorem s_comp (own : List Nat) {elt it cond tg : E} (A1 : Snd W L cf T k N elt) (A2 : Snd W L cf T k N it) (A3 : Snd W L cf T k N cond) : Snd W L cf T k N (.comp elt it cond tg own) := .ofF (fun sc X G e h pm => by
    unfold ck at h
    split at h
    · rename_i pos
      rw [Bool.and_eq_true, Bool.and_eq_true, Bool.and_eq_true, Bool.and_eq_true, Bool.and_eq_true, Bool.and_eq_true, Bool.and_eq_true] at h
      obtain ⟨⟨⟨⟨⟨⟨⟨_, h1⟩, h2⟩, h3⟩, h4⟩, h5⟩, h6⟩, h7⟩ := h
      have ok := blkOk_by h1
      have bk := G.blk ok.kind
      have := tf_comp (pos := pos) (cf := cf) (L := L) (pm := pm) (X := X) (it := it) (cond := cond) (elt := elt) (tg := tg) (ow := owN N own) G.calm G.nd' (by rw [G.eN, G.esc]; exact ok) (by
        rw [owN_snd]
        intro j hj
        have := List.all_eq_true.mp h2 j hj
        simpa using this) (A2.i _ _ G _ _ h4 pm) (fun s H C cl fp => (snd_g (TgOk.blk G _ s H C cl fp) tg).1 _ h5) (fun s H C cl fp => s_ifs B A3 (bk s H C cl fp) h6) (fun s H C cl fp => pe_x fun pm => A1.v _ _ (bk s H C cl fp) _ h7 pm) (fun x => no_set h3)
      rw [owN_snd] at this
      exact this
    · cases h) (fun ρ M v M' h => by
    obtain ⟨xs, M1, _, h⟩ := bnd_inv h
    obtain ⟨r, _, h2⟩ := Option.map_eq_some_iff.mp h
    cases h2
    exact ⟨_, rfl⟩) (fun sc e => by
    unfold ck
    split <;> rfl) (fun _ _ => rfl) (fun _ _ => rfl) (fun _ _ _ => rfl)
theorem s_comp2 (own : List Nat) {elt it it2 cond tg tg2 : E} (A1 : Snd W L cf T k N elt) (A2 : Snd W L cf T k N it) (A4 : Snd W L cf T k N it2) (A3 : Snd W L cf T k N cond) : Snd W L cf T k N (.comp2 elt it it2 cond tg tg2 own) := .ofF (fun sc X G e h pm => by
    unfold ck at h
    split at h
    · rename_i pos
      rw [Bool.and_eq_true, Bool.and_eq_true, Bool.and_eq_true, Bool.and_eq_true, Bool.and_eq_true, Bool.and_eq_true, Bool.and_eq_true, Bool.and_eq_true, Bool.and_eq_true, Bool.and_eq_true, Bool.and_eq_true] at h
      obtain ⟨⟨⟨⟨⟨⟨⟨⟨⟨⟨⟨_, h1⟩, h2⟩, h2'⟩, h3⟩, h3'⟩, h4⟩, h5⟩, h8⟩, h9⟩, h6⟩, h7⟩ := h
      have ok := blkOk_by h1
      have bk := G.blk ok.kind
      have mem : ∀ {l : List Nat}, (l.all fun j => own.contains j) = true → ∀ j ∈ l, j ∈ (owN N own).map (·.2) := fun {l} hl j hj => by
        rw [owN_snd]
        have := List.all_eq_true.mp hl j hj
        simpa using this
      have := tf_comp2 (pos := pos) (cf := cf) (L := L) (pm := pm) (X := X) (it := it) (it2 := it2) (cond := cond) (elt := elt) (tg := tg) (tg2 := tg2) (ow := owN N own) G.calm G.nd' (by rw [G.eN, G.esc]; exact ok) (mem h2) (mem h2') (A2.i _ _ G _ _ h4 pm) (fun s H C cl fp => (snd_g (TgOk.blk G _ s H C cl fp) tg).1 _ h5)
        (fun s H C cl fp => pi_x0 fun pm => A4.i _ _ (bk s H C cl fp) _ _ h8 pm) (fun s H C cl fp => (snd_g (TgOk.blk G _ s H C cl fp) tg2).1 _ h9) (fun s H C cl fp => s_ifs B A3 (bk s H C cl fp) h6) (fun s H C cl fp => pe_x fun pm => A1.v _ _ (bk s H C cl fp) _ h7 pm) (fun x => no_set h3) (fun _ x => no_set h3')
      rw [owN_snd] at this
      exact this
    · cases h) (fun ρ M v M' h => by
    obtain ⟨xs, M1, _, h⟩ := bnd_inv h
    obtain ⟨r, _, h2⟩ := Option.map_eq_some_iff.mp h
    cases h2
    exact ⟨_, rfl⟩) (fun sc e => by
    unfold ck
    split <;> rfl) (fun _ _ => rfl) (fun _ _ => rfl) (fun _ _ _ => rfl)
omit B in
theorem two_f {a b : E} {one : Bool} {pm : Pm} {ex : Expr} (z : PE X ex (tf L pm (evE cf (.rngl a b one false)))) : PE X ex (tv L pm (evE cf (.rngl a b one false))) ∧ (fresh (.rngl a b one false) = true → PE X ex (tf L pm (evE cf (.rngl a b one false)))) :=
  ⟨tv_f z fun ρ M v M' hv => by
    obtain ⟨i, j, M1, _, _, _, _, q⟩ := rngl_inv hv
    exact ⟨_, q⟩, fun _ => z⟩
theorem s_rngl (one tp : Bool) {a b : E} (A1 : Snd W L cf T k N a) (A2 : Snd W L cf T k N b) : Snd W L cf T k N (.rngl a b one tp) := by
  have main : ∀ sc X, Good W L N k sc X → ∀ e, ck T N (.rngl a b one tp) false sc e = true → ∀ pm, PE X e (tv L pm (evE cf (.rngl a b one tp))) ∧ (fresh (.rngl a b one tp) = true → PE X e (tf L pm (evE cf (.rngl a b one tp)))) := fun sc X G e h pm => by
    unfold ck at h
    split at h
    · rw [Bool.and_eq_true, Bool.and_eq_true, Bool.and_eq_true] at h
      obtain ⟨⟨⟨_, h1⟩, h2⟩, h3⟩ := h
      obtain ⟨rfl, g2, m2⟩ := G.no B h2 in_names.2.1
      split at h3
      · rename_i args e1
        rw [Bool.and_eq_true, Bool.and_eq_true, Bool.and_eq_true] at h3
        obtain ⟨⟨⟨ho, h4⟩, h5⟩, h6⟩ := h3
        obtain rfl : one = true := ho
        cases tp with
        | true =>
          obtain ⟨rfl, g1, m1⟩ := G.no B h1 in_names.2.2.2.2.2
          exact ⟨tv_rngl G.calm g1 m1 (prg_one g2 m2 (zeroC h4) (A2.v _ _ G _ h6 pm) (star_cons h5)) (star_cons rfl), fun hf => (by cases hf)⟩
        | false =>
          obtain ⟨rfl, g1, m1⟩ := G.no B h1 in_names.2.2.2.2.1
          exact two_f (tf_rngl G.calm g1 m1 (prg_one g2 m2 (zeroC h4) (A2.v _ _ G _ h6 pm) (star_cons h5)) (star_cons rfl))
      · rename_i args e1 e2
        rw [Bool.and_eq_true, Bool.and_eq_true, Bool.and_eq_true, Bool.and_eq_true] at h3
        obtain ⟨⟨⟨⟨ho, h4⟩, h4'⟩, h5⟩, h6⟩ := h3
        obtain rfl : one = false := by simpa using ho
        cases tp with
        | true =>
          obtain ⟨rfl, g1, m1⟩ := G.no B h1 in_names.2.2.2.2.2
          exact ⟨tv_rngl G.calm g1 m1 (prg_two g2 m2 (A1.v _ _ G _ h5 pm) (A2.v _ _ G _ h6 pm) (star_cons h4) (star_cons h4') (star_any (by rw [List.all_cons, h4'] <;> rfl))) (star_cons rfl), fun hf => (by cases hf)⟩
        | false =>
          obtain ⟨rfl, g1, m1⟩ := G.no B h1 in_names.2.2.2.2.1
          exact two_f (tf_rngl G.calm g1 m1 (prg_two g2 m2 (A1.v _ _ G _ h5 pm) (A2.v _ _ G _ h6 pm) (star_cons h4) (star_cons h4') (star_any (by rw [List.all_cons, h4'] <;> rfl))) (star_cons rfl))
      · cases h3
    · cases h
  refine ⟨fun sc X G e h pm => (main sc X G e h pm).1, fun sc X G hf e h pm => (main sc X G e h pm).2 hf, fun sc X G e h pm => ?_, fun _ _ _ _ h => (by cases h), fun _ _ _ _ h => (by cases h), fun _ _ _ _ _ h => (by cases h)⟩
  unfold ck at h
  split at h <;> cases h
theorem s_loop {a : E} (hv : ∀ m sc e, ck T N a m sc e = false) (hl : ∀ sc es, ckL T N a sc es = false) (hlb : ∀ sc es, ckLB T N a sc es = false) (hi : ∀ sc X, Good W L N k sc X → ∀ tg e, ckI T N a sc tg e = true → ∀ pm, PI X tg e (ti L pm a (evI cf a))) : Snd W L cf T k N a :=
  ⟨fun sc X _ e h => absurd h (by rw [hv]; decide), fun sc X _ _ e h => absurd h (by rw [hv]; decide), fun sc X _ e h => absurd h (by rw [hv]; decide), fun sc X _ es h => absurd h (by rw [hl]; decide), fun sc X _ es h => absurd h (by rw [hlb]; decide), hi⟩
theorem s_seq {a : E} (A1 : Snd W L cf T k N a) : Snd W L cf T k N (.seq a) := s_loop B (fun _ _ _ => rfl) (fun _ _ => rfl) (fun _ _ => rfl) fun sc X G tg e h pm => ti_seq G.eL (A1.b G h pm)
theorem s_rng1 {a : E} (A1 : Snd W L cf T k N a) : Snd W L cf T k N (.rng1 a) := s_loop B (fun _ _ _ => rfl) (fun _ _ => rfl) (fun _ _ => rfl) fun sc X G tg e h pm => by
  unfold ckI at h
  split at h
  · simp only [Bool.and_eq_true] at h
    obtain ⟨rfl, g2, m2⟩ := G.no B h.1.1 in_names.2.1
    exact ti_rng1 g2 m2 (A1.v _ _ G _ h.2 pm) (star_cons h.1.2)
  · cases h
theorem s_rng2 {a b : E} (A1 : Snd W L cf T k N a) (A2 : Snd W L cf T k N b) : Snd W L cf T k N (.rng2 a b) := s_loop B (fun _ _ _ => rfl) (fun _ _ => rfl) (fun _ _ => rfl) fun sc X G tg e h pm => by
  unfold ckI at h
  split at h
  · simp only [Bool.and_eq_true] at h
    obtain ⟨⟨⟨⟨h1, h2⟩, h3⟩, h4⟩, h5⟩ := h
    obtain ⟨rfl, g2, m2⟩ := G.no B h1 in_names.2.1
    exact ti_rng2 g2 m2 (A1.v _ _ G _ h4 pm) (A2.v _ _ G _ h5 pm) (star_cons h2) (star_cons h3)
  · cases h
theorem s_enum {a : E} (A1 : Snd W L cf T k N a) : Snd W L cf T k N (.enum a) := s_loop B (fun _ _ _ => rfl) (fun _ _ => rfl) (fun _ _ => rfl) fun sc X G tg e h pm => by
  unfold ckI at h
  split at h
  · split at h
    · simp only [Bool.and_eq_true] at h
      obtain ⟨rfl, g2, m2⟩ := G.no B h.1.1 in_names.2.2.1
      exact ti_enum G.eL g2 m2 (A1.b G h.2 pm) (star_cons h.1.2)
    · cases h
  · cases h
theorem s_zip {a b : E} (A1 : Snd W L cf T k N a) (A2 : Snd W L cf T k N b) : Snd W L cf T k N (.zip a b) := s_loop B (fun _ _ _ => rfl) (fun _ _ => rfl) (fun _ _ => rfl) fun sc X G tg e h pm => by
  unfold ckI at h
  split at h
  · split at h
    · simp only [Bool.and_eq_true] at h
      obtain ⟨⟨⟨⟨h1, h2⟩, h3⟩, h4⟩, h5⟩ := h
      obtain ⟨rfl, g2, m2⟩ := G.no B h1 in_names.2.2.2.1
      exact ti_zip G.eL g2 m2 (A1.b G h4 pm) (A2.b G h5 pm) (star_cons h2) (star_cons h3)
    · cases h
  · cases h
theorem s_box {a : E} (A : Snd W L cf T k N a) : Snd W L cf T k N (.box a) := .ofV (fun sc X G e h pm => by
    unfold ck at h
    simp only [Bool.and_eq_true] at h
    exact tv_box (A.f _ _ G h.1.2 _ h.2 pm)) (fun sc e h => by
    unfold ck at h
    simp at h) rfl (fun _ _ => rfl) (fun _ _ => rfl) (fun _ _ _ => rfl)
omit B in
theorem ps_absurd {X : Cx} {e : Expr} {t : TE} (h : ∀ σ H Q, t σ H Q → False) : PE X e t := ⟨fun pins s σ H Q I q => (h σ H Q q).elim⟩
omit B in
theorem ckK_len : ∀ {ks : List Str} {dk : List (Option Expr)}, ckK ks dk = true → dk.length = ks.length ∧ dk.all (·.isSome) = true
  | [], dk, h => by
    unfold ckK at h
    have := List.isEmpty_iff.mp h
    subst this
    exact ⟨rfl, rfl⟩
  | k :: ks, dk, h => by
    unfold ckK at h
    split at h
    · simp only [Bool.and_eq_true] at h
      obtain ⟨q1, q2⟩ := ckK_len h.2
      exact ⟨by rw [List.length_cons, List.length_cons, q1], by rw [List.all_cons, q2] <;> rfl⟩
    · cases h
/-- the terms of a list, each by itself -/
def eachE (P : E → Prop) : E → Prop
  | .cons a b => P a ∧ eachE P b
  | _ => True
omit B in
theorem pps_all {sc : Scope} {X : Cx} (G : Good W L N k sc X) {pos : Pos} : ∀ (ks : List Str) (es : E) {dk : List (Option Expr)} {dv : List Expr}, eachE (Snd W L cf T k N) es → ckK ks dk = true → ckL T N es sc dv = true → dk.length = dv.length → PPs X pos dk dv (trsOf L cf ks es)
  | [], es, dk, dv, _, h1, h2, hl => by
    unfold ckK at h1
    obtain rfl := List.isEmpty_iff.mp h1
    obtain rfl := List.length_eq_zero_iff.mp hl.symm
    exact pps_nil
  | k :: ks, es, dk, dv, hs, h1, h2, hl => by
    unfold ckK at h1
    split at h1
    · rename_i x _ _ r
      simp only [Bool.and_eq_true, decide_eq_true_eq] at h1
      obtain ⟨rfl, h1⟩ := h1
      cases es with
      | cons a b =>
        unfold ckL at h2
        cases dv with
        | nil => simp at hl
        | cons v vs =>
          simp only [Bool.and_eq_true] at h2
          exact pps_cons pe_str (pe_x fun pm => hs.1.v _ _ G _ h2.1.2 pm) (pps_all G ks b hs.2 h1 h2.2 (by simpa using hl))
      | nil =>
        unfold ckL at h2
        obtain rfl := List.isEmpty_iff.mp h2
        simp at hl
      | _ => cases h2
    · cases h1
omit B in
theorem ckL_len : ∀ {es : E} {sc : Scope} {dv : List Expr}, ckL T N es sc dv = true → dv.length = elen es := by
  intro es
  induction es with
  | nil =>
    intro sc dv h
    unfold ckL at h
    obtain rfl := List.isEmpty_iff.mp h
    rfl
  | cons a b _ ih =>
    intro sc dv h
    unfold ckL at h
    cases dv with
    | nil => cases h
    | cons v vs =>
      simp only [Bool.and_eq_true] at h
      rw [List.length_cons, ih h.2] <;> rfl
  | _ =>
    intro sc dv h
    cases h
omit B in
theorem evL_len : ∀ {es : E} {ρ : Slots} {M M' : Mem} {xs : List PV}, evL cf es ρ M = some (xs, M') → xs.length = elen es := by
  intro es
  induction es with
  | nil =>
    intro ρ M M' xs h
    cases h
    rfl
  | cons a b _ ih =>
    intro ρ M M' xs h
    obtain ⟨x, M1, e2, e3⟩ := bnd_inv h
    obtain ⟨ys, M2, e4, e5⟩ := bnd_inv e3
    cases e5
    rw [List.length_cons, ih e4] <;> rfl
  | _ =>
    intro ρ M M' xs h
    cases h
theorem s_boxD (ks : List Str) {es : E} (A : eachE (Snd W L cf T k N) es) : Snd W L cf T k N (.boxD ks es) := .ofV (fun sc X G e h pm => by
    unfold ck at h
    split at h
    · rename_i dk dv pos
      simp only [Bool.and_eq_true, Bool.not_eq_true'] at h
      obtain ⟨⟨⟨_, h1⟩, h2⟩, h3⟩ := h
      obtain ⟨q1, q2⟩ := ckK_len h1
      have q3 := ckL_len h2
      have hne : ks ≠ [] := fun z => by rw [z] at h3; cases h3
      by_cases hl : dk.length = dv.length ∧ ks.length ≤ 15
      · exact tv_boxD (pps_all G ks es A h1 h2 hl.1) q2 hl.1 (fun z => hne (List.length_eq_zero_iff.mp (by rw [← q1, z] <;> rfl))) (by rw [q1]; exact hl.2)
      · refine (ps_absurd (t := tv L pm (evE cf (.boxD ks es))) ?_)
        intro σ H Q ⟨F, μ, M, ρ, v, M', S, e1, k⟩
        have e1 : (if ks.Nodup ∧ ks.length ≤ 15 then bnd (evL cf es ρ M) fun xs M1 => if xs.length = ks.length then some (PV.ref M1.length, M1 ++ [.dct (ks.map .str) xs]) else none else none) = some (v, M') := e1
        split at e1
        · rename_i hk
          obtain ⟨xs, M1, e2, e3⟩ := bnd_inv e1
          split at e3
          · rename_i hx
            refine hl ⟨?_, hk.2⟩
            rw [q1, q3, ← hx, evL_len e2]
          · cases e3
        · cases e1
    · cases h) (fun sc e h => by
    unfold ck at h
    split at h
    · simp at h
    · cases h) rfl (fun _ _ => rfl) (fun _ _ => rfl) (fun _ _ _ => rfl)
/-- every term -/
theorem snd2 (a : E) : Snd W L cf T k N a ∧ eachE (Snd W L cf T k N) a := by
  induction a with
  | var i => exact ⟨s_var B i, trivial⟩
  | cst v => exact ⟨s_cst B v, trivial⟩
  | glo x v => exact ⟨s_glo B x v, trivial⟩
  | bin op a b h1 h2 => exact ⟨s_bin B op h1.1 h2.1, trivial⟩
  | neg a h => exact ⟨s_neg B h.1, trivial⟩
  | no a h => exact ⟨s_no B h.1, trivial⟩
  | and a b h1 h2 => exact ⟨s_and B h1.1 h2.1, trivial⟩
  | or a b h1 h2 => exact ⟨s_or B h1.1 h2.1, trivial⟩
  | cmp op a b h1 h2 => exact ⟨s_cmp B op h1.1 h2.1, trivial⟩
  | cmp2 o1 o2 a b c h1 h2 h3 => exact ⟨s_cmp2 B o1 o2 h1.1 h2.1 h3.1, trivial⟩
  | ite c a b h3 h1 h2 => exact ⟨s_ite B h3.1 h1.1 h2.1, trivial⟩
  | tup es h => exact ⟨s_tup B h.1, trivial⟩
  | call f es h => exact ⟨s_call B f h.1, trivial⟩
  | callB f es h => exact ⟨s_callB B f h.1, trivial⟩
  | meth c m f o es h1 h2 => exact ⟨s_meth B c m f h1.1 h2.1, trivial⟩
  | make c f es h => exact ⟨s_make B c f h.1, trivial⟩
  | idx a b h1 h2 => exact ⟨s_idx B h1.1 h2.1, trivial⟩
  | slc a lo hi h1 h2 h3 => exact ⟨s_slc B h1.1 h2.1 h3.1, trivial⟩
  | fld a f h => exact ⟨s_fld B f h.1, trivial⟩
  | bi b es h => exact ⟨s_bi B b h.1, trivial⟩
  | isi a t h => exact ⟨s_isi B t h.1, trivial⟩
  | nil => exact ⟨s_nil B, trivial⟩
  | cons a b h1 h2 => exact ⟨s_cons B h1.1 h2.1, ⟨h1.1, h2.2⟩⟩
  | disp es h => exact ⟨s_disp B h.1, trivial⟩
  | comp elt it cond tg own h1 h2 h3 _ => exact ⟨s_comp B own h1.1 h2.1 h3.1, trivial⟩
  | comp2 elt it it2 cond tg tg2 own h1 h2 h3 h4 _ _ => exact ⟨s_comp2 B own h1.1 h2.1 h3.1 h4.1, trivial⟩
  | dkeys elt it cond tg own _ _ _ _ => exact ⟨⟨fun _ _ _ _ h => (by cases h), fun _ _ _ h => (by cases h), fun _ _ _ _ h => (by cases h), fun _ _ _ _ h => (by cases h), fun _ _ _ _ h => (by cases h), fun _ _ _ _ _ h => (by cases h)⟩, trivial⟩
  | rngl a b one tp h1 h2 => exact ⟨s_rngl B one tp h1.1 h2.1, trivial⟩
  | box a h => exact ⟨s_box B h.1, trivial⟩
  | boxD ks es h => exact ⟨s_boxD B ks h.2, trivial⟩
  | seq a h => exact ⟨s_seq B h.1, trivial⟩
  | rng1 a h => exact ⟨s_rng1 B h.1, trivial⟩
  | rng2 a b h1 h2 => exact ⟨s_rng2 B h1.1 h2.1, trivial⟩
  | enum a h => exact ⟨s_enum B h.1, trivial⟩
  | zip a b h1 h2 => exact ⟨s_zip B h1.1 h2.1, trivial⟩
theorem snd (a : E) : Snd W L cf T k N a := (snd2 B a).1
end
end Ev
end
section -- Sound20
/-! Sound20: readings of statements; stores. -/
namespace Ev
open PySem PySem.Spec PyProof.Rows L2
section
variable {L : Lk} {pm : Pm} {F F' : Hp} {μ μ' : List Addr} {M M' : Mem} {ρ ρ' : Slots} {σ σ' : L2.St} {H H' : Hp}
/-- a name gets a loose object -/
theorem Stt.setLoose (S : Stt L pm F μ M ρ σ H) (W : Own pm ρ σ) (i : Nat) {s : Slot} {p : Addr} (hs : s.isOwn = true) (l : Loose pm F μ ρ σ p) (r : SlotR L F μ H (some (some (V.ref p))) s) :
    Stt L pm F μ M (ρ.set i s) (σ.set i (some (V.ref p))) H ∧ Own pm (ρ.set i s) (σ.set i (some (V.ref p))) := by
  obtain ⟨l1, l2, l3, l4⟩ := l
  have at_ : ∀ {j : Nat} {t : Slot}, (ρ.set i s)[j]? = some t → (j = i ∧ t = s ∧ (σ.set i (some (V.ref p)))[j]? = some (some (V.ref p))) ∨ (j ≠ i ∧ ρ[j]? = some t ∧ (σ.set i (some (V.ref p)))[j]? = σ[j]?) := fun {j t} h => by
    by_cases ej : j = i
    · subst ej
      have hl : j < ρ.length := by
        have := (List.getElem?_eq_some_iff.mp h).1
        simpa using this
      rw [List.getElem?_set_self hl] at h
      cases h
      exact .inl ⟨rfl, rfl, List.getElem?_set_self (by rw [← S.lenS]; exact hl)⟩
    · rw [List.getElem?_set_ne (Ne.symm ej)] at h
      exact .inr ⟨ej, h, List.getElem?_set_ne (Ne.symm ej)⟩
  refine ⟨⟨S.fz, S.f0, S.fnew, S.m0, S.mnew, S.keep, S.len, S.mem, S.muF, S.nod, by simp [S.lenS], fun j t e => ?_, fun j k t u a h1 h2 h3 h4 h5 h6 => ?_⟩, fun j t a h1 h2 h3 => ?_⟩
  · rcases at_ e with ⟨_, z, q⟩ | ⟨_, z, q⟩
    · rw [q, z]
      exact r
    · rw [q]
      exact S.slot j t z
  · rcases at_ h1 with ⟨ej, _, q1⟩ | ⟨_, z1, q1⟩ <;> rcases at_ h2 with ⟨ek, _, q2⟩ | ⟨_, z2, q2⟩ <;> rw [q1] at h5 <;> rw [q2] at h6
    · rw [ej, ek]
    · cases h5
      exact absurd h6 (l4 k u z2 h4)
    · cases h6
      exact absurd h5 (l4 j t z1 h3)
    · exact S.sep j k t u a z1 z2 h3 h4 h5 h6
  · rcases at_ h1 with ⟨_, _, q⟩ | ⟨_, z, q⟩ <;> rw [q] at h3
    · cases h3
      exact l3
    · exact W j t a z h2 h3
theorem Own.weak (W : Own pm ρ σ) (i : Nat) : Own pm (ρ.set i .non) σ := fun j t a h1 h2 h3 => by
  by_cases ej : j = i
  · subst ej
    have hl : j < ρ.length := by
      have := (List.getElem?_eq_some_iff.mp h1).1
      simpa using this
    rw [List.getElem?_set_self hl] at h1
    cases h1
    cases h2
  · rw [List.getElem?_set_ne (Ne.symm ej)] at h1
    exact W j t a h1 h2 h3
end
/-- what is wanted behind: by how it ended -/
def Kont (L : Lk) (pm : Pm) (F : Hp) (μ : List Addr) (D : Ends) : Out → Prop
  | .nx ρ' M' => ∀ F' μ' σ' H', Stt L pm F' μ' M' ρ' σ' H' → Own pm ρ' σ' → Sub F F' → μ <+: μ' → D.nx σ' H'
  | .rt v M' => ∀ F' μ' H' x, Stt L pm F' μ' M' [] [] H' → Sub F F' → μ <+: μ' → RepV L F' μ' x v → D.rt x H'
theorem Kont.mono {L : Lk} {pm : Pm} {F F' : Hp} {μ μ' : List Addr} {D : Ends} {o : Out} (k : Kont L pm F μ D o) (s : Sub F F') (p : μ <+: μ') : Kont L pm F' μ' D o := by
  cases o with
  | nx ρ' M' => exact fun F2 μ2 σ' H' S W s2 p2 => k F2 μ2 σ' H' S W (s.trans s2) (p.trans p2)
  | rt v M' => exact fun F2 μ2 H' x S s2 p2 r => k F2 μ2 H' x S (s.trans s2) (p.trans p2) r
def tS (L : Lk) (pm : Pm) (c : Slots → Mem → Option Out) : TS := fun D σ H => ∃ F μ M ρ o, Stt L pm F μ M ρ σ H ∧ Own pm ρ σ ∧ c ρ M = some o ∧ Kont L pm F μ D o
section
variable {X : Cx} {L : Lk} {cf : CallF} {pm : Pm} {a b c d : E} {s1 s2 : S} {e o : Expr} {st : Stmt} {sts : List Stmt} {p pos pos' : Pos}
theorem _root_.L2.PS.imp {t u : TS} (h : PS X st t) (k : ∀ D σ H, u D σ H → t D σ H) : PS X st u := ⟨fun pins s σ H D I q => h.run pins s σ H D I (k D σ H q)⟩
theorem _root_.L2.PSs.imp {t u : TS} (h : PSs X sts t) (k : ∀ D σ H, u D σ H → t D σ H) : PSs X sts u := ⟨fun pins s σ H D I q => h.run pins s σ H D I (k D σ H q)⟩
theorem ss_nil : PSs X [] (tS L pm (evS cf .nil)) := pss_nil.imp fun D σ H ⟨F, μ, M, ρ, o, S, W, e, k⟩ => by
  cases e
  exact k F μ σ H S W (Sub.refl _) List.prefix_rfl
theorem seq_inv {a b : S} {ρ : Slots} {M : Mem} {o : Out} (h : evS cf (.cons a b) ρ M = some o) : (∃ ρ1 M1, evS cf a ρ M = some (.nx ρ1 M1) ∧ evS cf b ρ1 M1 = some o) ∨ (∃ v M1, evS cf a ρ M = some (.rt v M1) ∧ o = .rt v M1) := by
  have h : (match evS cf a ρ M with
    | some (.nx ρ1 M1) => evS cf b ρ1 M1
    | r => r) = some o := h
  cases q : evS cf a ρ M with
  | none =>
    rw [q] at h
    cases h
  | some o1 =>
    rw [q] at h
    cases o1 with
    | nx ρ1 M1 => exact .inl ⟨ρ1, M1, rfl, h⟩
    | rt v M1 =>
      cases h
      exact .inr ⟨v, M1, rfl, rfl⟩
theorem ss_cons {t : Stmt} (h1 : PS X t (tS L pm (evS cf s1))) (h2 : PSs X sts (tS L pm (evS cf s2))) : PSs X (t :: sts) (tS L pm (evS cf (.cons s1 s2))) := (pss_cons h1 h2).imp fun D σ H ⟨F, μ, M, ρ, o, S, W, e, k⟩ => by
  rcases seq_inv e with ⟨ρ1, M1, e1, e2⟩ | ⟨v, M1, e1, rfl⟩
  · exact ⟨F, μ, M, ρ, _, S, W, e1, fun F' μ' σ' H' S' W' s p => ⟨F', μ', M1, ρ1, o, S', W', e2, k.mono s p⟩⟩
  · exact ⟨F, μ, M, ρ, _, S, W, e1, k⟩
/-- a ghost step ahead -/
theorem ss_ghost (hg : ∀ D σ H, tS L pm (evS cf (.cons s1 s2)) D σ H → tS L pm (evS cf s2) D σ H) (h2 : PSs X sts (tS L pm (evS cf s2))) : PSs X sts (tS L pm (evS cf (.cons s1 s2))) := h2.imp hg
theorem ghost_frz {i : Nat} {D : Ends} {σ : L2.St} {H : Hp} (h : tS L pm (evS cf (.cons (.frz i) s2)) D σ H) : tS L pm (evS cf s2) D σ H := by
  obtain ⟨F, μ, M, ρ, o, S, W, e, k⟩ := h
  rcases seq_inv e with ⟨ρ1, M1, e1, e2⟩ | ⟨v, M1, e1, rfl⟩
  · have e1 : (match ρ[i]? with
    | some (.own xs) => some (Out.nx (ρ.set i (.val (.lst xs))) M)
    | some (.ownD ks vs) => some (.nx (ρ.set i (.val (.dct ks vs))) M)
    | some (.val v) => some (.nx ρ M)
    | _ => none) = some (.nx ρ1 M1) := e1
    cases hs : ρ[i]? with
    | none =>
      rw [hs] at e1
      cases e1
    | some s =>
      rw [hs] at e1
      have q := S.slot i s hs
      cases s with
      | non => cases e1
      | val v =>
        cases e1
        exact ⟨F, μ, M, ρ, o, S, W, e2, k⟩
      | own xs =>
        cases e1
        obtain ⟨c, vs, h1, h2, h3, h4, h5⟩ := q
        have sb := Sub.upd h4 (HO.lst vs)
        obtain ⟨S', W'⟩ := S.freeze W (.lst xs) hs rfl h1 h2 (.lst upd_same (h3.mono sb List.prefix_rfl))
        exact ⟨_, μ, M, _, o, S', W', e2, k.mono sb List.prefix_rfl⟩
      | ownD ks vs =>
        cases e1
        obtain ⟨c, kvs, h1, h2, h3, h4, h5, h6⟩ := q
        have sb := Sub.upd h5 (HO.dK kvs)
        obtain ⟨S', W'⟩ := S.freeze W (.dct ks vs) hs rfl h1 h2 (.dct upd_same h3 (h4.mono sb List.prefix_rfl))
        exact ⟨_, μ, M, _, o, S', W', e2, k.mono sb List.prefix_rfl⟩
  · exfalso
    have e1 : (match ρ[i]? with
    | some (.own xs) => some (Out.nx (ρ.set i (.val (.lst xs))) M)
    | some (.ownD ks vs) => some (.nx (ρ.set i (.val (.dct ks vs))) M)
    | some (.val v) => some (.nx ρ M)
    | _ => none) = some (.rt v M1) := e1
    split at e1 <;> cases e1
/-! ### small statements -/
theorem s_ret (ha : PE X e (tv L pm (evE cf a))) : PS X (.Return (some e) pos) (tS L pm (evS cf (.ret a))) := (ps_ret ha).imp fun D σ H ⟨F, μ, M, ρ, o, S, W, e1, k⟩ => by
  obtain ⟨v, M1, e2, e3⟩ := bnd_inv e1
  cases e3
  exact ⟨F, μ, M, ρ, v, M1, S, e2, fun F' μ' H' x S' s p r => k F' μ' H' x S'.bare s p r⟩
theorem s_retN : PS X (.Return none pos) (tS L pm (evS cf .retN)) := ps_retN.imp fun D σ H ⟨F, μ, M, ρ, o, S, W, e1, k⟩ => by
  cases e1
  exact k F μ H .non S.bare (Sub.refl _) List.prefix_rfl .non
theorem s_ex (ha : PE X e (tv L pm (evE cf a))) (hs : swapsWith e none pos.line X.env = pure false) : PS X (.Expr e pos) (tS L pm (evS cf (.ex a))) := (ps_expr ha hs).imp fun D σ H ⟨F, μ, M, ρ, o, S, W, e1, k⟩ => by
  obtain ⟨v, M1, e2, e3⟩ := bnd_inv e1
  cases e3
  exact ⟨F, μ, M, ρ, v, M1, S, e2, fun F' μ' H' x S' s p r => k F' μ' σ H' S' W s p⟩
theorem s_if {t1 t2 : List Stmt} (hc : PT X e (tt L pm (evE cf c))) (h1 : PSs X t1 (tS L pm (evS cf s1))) (h2 : PSs X t2 (tS L pm (evS cf s2))) : PS X (.If e t1 t2 pos) (tS L pm (evS cf (.ite c s1 s2))) := (ps_if hc h1 h2).imp fun D σ H ⟨F, μ, M, ρ, o, S, W, e1, k⟩ => by
  obtain ⟨v, M1, e2, e3⟩ := bnd_inv e1
  cases v with
  | bl i =>
    refine ⟨F, μ, M, ρ, i, M1, S, e2, fun F' μ' H' S' s p => ?_⟩
    cases i with
    | true => exact ⟨F', μ', M1, ρ, o, S', W, e3, k.mono s p⟩
    | false => exact ⟨F', μ', M1, ρ, o, S', W, e3, k.mono s p⟩
  | _ => cases e3
/-- a value is wanted of what is a new list -/
theorem tf_tv {σ : L2.St} {H : Hp} {Q : VK} (hl : ∀ ρ M v M', evE cf a ρ M = some (v, M') → ∃ xs, v = .lst xs) (h : tv L pm (evE cf a) σ H Q) : tf L pm (evE cf a) σ H Q := by
  obtain ⟨F, μ, M, ρ, v, M', S, e1, k⟩ := h
  obtain ⟨xs, rfl⟩ := hl _ _ _ _ e1
  refine ⟨F, μ, M, ρ, xs, M', S, e1, fun F1 μ1 H1 q vs S1 s1 p1 r1 hq lo => ?_⟩
  obtain ⟨S2, sb⟩ := S1.freezeL hq lo
  exact k _ μ1 H1 _ S2 (s1.trans sb) p1 (.lst upd_same (r1.mono sb List.prefix_rfl))
/-- name = value -/
theorem at_asg {i : Nat} {D : Ends} {σ : L2.St} {H : Hp} (h : tS L pm (evS cf (.asg i a)) D σ H) : tv L pm (evE cf a) σ H fun x H1 => gName i x σ H1 D.nx := by
  obtain ⟨F, μ, M, ρ, o, S, W, e1, k⟩ := h
  obtain ⟨v, M1, e2, e3⟩ := bnd_inv e1
  cases e3
  exact ⟨F, μ, M, ρ, v, M1, S, e2, fun F' μ' H' x S' s p r => k F' μ' _ H' (S'.setVal i r) (W.setVal i v x) s p⟩
/-- name = a new list -/
theorem at_own {i : Nat} {D : Ends} {σ : L2.St} {H : Hp} (h : tS L pm (evS cf (.own i a)) D σ H) : fresh a = true ∧ tf L pm (evE cf a) σ H fun x H1 => gName i x σ H1 D.nx := by
  obtain ⟨F, μ, M, ρ, o, S, W, e1, k⟩ := h
  have e1 : (if fresh a = true then bnd (evE cf a ρ M) fun v M1 => (match v with
      | .lst xs => some (Out.nx (ρ.set i (.own xs)) M1)
      | _ => none) else none) = some o := e1
  split at e1
  · rename_i hf
    obtain ⟨v, M1, e2, e3⟩ := bnd_inv e1
    cases v with
    | lst xs =>
      cases e3
      refine ⟨hf, F, μ, M, ρ, xs, M1, S, e2, fun F' μ' H' q vs S' s p r hq lo => ?_⟩
      obtain ⟨S2, W2⟩ := S'.setLoose W i (s := .own xs) rfl lo ⟨q, vs, rfl, hq, r, lo.1, lo.2.1⟩
      exact k F' μ' _ H' S2 W2 s p
    | _ => cases e3
  · cases e1
/-- name = {} -/
theorem at_ownD {i : Nat} {D : Ends} {σ : L2.St} {H : Hp} (h : tS L pm (evS cf (.ownD i)) D σ H) : tDNewK σ H fun x H1 => gName i x σ H1 D.nx := by
  obtain ⟨F, μ, M, ρ, o, S, W, e1, k⟩ := h
  cases e1
  intro q hq
  obtain ⟨S', lo⟩ := S.loose hq (HO.dK [])
  obtain ⟨S2, W2⟩ := S'.setLoose W i (s := .ownD [] []) rfl lo ⟨q, [], rfl, upd_same, rfl, .nil, lo.1, lo.2.1⟩
  exact k F μ _ _ S2 W2 (Sub.refl _) List.prefix_rfl
end
end Ev
end
section -- Sound21
/-! Sound21: stores into lists, dicts, fields. -/
namespace Ev
open PySem PySem.Spec PyProof.Rows L2
def xf (L : Lk) (c : Cp) : TE := fun σ H Q => ∃ pm, tf L pm c σ H Q
theorem pf_x {X : Cx} {L : Lk} {c : Cp} {e : Expr} (h : ∀ pm, PE X e (tf L pm c)) : PE X e (xf L c) := ⟨fun pins s σ H Q I ⟨pm, q⟩ => (h pm).run pins s σ H Q I q⟩
/-- what a store leaves -/
theorem putF_rep {L : Lk} {F : Hp} {μ : List Addr} {f : Str} {y : V} {w : PV} (r : RepV L F μ y w) : ∀ {gs : List (Str × V)} {fs : List (Str × PV)}, gs.map (·.1) = fs.map (·.1) → RepVs L F μ (gs.map (·.2)) (fs.map (·.2)) → (L2.putF f y gs).map (·.1) = (Ev.putF f w fs).map (·.1) ∧ RepVs L F μ ((L2.putF f y gs).map (·.2)) ((Ev.putF f w fs).map (·.2))
  | [], [], _, _ => ⟨rfl, .cons r .nil⟩
  | [], _ :: _, h, _ => by simp at h
  | _ :: _, [], h, _ => by simp at h
  | (g, y') :: gs, (g', z) :: fs, h, q => by
    simp only [List.map_cons, List.cons.injEq] at h
    obtain ⟨h1, h2⟩ := h
    subst h1
    cases q with
    | cons q1 q2 =>
      unfold L2.putF Ev.putF
      by_cases e : g = f
      · rw [if_pos e, if_pos e]
        exact ⟨by simp only [List.map_cons, h2], .cons r q2⟩
      · rw [if_neg e, if_neg e]
        obtain ⟨k1, k2⟩ := putF_rep r h2 q2
        exact ⟨by simp only [List.map_cons, k1], .cons q1 k2⟩
theorem any_put (q : Key) : ∀ (kvs : List (Key × V)), ((kvs.map fun p => kP p.1).any fun k => eqv k (kP q)) = (kvs.any fun kv => decide (kv.1 = q))
  | [] => rfl
  | p :: kvs => by
    rw [List.map_cons, List.any_cons, List.any_cons, any_put q kvs, eqv_kP]
theorem map_put {L : Lk} {F : Hp} {μ : List Addr} {y : V} {w : PV} (r : RepV L F μ y w) (q : Key) : ∀ {kvs : List (Key × V)} {vs : List PV}, RepVs L F μ (kvs.map (·.2)) vs →
    (kvs.map fun kv => if kv.1 = q then (kv.1, y) else kv).map (·.1) = kvs.map (·.1) ∧ RepVs L F μ ((kvs.map fun kv => if kv.1 = q then (kv.1, y) else kv).map (·.2)) (dmap (kvs.map fun p => kP p.1) vs (kP q) w)
  | [], _, h => by
    cases h
    exact ⟨rfl, .nil⟩
  | p :: kvs, _, h => by
    cases h with
    | cons h1 h2 =>
      obtain ⟨k1, k2⟩ := map_put r q h2
      simp only [List.map_cons, dmap]
      rw [eqv_kP]
      by_cases e : p.1 = q
      · rw [if_pos e, if_pos (decide_eq_true e), k1]
        exact ⟨rfl, .cons r k2⟩
      · rw [if_neg e, if_neg (by simpa using e), k1]
        exact ⟨rfl, .cons h1 k2⟩
theorem put_rep {L : Lk} {F : Hp} {μ : List Addr} {y : V} {w : PV} (r : RepV L F μ y w) (q : Key) {kvs : List (Key × V)} {ks vs : List PV} (hk : ks = kvs.map (fun p => kP p.1)) (h : RepVs L F μ (kvs.map (·.2)) vs) :
    (dput ks vs (kP q) w).1 = (putK kvs q y).map (fun p => kP p.1) ∧ RepVs L F μ ((putK kvs q y).map (·.2)) (dput ks vs (kP q) w).2 := by
  subst hk
  unfold dput putK
  rw [any_put]
  by_cases e : (kvs.any fun kv => decide (kv.1 = q)) = true
  · rw [if_pos e, if_pos e]
    obtain ⟨k1, k2⟩ := map_put r q h
    refine ⟨?_, k2⟩
    have e : (fun p : Key × V => kP p.1) = kP ∘ Prod.fst := rfl
    show kvs.map (fun p => kP p.1) = (kvs.map fun kv => if kv.1 = q then (kv.1, y) else kv).map fun p => kP p.1
    rw [e, ← List.map_map, ← List.map_map]
    exact (congrArg (List.map kP) k1).symm
  · rw [if_neg e, if_neg e]
    refine ⟨by simp, ?_⟩
    rw [List.map_append]
    exact h.append (.cons r .nil)
theorem lset_rep {L : Lk} {F : Hp} {μ : List Addr} {y : V} {v k : PV} {xs ys : List PV} {vs : List V} (r : RepVs L F μ vs xs) (ry : RepV L F μ y v) (h : lset xs k v = some ys) : ∃ i j, k = .int i ∧ ixN vs.length i = some j ∧ RepVs L F μ (vs.set j y) ys := by
  unfold lset at h
  cases k with
  | int i =>
    obtain ⟨j, h1, h2⟩ := Option.map_eq_some_iff.mp h
    subst h2
    exact ⟨i, j, rfl, by rw [r.length]; exact h1, r.set ry j⟩
  | _ => cases h
def rStA : TSet := fun o i v H Q => rSetL o i v H Q ∨ rSetD o i v H Q
section
variable {X : Cx} {L : Lk} {cf : CallF} {pm : Pm} {a b c d : E} {e o : Expr} {p pos pos' : Pos}
theorem set_any (hu : X.A.units + 1 < cLine) : PSet X rStA := by
  intro pins s σ H o i v ov iv u Q I ro ri rv h
  rcases h with h | h
  · exact set_list pins s σ H o i v ov iv u Q I ro ri rv h
  · exact set_dict hu pins s σ H o i v ov iv u Q I ro ri rv h
/-- into a thing of the store -/
theorem at_setItem {F : Hp} {μ : List Addr} {M M1 : Mem} {ρ : Slots} {σ : L2.St} {H : Hp} {y w vx : V} {x kv v : PV} {Q : Hp → Prop} (S : Stt L pm F μ M ρ σ H) (ry : RepV L F μ y x) (rk : RepV L F μ w kv) (rv : RepV L F μ vx v) (h : setItemV M x kv v = some M1)
    (k : ∀ H', Stt L pm F μ M1 ρ σ H' → Q H') : rStA y w vx H Q := by
  unfold setItemV at h
  cases x with
  | ref j =>
    obtain ⟨q, rfl, hq⟩ := ry.inv_ref
    cases hm : M[j]? with
    | none => simp [hm] at h
    | some m =>
      obtain ⟨ob, hob, hr⟩ := S.mem j q _ hq hm
      cases m with
      | lst xs =>
        simp only [hm] at h
        obtain ⟨ys, h1, rfl⟩ := Option.map_eq_some_iff.mp h
        cases ob <;> first
          | exact False.elim hr
          | (obtain ⟨i, jj, rfl, h2, h3⟩ := lset_rep hr rv h1
             exact .inl ⟨q, _, i, jj, rfl, rk.inv_int, hob, h2, k _ (S.store hq h3)⟩)
      | dct ks vs =>
        simp only [hm] at h
        split at h
        · rename_i hh
          simp only [Bool.and_eq_true, decide_eq_true_eq] at hh
          cases h
          obtain ⟨kq, rfl⟩ := keyOk_kP hh.1
          cases ob <;> first
            | exact False.elim hr
            | (obtain ⟨h1, h2⟩ := hr
               obtain ⟨h3, h4⟩ := put_rep rv kq h1 h2
               obtain rfl := WRep.key (ρ := ρ) (σ := σ) (.of rk)
               refine .inr ⟨q, _, rfl, DPut.k hob ?_, k _ (S.store hq ⟨h3, h4⟩)⟩
               rw [h1, List.length_map] at hh
               exact hh.2)
        · cases h
      | ins cn fs => simp [hm] at h
  | _ => cases h
/-- into one's own -/
theorem at_setSlot {F : Hp} {μ : List Addr} {M : Mem} {ρ ρ1 : Slots} {σ : L2.St} {H : Hp} {i : Nat} {w vx y : V} {kv v : PV} {Q : Hp → Prop} (S : Stt L pm F μ M ρ σ H) (W : Own pm ρ σ) (hy : σ[i]? = some (some y)) (rk : RepV L F μ w kv) (rv : RepV L F μ vx v) (h : setSlotV ρ i kv v = some ρ1)
    (k : ∀ H', Stt L pm F μ M ρ1 σ H' → Own pm ρ1 σ → Q H') : rStA y w vx H Q := by
  unfold setSlotV at h
  cases hs : ρ[i]? with
  | none => simp [hs] at h
  | some s =>
    have q := S.slot i s hs
    cases s with
    | own xs =>
      simp only [hs] at h
      obtain ⟨ys, h1, rfl⟩ := Option.map_eq_some_iff.mp h
      obtain ⟨c, vs, e1, e2, e3, e4, e5⟩ := q
      rw [hy] at e1
      cases e1
      obtain ⟨n, jj, rfl, h2, h3⟩ := lset_rep e3 rv h1
      obtain ⟨S', W'⟩ := S.chgOwn W (s' := .own ys) (o := .lst (vs.set jj vx)) hs rfl rfl hy ⟨c, _, rfl, upd_same, h3, e4, e5⟩
      exact .inl ⟨c, vs, n, jj, rfl, rk.inv_int, e2, h2, k _ S' W'⟩
    | ownD ks vs =>
      simp only [hs] at h
      split at h
      · rename_i hh
        simp only [Bool.and_eq_true, decide_eq_true_eq] at hh
        cases h
        obtain ⟨kq, rfl⟩ := keyOk_kP hh.1
        obtain ⟨c, kvs, e1, e2, e3, e4, e5, e6⟩ := q
        rw [hy] at e1
        cases e1
        obtain ⟨h3, h4⟩ := put_rep rv kq e3 e4
        obtain rfl := WRep.key (ρ := ρ) (σ := σ) (.of rk)
        obtain ⟨S', W'⟩ := S.chgOwn W (s' := .ownD (dput ks vs (kP kq) v).1 (dput ks vs (kP kq) v).2) (o := .dK (putK kvs kq vx)) hs rfl rfl hy ⟨c, _, rfl, upd_same, h3, h4, e5, e6⟩
        refine .inr ⟨c, _, rfl, DPut.k e2 ?_, k _ S' W'⟩
        rw [e3, List.length_map] at hh
        exact hh.2
      · cases h
    | non => simp [hs] at h
    | val z => simp [hs] at h
/-- a target: name, item, field -/
def tA (L : Lk) (cf : CallF) (ts : E) : TG := fun v σ H Q => ∃ pm F μ M ρ z ρ1 M1, Stt L pm F μ M ρ σ H ∧ Own pm ρ σ ∧ RepV L F μ v z ∧ asgT cf z ts ρ M = some (ρ1, M1) ∧
  ∀ F' μ' H' σ1, Stt L pm F' μ' M1 ρ1 σ1 H' → Own pm ρ1 σ1 → Sub F F' → μ <+: μ' → Q σ1 H'
def tAs (L : Lk) (cf : CallF) (ts : E) : TGs := fun vs σ H Q => ∃ pm F μ M ρ zs ρ1 M1, Stt L pm F μ M ρ σ H ∧ Own pm ρ σ ∧ RepVs L F μ vs zs ∧ asgMany cf ts zs ρ M = some (ρ1, M1) ∧
  ∀ F' μ' H' σ1, Stt L pm F' μ' M1 ρ1 σ1 H' → Own pm ρ1 σ1 → Sub F F' → μ <+: μ' → Q σ1 H'
theorem pa_name {i : Nat} {x : Str} (hN : X.N.Nodup) (hi : X.N[i]? = some x) (hx : Loc X.env.scope x) (hf : X.fn x = true ∨ X.env.scope.names.lookup x = some .local) : PG X (.Name x pos) (tA L cf (.var i)) := by
  refine (pg_name hN hi hx hf).imp fun v σ H Q ⟨pm, F, μ, M, ρ, z, ρ1, M1, S, W, r, e1, k⟩ => ?_
  cases e1
  exact k F μ H _ (S.setVal i r) (W.setVal i z v) (Sub.refl _) List.prefix_rfl
/-- an item of what a name holds -/
theorem pa_item {i : Nat} {ek : Expr} (hu : X.A.units + 1 < cLine) (ho : PE X o (tVar i)) (hk : PE X ek (xv L (evE cf b))) (ha : ∀ v, assign (.Subscript o ek pos) X.env v = (do
      let ov ← holding [v] (eval o X.env)
      let iv ← holding [v, ov] (eval ek X.env)
      standAt pos
      holding [v, ov, iv] (setItem ov iv v)
      release [v, ov, iv] [])) : PG X (.Subscript o ek pos) (tA L cf (.idx (.var i) b)) := by
  refine (pg_sub ho hk (set_any hu) ha).imp fun v σ H Q ⟨pm, F, μ, M, ρ, z, ρ1, M1, S, W, r, e1, k⟩ => ?_
  have e1 : (match ρ[i]? with
    | some (.val x) => bnd (evE cf b ρ M) fun kv M1 => (setItemV M1 x kv z).map (ρ, ·)
    | _ => bnd (evE cf b ρ M) fun kv M1 => (setSlotV ρ i kv z).map (·, M1)) = some (ρ1, M1) := e1
  cases hs : ρ[i]? with
  | none =>
    rw [hs] at e1
    obtain ⟨kv, M2, e2, e3⟩ := bnd_inv e1
    obtain ⟨ρ2, e4, e5⟩ := Option.map_eq_some_iff.mp e3
    simp [setSlotV, hs] at e4
  | some s =>
    have q := S.slot i s hs
    rw [hs] at e1
    cases s with
    | val x =>
      obtain ⟨kv, M2, e2, e3⟩ := bnd_inv e1
      obtain ⟨M3, e4, e5⟩ := Option.map_eq_some_iff.mp e3
      obtain ⟨y, e6, ry⟩ := q
      cases e5
      exact ⟨y, e6, pm, F, μ, M, ρ, kv, M2, S, e2, fun F1 μ1 H1 w S1 s1 p1 rk => at_setItem S1 (ry.mono s1 p1) rk (r.mono s1 p1) e4 fun H2 S2 => k F1 μ1 H2 σ S2 W s1 p1⟩
    | non =>
      obtain ⟨kv, M2, e2, e3⟩ := bnd_inv e1
      obtain ⟨ρ2, e4, e5⟩ := Option.map_eq_some_iff.mp e3
      simp [setSlotV, hs] at e4
    | own xs =>
      obtain ⟨kv, M2, e2, e3⟩ := bnd_inv e1
      obtain ⟨ρ2, e4, e5⟩ := Option.map_eq_some_iff.mp e3
      cases e5
      obtain ⟨c, vs, e6, _⟩ := q
      exact ⟨_, e6, pm, F, μ, M, ρ, kv, M1, S, e2, fun F1 μ1 H1 w S1 s1 p1 rk => at_setSlot S1 W e6 rk (r.mono s1 p1) e4 fun H2 S2 W2 => k F1 μ1 H2 σ S2 W2 s1 p1⟩
    | ownD ks vs =>
      obtain ⟨kv, M2, e2, e3⟩ := bnd_inv e1
      obtain ⟨ρ2, e4, e5⟩ := Option.map_eq_some_iff.mp e3
      cases e5
      obtain ⟨c, kvs, e6, _⟩ := q
      exact ⟨_, e6, pm, F, μ, M, ρ, kv, M1, S, e2, fun F1 μ1 H1 w S1 s1 p1 rk => at_setSlot S1 W e6 rk (r.mono s1 p1) e4 fun H2 S2 W2 => k F1 μ1 H2 σ S2 W2 s1 p1⟩
/-- an item of something else -/
theorem pa_item2 {ek : Expr} (hu : X.A.units + 1 < cLine) (hv : ∀ i, a ≠ .var i) (ho : PE X o (xv L (evE cf a))) (hk : PE X ek (xv L (evE cf b))) (ha : ∀ v, assign (.Subscript o ek pos) X.env v = (do
      let ov ← holding [v] (eval o X.env)
      let iv ← holding [v, ov] (eval ek X.env)
      standAt pos
      holding [v, ov, iv] (setItem ov iv v)
      release [v, ov, iv] [])) : PG X (.Subscript o ek pos) (tA L cf (.idx a b)) := by
  refine (pg_sub ho hk (set_any hu) ha).imp fun v σ H Q ⟨pm, F, μ, M, ρ, z, ρ1, M1, S, W, r, e1, k⟩ => ?_
  have e1 : (bnd (evE cf a ρ M) fun x M1 => bnd (evE cf b ρ M1) fun kv M2 => (setItemV M2 x kv z).map (ρ, ·)) = some (ρ1, M1) := by
    cases a <;> first
      | exact e1
      | exact absurd rfl (hv _)
  obtain ⟨x, M2, e2, e3⟩ := bnd_inv e1
  obtain ⟨kv, M3, e4, e5⟩ := bnd_inv e3
  obtain ⟨M4, e6, e7⟩ := Option.map_eq_some_iff.mp e5
  cases e7
  exact ⟨pm, F, μ, M, ρ, x, M2, S, e2, fun F1 μ1 H1 y S1 s1 p1 ry => ⟨pm, F1, μ1, M2, ρ, kv, M3, S1, e4, fun F2 μ2 H2 w S2 s2 p2 rk => at_setItem S2 (ry.mono s2 p2) rk (r.mono (s1.trans s2) (p1.trans p2)) e6 fun H3 S3 => k F2 μ2 H3 σ S3 W (s1.trans s2) (p1.trans p2)⟩⟩
/-! ### fields -/
def gFld (K : PySem.W.Frag) (ta : TE) (f : Str) : TG := fun y σ H Q => ta σ H fun x H2 => ∃ a C dx fs, x = .ref a ∧ H2 a = some (.ins C dx fs) ∧ Cls K C ∧ NoAttr K C f ∧ fs.length < 1000 ∧ Q σ (upd H2 a (.ins C dx (L2.putF f y fs)))
theorem pg_fld {f : Str} {ta : TE} (ha : PE X o ta) : PG X (.Attribute o f pos) (gFld X.K ta f) := by
  refine ⟨fun pins s σ H v u Q I r h => ?_⟩
  show wpAny _ _ (do
    let ov ← holding [u] (eval o X.env)
    standAt pos.atName
    holding [u, ov] (setAttr ov f u)
    release [u, ov] []) _ _ s
  refine wpAny_bind (wpAny_holding (thn (ha.run pins s σ H _ I h) fun ov s1 ⟨x, H1, I1, r1, w, C, dx, fs, ex, ew, c, n, l, q⟩ => ?_))
  subst ex
  obtain rfl : ov = Value.ref w := r1
  exact wpAny_bind (wpAny_standAt (wpAny_bind (wpAny_holding (setattr_ok I1 ew c n l r fun s2 I2 => wpAny_release ⟨σ, _, I2, q⟩))))
theorem pa_fld {f : Str} (hK : X.K = L.K) (hcl : ∀ c C, L.cls c = some C → Cls X.K C ∧ NoAttr X.K C f) (ho : PE X o (xv L (evE cf a))) : PG X (.Attribute o f pos) (tA L cf (.fld a f)) := by
  refine (pg_fld ho).imp fun v σ H Q ⟨pm, F, μ, M, ρ, z, ρ1, M1, S, W, r, e1, k⟩ => ?_
  obtain ⟨x, M2, e2, e3⟩ := bnd_inv e1
  obtain ⟨M4, e6, e7⟩ := Option.map_eq_some_iff.mp e3
  cases e7
  refine ⟨pm, F, μ, M, ρ, x, M2, S, e2, fun F1 μ1 H1 y S1 s1 p1 ry => ?_⟩
  unfold setFldV at e6
  cases x with
  | ref j =>
    obtain ⟨q, rfl, hq⟩ := ry.inv_ref
    cases hm : M2[j]? with
    | none => simp [hm] at e6
    | some m =>
      obtain ⟨ob, hob, hr⟩ := S1.mem j q _ hq hm
      cases m with
      | ins cn fs =>
        simp only [hm] at e6
        split at e6
        · rename_i hl
          cases e6
          cases ob <;> first
            | exact False.elim hr
            | skip
          rename_i C dx gs
          obtain ⟨h1, h2, h3⟩ := hr
          obtain ⟨c1, c2⟩ := hcl _ _ h1
          obtain ⟨k1, k2⟩ := putF_rep (f := f) (r.mono s1 p1) h2 h3
          have hlen : gs.length = fs.length := by
            have := congrArg List.length h2
            simpa using this
          exact ⟨q, C, dx, gs, rfl, hob, c1, c2, by omega, k F1 μ1 _ σ (S1.store hq ⟨h1, k1, k2⟩) W s1 p1⟩
        · cases e6
      | _ => simp [hm] at e6
  | _ => cases e6
theorem pas_nil : PGs X [] (tAs L cf .nil) := pgs_nil.imp fun vs σ H Q ⟨pm, F, μ, M, ρ, zs, ρ1, M1, S, W, r, e1, k⟩ => by
  cases r with
  | nil =>
    cases e1
    exact ⟨rfl, k F μ H σ S W (Sub.refl _) List.prefix_rfl⟩
  | cons _ _ => cases e1
theorem pas_cons {es : List Expr} (h1 : PG X e (tA L cf a)) (h2 : PGs X es (tAs L cf b)) (hs : (assignEach (e :: es) X.env).map (·.2) = assign e X.env :: (assignEach es X.env).map (·.2)) : PGs X (e :: es) (tAs L cf (.cons a b)) :=
  (pgs_cons h1 h2 hs).imp fun vs σ H Q ⟨pm, F, μ, M, ρ, zs, ρ1, M1, S, W, r, e1, k⟩ => by
    cases r with
    | nil => cases e1
    | @cons v z vs zs r rr =>
      obtain ⟨⟨ρ2, M2⟩, e2, e3⟩ := Option.bind_eq_some_iff.mp (show (asgT cf z a ρ M).bind (fun r => asgMany cf b zs r.1 r.2) = some _ from e1)
      exact ⟨v, vs, rfl, pm, F, μ, M, ρ, z, ρ2, M2, S, W, r, e2, fun F1 μ1 H1 σ1 S1 W1 s1 p1 => ⟨pm, F1, μ1, M2, ρ2, zs, ρ1, M1, S1, W1, rr.mono s1 p1, e3, fun F2 μ2 H2 σ2 S2 W2 s2 p2 => k F2 μ2 H2 σ2 S2 W2 (s1.trans s2) (p1.trans p2)⟩⟩
theorem asgMany_len : ∀ {es : E} {zs : List PV} {ρ : Slots} {M : Mem} {r : Slots × Mem}, asgMany cf es zs ρ M = some r → zs.length = elen es := by
  intro es
  induction es with
  | nil =>
    intro zs ρ M r h
    cases zs with
    | nil => rfl
    | cons _ _ => cases h
  | cons a b _ ih =>
    intro zs ρ M r h
    cases zs with
    | nil => cases h
    | cons z zs =>
      obtain ⟨⟨ρ2, M2⟩, e2, e3⟩ := Option.bind_eq_some_iff.mp (show (asgT cf z a ρ M).bind (fun r => asgMany cf b zs r.1 r.2) = some _ from h)
      rw [List.length_cons, ih e3, elen]
  | _ =>
    intro zs ρ M r h
    cases zs <;> cases h
/-! ### the statements -/
theorem s_set {tg : Expr} (ha : PE X e (tv L pm (evE cf a))) (hg : PG X tg (tA L cf b)) (hs : swapsWithSole [tg] e pos.line X.env = pure false) (hw : swappedStores [tg] e X.env = pure none) (h1 : (assignEach [tg] X.env).map (·.2) = [assign tg X.env]) :
    PS X (.Assign [tg] e pos) (tS L pm (evS cf (.set b a))) := (ps_asg ha hg hs hw h1).imp fun D σ H ⟨F, μ, M, ρ, o, S, W, e1, k⟩ => by
  obtain ⟨v, M1, e2, e3⟩ := bnd_inv e1
  obtain ⟨⟨ρ2, M2⟩, e4, e5⟩ := Option.map_eq_some_iff.mp e3
  cases e5
  exact ⟨F, μ, M, ρ, v, M1, S, e2, fun F1 μ1 H1 x S1 s1 p1 r1 => ⟨pm, F1, μ1, M1, ρ, v, ρ2, M2, S1, W, r1, e4, fun F2 μ2 H2 σ2 S2 W2 s2 p2 => k F2 μ2 σ2 H2 S2 W2 (s1.trans s2) (p1.trans p2)⟩⟩
theorem s_multi {ts : List Expr} {n : Nat} {p2 : Pos} (hK : X.K = L.K) (hc : X.calm = true) (ha : PE X e (tv L pm (evE cf a))) (hg : PGs X ts (tAs L cf b)) (hn : (assignEach ts X.env).length = elen b) (hst : (assignEach ts X.env).findIdx? (·.1) = none)
    (hs : swapsWithSole [.Tuple ts n p2] e pos.line X.env = pure false) (hw : swappedStores [.Tuple ts n p2] e X.env = pure none) : PS X (.Assign [.Tuple ts n p2] e pos) (tS L pm (evS cf (.multi b a))) :=
  (ps_asg ha (pg_tup hc hg hn hst) hs hw).imp fun D σ H ⟨F, μ, M, ρ, o, S, W, e1, k⟩ => by
    obtain ⟨v, M1, e2, e3⟩ := bnd_inv e1
    cases v with
    | tup xs =>
      obtain ⟨⟨ρ2, M2⟩, e4, e5⟩ := Option.map_eq_some_iff.mp e3
      cases e5
      refine ⟨F, μ, M, ρ, _, M1, S, e2, fun F1 μ1 H1 x S1 s1 p1 r1 => ?_⟩
      obtain ⟨q, vs, rfl, h1, h2⟩ := r1.inv_tup
      refine ⟨q, vs, rfl, ?_, by rw [h2.length]; exact asgMany_len e4, pm, F1, μ1, M1, ρ, xs, ρ2, M2, S1, W, h2, e4, fun F2 μ2 H2 σ2 S2 W2 s2 p2 => k F2 μ2 σ2 H2 S2 W2 (s1.trans s2) (p1.trans p2)⟩
      rw [hK]
      exact SqT.sub S1.fz h1
    | _ => cases e3
end
end Ev
end
section -- Sound22
/-! Sound22: loops. -/
namespace Ev
open PySem PySem.Spec PyProof.Rows L2
/-- a while loop that ends, by its number of turns -/
inductive LR (c : Slots → Mem → R PV) (b : Slots → Mem → Option Out) : Nat → Slots → Mem → Out → Prop
  | stop {n : Nat} {ρ : Slots} {M M1 : Mem} : c ρ M = some (.bl false, M1) → LR c b n ρ M (.nx ρ M1)
  | ret {n : Nat} {ρ : Slots} {M M1 M2 : Mem} {v : PV} : c ρ M = some (.bl true, M1) → b ρ M1 = some (.rt v M2) → LR c b n ρ M (.rt v M2)
  | step {n : Nat} {ρ ρ2 : Slots} {M M1 M2 : Mem} {o : Out} : c ρ M = some (.bl true, M1) → b ρ M1 = some (.nx ρ2 M2) → LR c b n ρ2 M2 o → LR c b (n + 1) ρ M o
theorem loop_runs (c : Slots → Mem → R PV) (b : Slots → Mem → Option Out) : ∀ (ρ : Slots) (M : Mem) (o : Out), loopV c b ρ M = some o → ∃ n, LR c b n ρ M o := by
  refine loopV.partial_correctness c b (fun ρ M o => ∃ n, LR c b n ρ M o) ?_
  intro f ih ρ M o h
  split at h
  · rename_i M1 hc
    split at h
    · rename_i ρ2 M2 hb
      obtain ⟨n, q⟩ := ih _ _ _ h
      exact ⟨n + 1, .step hc hb q⟩
    · rename_i v M2 hb
      cases h
      exact ⟨0, .ret hc hb⟩
    · cases h
  · rename_i M1 hc
    cases h
    exact ⟨0, .stop hc⟩
  · cases h
section
variable {X : Cx} {L : Lk} {cf : CallF} {pm : Pm} {a b c d it tg : E} {s1 s2 : S} {e o te : Expr} {body : List Stmt} {p pos pos' : Pos}
theorem s_while (hp : PassesOwn (model X.prog X.w) X.A X.env X.xe) (hc : PT X e (tt L pm (evE cf c))) (hb : PSs X body (tS L pm (evS cf s1))) : PS X (.While e body [] pos) (tS L pm (evS cf (.whl c s1))) :=
  (ps_while hp hc hb).imp fun D σ H ⟨F, μ, M, ρ, o, S, W, e1, k⟩ => by
    obtain ⟨n, q⟩ := loop_runs _ _ _ _ _ (show loopV (evE cf c) (evS cf s1) ρ M = some o from e1)
    refine ⟨fun m σ H => ∃ F1 μ1 M1 ρ1, Stt L pm F1 μ1 M1 ρ1 σ H ∧ Own pm ρ1 σ ∧ LR (evE cf c) (evS cf s1) m ρ1 M1 o ∧ Sub F F1 ∧ μ <+: μ1, ⟨n, F, μ, M, ρ, S, W, q, Sub.refl _, List.prefix_rfl⟩, fun m σ H ⟨F1, μ1, M1, ρ1, S1, W1, q1, sb1, pb1⟩ => ?_⟩
    cases q1 with
    | stop hc =>
      exact ⟨F1, μ1, M1, ρ1, false, _, S1, hc, fun F2 μ2 H2 S2 s2 p2 => k F2 μ2 σ H2 S2 W1 (sb1.trans s2) (pb1.trans p2)⟩
    | ret hc hbd =>
      refine ⟨F1, μ1, M1, ρ1, true, _, S1, hc, fun F2 μ2 H2 S2 s2 p2 => ?_⟩
      dsimp only
      rw [if_pos rfl]
      exact ⟨fun _ _ => False, fun _ _ h => h.elim, F2, μ2, _, ρ1, _, S2, W1, hbd, fun F3 μ3 H3 x S3 s3 p3 r3 => k F3 μ3 H3 x S3 (sb1.trans (s2.trans s3)) (pb1.trans (p2.trans p3)) r3⟩
    | step hc hbd q2 =>
      refine ⟨F1, μ1, M1, ρ1, true, _, S1, hc, fun F2 μ2 H2 S2 s2 p2 => ?_⟩
      dsimp only
      rw [if_pos rfl]
      refine ⟨fun σ' H' => ∃ F1 μ1 M1 ρ1, Stt L pm F1 μ1 M1 ρ1 σ' H' ∧ Own pm ρ1 σ' ∧ LR (evE cf c) (evS cf s1) _ ρ1 M1 o ∧ Sub F F1 ∧ μ <+: μ1, fun σ' H' h => ⟨_, Nat.lt_succ_self _, h⟩, F2, μ2, _, ρ1, _, S2, W1, hbd, fun F3 μ3 σ3 H3 S3 W3 s3 p3 => ?_⟩
      exact ⟨F3, μ3, _, _, S3, W3, q2, sb1.trans (s2.trans s3), pb1.trans (p2.trans p3)⟩
theorem s_for (hp : PassesOwn (model X.prog X.w) X.A X.env X.xe) (hcalm : X.calm = true) (hi : PI X te e (ti L pm it (evI cf it))) (hg : PG X te (tG L tg)) (hb : PSs X body (tS L pm (evS cf s1))) (hs : ∀ x, foldedSetIterable e X.env x = pure x) :
    PS X (.For te e body [] pos) (tS L pm (evS cf (.for tg it s1))) :=
  (ps_for hp hcalm hi hg hb hs).imp fun D σ H ⟨F, μ, M, ρ, o, S, W, e1, k⟩ => by
    have e1 : (if itOwn ρ it = true then none else bnd (evI cf it ρ M) fun items M1 => forL tg (evS cf s1) items ρ M1) = some o := e1
    split at e1
    · cases e1
    · rename_i ho
      obtain ⟨items, M1, e2, e3⟩ := bnd_inv e1
      refine ⟨F, μ, M, ρ, items, M1, S, e2, fun F1 μ1 H1 J Z S1 sb1 pb1 jw hz hZ => ?_⟩
      obtain rfl := hZ (by simpa using ho)
      refine ⟨fun i m σ H => m = items.length - i ∧ i ≤ items.length ∧ ∃ F2 μ2 M2 ρ2, Stt L pm F2 μ2 M2 ρ2 σ H ∧ Own pm ρ2 σ ∧ forL tg (evS cf s1) (items.drop i) ρ2 M2 = some o ∧ Sub F1 F2 ∧ μ1 <+: μ2,
        ⟨items.length, rfl, Nat.zero_le _, F1, μ1, M1, ρ, S1, W, e3, Sub.refl _, List.prefix_rfl⟩, fun i m σ2 G ⟨em, hi, F2, μ2, M2, ρ2, S2, W2, ec, sb2, pb2⟩ => ?_⟩
      have sp : SrcP F1 μ1 [] F2 μ2 G := ⟨sb2, pb2, fun p hp => by simp at hp⟩
      obtain ⟨js, jg⟩ := jw pm i F2 μ2 M2 _ _ G S2 sp
      by_cases hlt : i < items.length
      · refine .inr ?_
        obtain ⟨go, yl⟩ := jg items[i] (List.getElem?_eq_getElem hlt)
        rw [drop_cons hlt] at ec
        obtain ⟨ρ3, e7, ec⟩ := Option.bind_eq_some_iff.mp (show (setTg tg items[i] ρ2).bind (fun ρ1 => match evS cf s1 ρ1 M2 with
          | some (.nx ρ2 M2) => forL tg (evS cf s1) (items.drop (i + 1)) ρ2 M2
          | r => r) = some o from ec)
        refine ⟨go, fun σ' G' => ∃ F2 μ2 M2 ρ2, Stt L pm F2 μ2 M2 ρ2 σ' G' ∧ Own pm ρ2 σ' ∧ forL tg (evS cf s1) (items.drop (i + 1)) ρ2 M2 = some o ∧ Sub F1 F2 ∧ μ1 <+: μ2, fun σ' G' hG => ⟨items.length - (i + 1), by omega, rfl, hlt, hG⟩, fun x G1 y1 => ?_⟩
        obtain ⟨F3, S5, s5, r5, sp5⟩ := yl x G1 y1
        refine ⟨pm, F3, μ2, M2, ρ2, items[i], ρ3, S5, r5, e7, fun σ3 S6 W6 _ _ => ?_⟩
        cases eb : evS cf s1 ρ3 M2 with
        | none =>
          rw [eb] at ec
          cases ec
        | some o1 =>
          rw [eb] at ec
          refine ⟨F3, μ2, M2, ρ3, o1, S6, W6 pm W2, eb, ?_⟩
          cases o1 with
          | nx ρ4 M4 => exact fun F4 μ4 σ4 H4 S7 W7 s7 p7 => ⟨F4, μ4, M4, ρ4, S7, W7, ec, sb2.trans (s5.trans s7), pb2.trans p7⟩
          | rt v M4 =>
            cases ec
            exact fun F4 μ4 H4 y S7 s7 p7 r7 => k F4 μ4 H4 y S7 (sb1.trans (sb2.trans (s5.trans s7))) (pb1.trans (pb2.trans p7)) r7
      · refine .inl ⟨js (by omega), ?_⟩
        have hi : i = items.length := by omega
        rw [hi, List.drop_length] at ec
        cases ec
        exact k F2 μ2 σ2 G S2 W2 (sb1.trans sb2) (pb1.trans pb2)
end
end Ev
end
section -- Sound23
/-! Sound23: lists that grow; names that get values. -/
namespace Ev
open PySem PySem.Spec PyProof.Rows L2
section
variable {X : Cx} {L : Lk} {cf : CallF} {pm : Pm} {a b c d : E} {e o : Expr} {p pos apos cpos : Pos}
theorem few_of {es : List Expr} {env : Env} (hs : es.all noStar = true) (hl : es.length < 30) : ((backTo cpos (starEach es env)).all (fun x => !x.1) && (backToKw cpos (keywordEach [] env)).all (fun x => x.1.isSome)
      && decide (es.length + ([] : List Keyword).length + (if ([] : List Keyword).isEmpty then 0 else 1) < 30)) = true := by
  rw [star_all hs]
  simp [backToKw, keywordEach, hl]
/-- xs.append(e) -/
theorem s_app {i : Nat} (hv : PE X o (tVar i)) (hb : plainBase o = true) (hl : (apos.endLine == cpos.line) = true) (hn : noStar e = true) (ha : PE X e (tv L pm (evE cf a))) :
    PS X (.Expr (.Call (.Attribute o "append" apos) [e] [] cpos) pos) (tS L pm (evS cf (.app i a))) := by
  have q := pe_bm PySem.F.plainAttrs_list PySem.F.slot_list_append PySem.F.type_list_append mt_append hv (pa_cons ha pa_nil (star_cons hn)) (plain_base hb) (few_of (by rw [List.all_cons, hn] <;> rfl) (show 1 < 30 by decide)) hl (star_cons hn) rfl
  refine (ps_expr q (no_swap rfl)).imp fun D σ H ⟨F, μ, M, ρ, o, S, W, e1, k⟩ => ?_
  have e1 : (match ρ[i]? with
    | some (.own xs) => bnd (evE cf a ρ M) fun v M1 => if xs.length < sizeLine then some (Out.nx (ρ.set i (.own (xs ++ [v]))) M1) else none
    | _ => none) = some o := e1
  cases hs : ρ[i]? with
  | none => simp [hs] at e1
  | some s =>
    cases s with
    | own xs =>
      rw [hs] at e1
      obtain ⟨v, M1, e2, e3⟩ := bnd_inv e1
      split at e3
      · rename_i hz
        cases e3
        obtain ⟨c, vs, h1, h2, h3, h4, h5⟩ := S.slot i _ hs
        refine ⟨.ref c, h1, .inl ⟨rfl, vs, SqL.of h2⟩, F, μ, M, ρ, v, M1, S, e2, fun F1 μ1 H1 y S1 s1 p1 r1 => ?_⟩
        obtain ⟨c', vs', g1, g2, g3, g4, g5⟩ := S1.slot i _ hs
        rw [h1] at g1
        cases g1
        obtain ⟨S2, W2⟩ := S1.chgOwn W (s' := .own (xs ++ [v])) (o := .lst (vs' ++ [y])) hs rfl rfl h1 ⟨c, _, rfl, upd_same, g3.append (.cons r1 .nil), g4, g5⟩
        exact ⟨c, vs', y, rfl, rfl, g2, by rw [g3.length]; exact hz, k F1 μ1 σ _ S2 W2 s1 p1⟩
      · cases e3
    | _ => simp [hs] at e1
/-- xs.extend(e) -/
theorem s_ext {i : Nat} (hv : PE X o (tVar i)) (hb : plainBase o = true) (hl : (apos.endLine == cpos.line) = true) (hn : noStar e = true) (ha : PE X e (tv L pm (evE cf a))) :
    PS X (.Expr (.Call (.Attribute o "extend" apos) [e] [] cpos) pos) (tS L pm (evS cf (.ext i a))) := by
  have q := pe_bm PySem.F.plainAttrs_list PySem.F.slot_list_extend PySem.F.type_list_extend mt_extend hv (pa_cons ha pa_nil (star_cons hn)) (plain_base hb) (few_of (by rw [List.all_cons, hn] <;> rfl) (show 1 < 30 by decide)) hl (star_cons hn) rfl
  refine (ps_expr q (no_swap rfl)).imp fun D σ H ⟨F, μ, M, ρ, o, S, W, e1, k⟩ => ?_
  have e1 : (match ρ[i]? with
    | some (.own xs) => bnd (evE cf a ρ M) fun v M1 => (match v with
      | .lst ys => if xs.length + ys.length ≤ sizeLine then some (Out.nx (ρ.set i (.own (xs ++ ys))) M1) else none
      | _ => none)
    | _ => none) = some o := e1
  cases hs : ρ[i]? with
  | none => simp [hs] at e1
  | some s =>
    cases s with
    | own xs =>
      rw [hs] at e1
      obtain ⟨v, M1, e2, e3⟩ := bnd_inv e1
      cases v with
      | lst ys =>
        simp only at e3
        split at e3
        · rename_i hz
          cases e3
          obtain ⟨c, vs, h1, h2, h3, h4, h5⟩ := S.slot i _ hs
          refine ⟨.ref c, h1, .inl ⟨rfl, vs, SqL.of h2⟩, F, μ, M, ρ, _, M1, S, e2, fun F1 μ1 H1 y S1 s1 p1 r1 => ?_⟩
          obtain ⟨c', vs', g1, g2, g3, g4, g5⟩ := S1.slot i _ hs
          rw [h1] at g1
          cases g1
          obtain ⟨z, ws, rfl, w1, w2⟩ := r1.inv_lst
          obtain ⟨S2, W2⟩ := S1.chgOwn W (s' := .own (xs ++ ys)) (o := .lst (vs' ++ ws)) hs rfl rfl h1 ⟨c, _, rfl, upd_same, g3.append w2, g4, g5⟩
          exact ⟨c, z, vs', ws, rfl, rfl, g2, S1.fz _ _ w1, by rw [g3.length, w2.length]; exact hz, k F1 μ1 σ _ S2 W2 s1 p1⟩
        · cases e3
      | _ => cases e3
    | _ => simp [hs] at e1
/-- xs.append(ys.pop(e)) -/
theorem s_appPop {i j : Nat} {o2 : Expr} {apos2 cpos2 : Pos} (hv : PE X o (tVar i)) (hb : plainBase o = true) (hl : (apos.endLine == cpos.line) = true) (hv2 : PE X o2 (tVar j)) (hb2 : plainBase o2 = true) (hl2 : (apos2.endLine == cpos2.line) = true) (hn : noStar e = true) (ha : PE X e (tv L pm (evE cf a))) :
    PS X (.Expr (.Call (.Attribute o "append" apos) [.Call (.Attribute o2 "pop" apos2) [e] [] cpos2] [] cpos) pos) (tS L pm (evS cf (.appPop i j a))) := by
  have q2 := pe_bm PySem.F.plainAttrs_list PySem.F.slot_list_pop PySem.F.type_list_pop mt_popAt hv2 (pa_cons ha pa_nil (star_cons hn)) (plain_base hb2) (few_of (by rw [List.all_cons, hn] <;> rfl) (show 1 < 30 by decide)) hl2 (star_cons hn) rfl
  have q := pe_bm PySem.F.plainAttrs_list PySem.F.slot_list_append PySem.F.type_list_append mt_append hv (pa_cons q2 pa_nil (star_cons rfl)) (plain_base hb) (few_of rfl (show 1 < 30 by decide)) hl (star_cons rfl) rfl
  refine (ps_expr q (no_swap rfl)).imp fun D σ H ⟨F, μ, M, ρ, o, S, W, e1, k⟩ => ?_
  have e1 : (match ρ[i]?, ρ[j]? with
    | some (.own xs), some (.own ys) => if i = j then none else bnd (evE cf a ρ M) fun v M1 => (match v with
      | .int k => if !(smallI k) then none else (L2.ixN ys.length k).bind fun n => (ys[n]?).bind fun y => if xs.length < sizeLine then some (Out.nx ((ρ.set j (.own (ys.eraseIdx n))).set i (.own (xs ++ [y]))) M1) else none
      | _ => none)
    | _, _ => none) = some o := e1
  split at e1
  · rename_i xs ys hi hj
    split at e1
    · cases e1
    · rename_i hij
      obtain ⟨v, M1, e2, e3⟩ := bnd_inv e1
      cases v with
      | int kk =>
        simp only at e3
        split at e3
        · cases e3
        · rename_i hsm
          obtain ⟨n, e4, e5⟩ := Option.bind_eq_some_iff.mp e3
          obtain ⟨y, e6, e7⟩ := Option.bind_eq_some_iff.mp e5
          split at e7
          · rename_i hz
            cases e7
            obtain ⟨c, vs, h1, h2, h3, h4, h5⟩ := S.slot i _ hi
            obtain ⟨c2, vs2, h1', h2', h3', h4', h5'⟩ := S.slot j _ hj
            refine ⟨.ref c, h1, .inl ⟨rfl, vs, SqL.of h2⟩, .ref c2, h1', .inl ⟨rfl, vs2, SqL.of h2'⟩, F, μ, M, ρ, _, M1, S, e2, fun F1 μ1 H1 w S1 s1 p1 r1 => ?_⟩
            obtain rfl := r1.inv_int
            obtain ⟨c2', ws, g1, g2, g3, g4, g5⟩ := S1.slot j _ hj
            rw [h1'] at g1
            cases g1
            obtain ⟨yv, g6, g7⟩ := g3.get e6
            rw [← g3.length] at e4
            obtain ⟨t1, t2, t3, t4⟩ := ixN_seq e4
            have hsm : -(2 ^ 62) ≤ kk ∧ kk < 2 ^ 62 := smallI_b (by simpa using hsm)
            obtain ⟨S2, W2⟩ := S1.chgOwn W (s' := .own (ys.eraseIdx n)) (o := .lst (ws.eraseIdx n)) hj rfl rfl h1' ⟨c2, _, rfl, upd_same, g3.erase n, g4, g5⟩
            refine ⟨c2, ws, kk, n, yv, rfl, rfl, g2, by omega, by omega, t1, g6, ?_⟩
            have hi2 : (ρ.set j (.own (ys.eraseIdx n)))[i]? = some (.own xs) := by
              rw [List.getElem?_set_ne (fun z => hij z.symm)]
              exact hi
            obtain ⟨c', us, u1, u2, u3, u4, u5⟩ := S2.slot i _ hi2
            rw [h1] at u1
            cases u1
            obtain ⟨S3, W3⟩ := S2.chgOwn W2 (s' := .own (xs ++ [y])) (o := .lst (us ++ [yv])) hi2 rfl rfl h1 ⟨c, _, rfl, upd_same, u3.append (.cons g7 .nil), u4, u5⟩
            exact ⟨c, us, yv, rfl, rfl, u2, by rw [u3.length]; exact hz, k F1 μ1 σ _ S3 W3 s1 p1⟩
          · cases e7
      | _ => cases e3
  · cases e1
/-- name = e, e no comprehension -/
theorem s_asg {i : Nat} {x : Str} {px : Pos} (hN : X.N.Nodup) (hi : X.N[i]? = some x) (hx : Loc X.env.scope x) (hf : X.fn x = true ∨ X.env.scope.names.lookup x = some .local) (hs : swapsWith e (some (.Name x px)) pos.line X.env = pure false) (ha : PE X e (tv L pm (evE cf a))) :
    PS X (.Assign [.Name x px] e pos) (tS L pm (evS cf (.asg i a))) := (ps_set hN hi hx ha hs hf).imp fun D σ H h => at_asg h
theorem s_own {i : Nat} {x : Str} {px : Pos} (hN : X.N.Nodup) (hi : X.N[i]? = some x) (hx : Loc X.env.scope x) (hf : X.fn x = true ∨ X.env.scope.names.lookup x = some .local) (hs : swapsWith e (some (.Name x px)) pos.line X.env = pure false) (ha : PE X e (tf L pm (evE cf a))) :
    PS X (.Assign [.Name x px] e pos) (tS L pm (evS cf (.own i a))) := (ps_set hN hi hx ha hs hf).imp fun D σ H h => (at_own h).2
theorem s_ownD {i : Nat} {x : Str} {px : Pos} (hN : X.N.Nodup) (hi : X.N[i]? = some x) (hx : Loc X.env.scope x) (hf : X.fn x = true ∨ X.env.scope.names.lookup x = some .local) :
    PS X (.Assign [.Name x px] (.Dict [] [] p) pos) (tS L pm (evS cf (.ownD i))) := (ps_set hN hi hx pe_dnewK (no_swap rfl) hf).imp fun D σ H h => at_ownD h
end
end Ev
end
section -- Sound24
/-! Sound24: does a term say what a statement says. -/
namespace Ev
open PySem PySem.Spec PyProof.Rows L2
def noSD : Expr → Bool
  | .SetComp _ _ _ _ => false
  | .DictComp _ _ _ _ _ => false
  | _ => true
/-- is name = e stored within the comprehension -/
def swB (sc : Scope) (x : Str) (px : Pos) : Expr → Bool
  | .ListComp _ _ scope vp => (sc.names.lookup x == some .local) && (px.line == vp.line) && !(scope.names.any fun (n, k) => n == x && (k == .local || k == .cell))
  | _ => false
theorem sw_name {e : Expr} {x : Str} {px : Pos} {l : Nat} {env : Env} (hk : env.scope.kind = ScopeKind.function) (h : noSD e = true) : swapsWith e (some (.Name x px)) l env = pure (swB env.scope x px e) := by
  have hb : (env.blockKind == ScopeKind.function) = true := by
    unfold Env.blockKind
    rw [hk]
    rfl
  cases e <;> first
    | rfl
    | (cases h; done)
    | (unfold swapsWith swB
       show pure _ = pure _
       simp only [hb, Env.kindOf, Bool.true_and]
       rfl)
def notName : Expr → Bool
  | .Name _ _ => false
  | _ => true
theorem sw_other {e t : Expr} {l : Nat} {env : Env} (h : notName t = true) : swapsWith e (some t) l env = pure false := by
  unfold swapsWith
  cases e <;> first
    | rfl
    | (cases t <;> first
        | rfl
        | cases h)
def notPair : Expr → Bool
  | .Tuple _ _ _ => false
  | .List _ _ => false
  | _ => true
theorem swap_none {t e : Expr} {env : Env} (h : (notPair t || notPair e) = true) : swappedStores [t] e env = pure none := by
  unfold swappedStores
  cases t <;> first
    | rfl
    | (cases e <;> first
        | rfl
        | cases h)
section
variable {W : Wld} {L : Lk} {cf : CallF} {T : Tb} {k : Nat} {N : List Str} {sc : Scope} {X : Cx}
def ckLocL (N : List Str) (sc : Scope) (i : Nat) (x : Str) : Bool := decide (N[i]? = some x) && decide (sc.names.lookup x = some .local)
def ckLoc (N : List Str) (sc : Scope) (i : Nat) (x : Str) : Bool := decide (N[i]? = some x) && (decide (sc.names.lookup x = some .local) || decide (sc.names.lookup x = some .cell))
/-- a def's own frame -/
def DefX (X : Cx) : Prop := PassesOwn (model X.prog X.w) X.A X.env X.xe ∧ ∀ x, X.fn x = true
theorem ckLoc_loc (G : Good W L N k sc X) {i : Nat} {x : Str} (h : ckLoc N sc i x = true) : X.N[i]? = some x ∧ Loc X.env.scope x := by
  unfold ckLoc at h
  simp only [Bool.and_eq_true, Bool.or_eq_true, decide_eq_true_eq] at h
  refine ⟨by rw [G.eN]; exact h.1, ?_⟩
  rw [G.esc]
  exact h.2
variable (B : TabOk W L cf T k)
include B
/-- name = a new list, however it is stored -/
theorem s_name {a : E} (G : Good W L N k sc X) {i : Nat} {x : Str} {px pos : Pos} {e : Expr} {pm : Pm} (hD : DefX X) (hl : ckLoc N sc i x = true) (hs : noSD e = true) (hf : fresh a = true) (h : ck T N a false sc e = true) :
    PS X (.Assign [.Name x px] e pos) (fun D σ H => tf L pm (evE cf a) σ H fun x H1 => gName i x σ H1 D.nx) := by
  obtain ⟨hi, hx⟩ := ckLoc_loc G hl
  have sw := sw_name (x := x) (px := px) (l := pos.line) (env := X.env) (by rw [G.esc]; exact G.kind) hs
  cases hb : swB X.env.scope x px e with
  | false =>
    rw [hb] at sw
    exact ps_set G.nd' hi hx ((snd B a).f _ _ G hf _ h pm) sw (.inl (hD.2 x))
  | true =>
    rw [hb] at sw
    obtain ⟨e1, gs, scope, vp, rfl⟩ : ∃ e1 gs scope vp, e = .ListComp e1 gs scope vp := by
      unfold swB at hb
      split at hb
      · exact ⟨_, _, _, _, rfl⟩
      · cases hb
    have hx : X.env.scope.names.lookup x = some .local := by
      unfold swB at hb
      simp only [Bool.and_eq_true, beq_iff_eq] at hb
      exact hb.1.1
    cases a <;> first
      | (cases hf; done)
      | (unfold ck at h; cases h; done)
      | skip
    · rename_i elt it cond tg own
      unfold ck at h
      split at h
      · rename_i e1 te e2 ifs scope pos' heq
        cases heq
        rw [Bool.and_eq_true, Bool.and_eq_true, Bool.and_eq_true, Bool.and_eq_true, Bool.and_eq_true, Bool.and_eq_true, Bool.and_eq_true] at h
        obtain ⟨⟨⟨⟨⟨⟨⟨_, h1⟩, h2⟩, h3⟩, h4⟩, h5⟩, h6⟩, h7⟩ := h
        have ok := blkOk_by h1
        have bk := G.blk ok.kind
        have hv : ∀ j ∈ tgN tg, j ∈ own := fun j hj => by
          have := List.all_eq_true.mp h2 j hj
          simpa using this
        have := ps_setLc (own := owN N own) (i := i) (y := x) (py := px) (spos := pos) G.calm G.nd' hi hx sw ((snd B it).i _ _ G _ _ h4 pm) (by rw [G.eN, G.esc]; exact ok) (fun s H C cl fp => (snd_g (TgOk.blk G _ s H C cl fp) tg).1 _ h5) (fun s H C cl fp => s_ifs B (snd B cond) (bk s H C cl fp) h6) (fun s H C cl fp => pe_x fun pm => (snd B elt).v _ _ (bk s H C cl fp) _ h7 pm) (fun x => no_set h3)
        rw [owN_snd] at this
        exact this.imp fun D σ H q => lc_of hv q
      · cases h
    · rename_i elt it it2 cond tg tg2 own
      unfold ck at h
      split at h
      · rename_i e1 te e2 te2 e3 ifs scope pos' heq
        cases heq
        rw [Bool.and_eq_true, Bool.and_eq_true, Bool.and_eq_true, Bool.and_eq_true, Bool.and_eq_true, Bool.and_eq_true, Bool.and_eq_true, Bool.and_eq_true, Bool.and_eq_true, Bool.and_eq_true, Bool.and_eq_true] at h
        obtain ⟨⟨⟨⟨⟨⟨⟨⟨⟨⟨⟨_, h1⟩, h2⟩, h2'⟩, h3⟩, h3'⟩, h4⟩, h5⟩, h8⟩, h9⟩, h6⟩, h7⟩ := h
        have ok := blkOk_by h1
        have bk := G.blk ok.kind
        have mem : ∀ {l : List Nat}, (l.all fun j => own.contains j) = true → ∀ j ∈ l, j ∈ own := fun {l} hl j hj => by
          have := List.all_eq_true.mp hl j hj
          simpa using this
        have := ps_setLc2 (own := owN N own) (i := i) (y := x) (py := px) (spos := pos) (vs1 := tgN tg2) G.calm G.nd' hi hx sw ((snd B it).i _ _ G _ _ h4 pm) (by rw [G.eN, G.esc]; exact ok) (by rw [owN_snd]; exact mem h2') (fun s H C cl fp => (snd_g (TgOk.blk G _ s H C cl fp) tg).1 _ h5) (fun _ _ _ _ _ => pts_nil)
          (fun s H C cl fp => pi_x0 fun pm => (snd B it2).i _ _ (bk s H C cl fp) _ _ h8 pm) (fun s H C cl fp => (snd_g (TgOk.blk G _ s H C cl fp) tg2).1 _ h9) (fun s H C cl fp => s_ifs B (snd B cond) (bk s H C cl fp) h6) (fun s H C cl fp => pe_x fun pm => (snd B elt).v _ _ (bk s H C cl fp) _ h7 pm) (fun x => no_set h3) (fun _ x => no_set h3')
        rw [owN_snd] at this
        exact this.imp fun D σ H q => lc2_of (mem h2) q
      · cases h
end
end Ev
end
section -- Sound27
/-! Sound27: several targets at once. -/
namespace Ev
open PySem PySem.Spec PyProof.Rows L2
theorem sw_sole {e t : Expr} {l : Nat} {env : Env} (h : notName t = true) : swapsWithSole [t] e l env = pure false := sw_other h
def isStar : Expr → Bool
  | .Starred .. => true
  | _ => false
def lnOf (ts : List Expr) : Nat := (ts.head?.map (·.pos.line)).getD 0
def nmsOf (sc : Scope) (ts : List Expr) : List Str := ts.filterMap fun
    | .Name id pos => if sc.names.lookup id == some .local && pos.line == lnOf ts then some id else none
    | _ => none
/-- are the stores swapped: none where the model says nothing -/
def swN (sc : Scope) (ts vs : List Expr) : Option (Option (List Str)) :=
  if (!(ts.length == 2 || ts.length == 3) || vs.length != ts.length) = true then some none
  else if vs.any isStar = true then some none
  else if ((nmsOf sc ts).length != ts.length || (nmsOf sc ts).eraseDups.length != (nmsOf sc ts).length) = true then some none
  else if vs.all (foldedForSure 8) = true then some none
  else if vs.all (constantsAlone 8) = true then none
  else some (some (nmsOf sc ts))
theorem sw_pair {ts vs : List Expr} {n m : Nat} {p q : Pos} {env : Env} {r : Option (List Str)} (hk : env.scope.kind = ScopeKind.function) (h : swN env.scope ts vs = some r) : swappedStores [.Tuple ts n p] (.Tuple vs m q) env = pure r := by
  have hb : (env.blockKind != ScopeKind.function) = false := by
    unfold Env.blockKind
    rw [hk]
    rfl
  unfold swappedStores
  unfold swN at h
  simp only [hb, Bool.or_false]
  split at h
  · rename_i c1
    cases h
    show (if _ then _ else _) = _
    rw [if_pos c1]
  · rename_i c1
    show (if _ then _ else _) = _
    rw [if_neg c1]
    split at h
    · rename_i c2
      cases h
      exact if_pos c2
    · rename_i c2
      refine (if_neg c2).trans ?_
      split at h
      · rename_i c3
        cases h
        exact if_pos c3
      · rename_i c3
        refine (if_neg c3).trans ?_
        split at h
        · rename_i c4
          cases h
          exact if_pos c4
        · rename_i c4
          refine (if_neg c4).trans ?_
          split at h
          · cases h
          · rename_i c5
            cases h
            exact if_neg c5
end Ev
end
section -- Sound28
/-! Sound28: a, b = x, y with plain names. -/
namespace Ev
open PySem PySem.Spec PyProof.Rows L2
/-- the values, new lists apart from one another -/
inductive PRep (L : Lk) (pm : Pm) (F : Hp) (μ : List Addr) (ρ : Slots) (σ : L2.St) (H : Hp) : List (Nat × Bool) → List V → List PV → List Addr → Prop
  | nil : PRep L pm F μ ρ σ H [] [] [] []
  | val {i : Nat} {is : List (Nat × Bool)} {x : V} {us : List V} {v : PV} {vs : List PV} {ds : List Addr} : RepV L F μ x v → PRep L pm F μ ρ σ H is us vs ds → PRep L pm F μ ρ σ H ((i, false) :: is) (x :: us) (v :: vs) ds
  | own {i : Nat} {is : List (Nat × Bool)} {p : Addr} {ws us : List V} {xs vs : List PV} {ds : List Addr} : H p = some (.lst ws) → RepVs L F μ ws xs → Loose pm F μ ρ σ p → p ∉ ds → PRep L pm F μ ρ σ H is us vs ds → PRep L pm F μ ρ σ H ((i, true) :: is) (.ref p :: us) (.lst xs :: vs) (p :: ds)
def flagsOk : List (Nat × Bool) → List PV → Bool
  | [], [] => true
  | (_, false) :: is, _ :: vs => flagsOk is vs
  | (_, true) :: is, .lst _ :: vs => flagsOk is vs
  | _, _ => false
def xP (L : Lk) (cf : CallF) (is : List (Nat × Bool)) (es : E) : TA := fun σ H Q => ∃ pm F μ M ρ vs M', Stt L pm F μ M ρ σ H ∧ evL cf es ρ M = some (vs, M') ∧ flagsOk is vs = true ∧
  ∀ F' μ' H' us ds, Stt L pm F' μ' M' ρ σ H' → Sub F F' → μ <+: μ' → PRep L pm F' μ' ρ σ H' is us vs ds → Q us H'
section
variable {X : Cx} {L : Lk} {cf : CallF} {a b : E} {e : Expr} {es : List Expr}
/-- from a block within to the block around -/
theorem PRep.out {pm : Pm} {F F' : Hp} {μ μ' : List Addr} {M : Mem} {ρ : Slots} {σ : L2.St} {H H' : Hp} (S : Stt L pm F μ M ρ σ H) : ∀ {is : List (Nat × Bool)} {us : List V} {vs : List PV} {ds : List Addr}, PRep L ⟨H, F, μ⟩ F' μ' ρ σ H' is us vs ds → PRep L pm F' μ' ρ σ H' is us vs ds ∧ ∀ p ∈ ds, H p = none
  | _, _, _, _, .nil => ⟨.nil, fun p hp => by cases hp⟩
  | _, _, _, _, .val r rr => ⟨.val r (PRep.out S rr).1, (PRep.out S rr).2⟩
  | _, _, _, _, .own h r l n rr => by
    obtain ⟨q1, q2⟩ := PRep.out S rr
    refine ⟨.own h r ⟨l.1, l.2.1, (S.new l.2.2.1).1, l.2.2.2⟩ n q1, fun p hp => ?_⟩
    rcases List.mem_cons.mp hp with z | z
    · exact z ▸ l.2.2.1
    · exact q2 p z
theorem xp_nil : PA X [] (xP L cf [] .nil) := pa_nil.imp fun σ H Q ⟨pm, F, μ, M, ρ, vs, M', S, e1, _, k⟩ => by
  cases e1
  exact k F μ H [] [] S (Sub.refl _) List.prefix_rfl .nil
theorem xp_val {i : Nat} {is : List (Nat × Bool)} (ha : PE X e (xv L (evE cf a))) (hb : PA X es (xP L cf is b)) (hs : starEach (e :: es) X.env = (false, eval e X.env) :: starEach es X.env) : PA X (e :: es) (xP L cf ((i, false) :: is) (.cons a b)) := by
  refine (pa_cons ha hb hs).imp fun σ H Q ⟨pm, F, μ, M, ρ, vs, M', S, e1, hf, k⟩ => ?_
  obtain ⟨x, M1, e2, e1⟩ := bnd_inv e1
  obtain ⟨ys, M2, e3, e1⟩ := bnd_inv e1
  cases e1
  refine ⟨pm, F, μ, M, ρ, x, M1, S, e2, fun F1 μ1 H1 x' S1 s1 p1 r1 => ⟨⟨H1, F1, μ1⟩, F1, μ1, M1, ρ, ys, _, S1.nest, e3, hf, fun F2 μ2 H2 us ds S2 s2 p2 r2 => ?_⟩⟩
  exact k F2 μ2 H2 _ ds (S1.unnest S2) (s1.trans s2) (p1.trans p2) (.val (r1.mono s2 p2) (PRep.out S1 r2).1)
theorem xp_own {i : Nat} {is : List (Nat × Bool)} (ha : PE X e (xf L (evE cf a))) (hb : PA X es (xP L cf is b)) (hs : starEach (e :: es) X.env = (false, eval e X.env) :: starEach es X.env) : PA X (e :: es) (xP L cf ((i, true) :: is) (.cons a b)) := by
  refine (pa_cons ha hb hs).imp fun σ H Q ⟨pm, F, μ, M, ρ, vs, M', S, e1, hf, k⟩ => ?_
  obtain ⟨x, M1, e2, e1⟩ := bnd_inv e1
  obtain ⟨ys, M2, e3, e1⟩ := bnd_inv e1
  cases e1
  obtain ⟨xs, rfl⟩ : ∃ xs, x = .lst xs := by
    cases x <;> first
      | exact ⟨_, rfl⟩
      | cases hf
  have hf2 : flagsOk is ys = true := hf
  refine ⟨pm, F, μ, M, ρ, xs, M1, S, e2, fun F1 μ1 H1 p ws S1 s1 p1 r1 hp lo => ⟨⟨H1, F1, μ1⟩, F1, μ1, M1, ρ, ys, _, S1.nest, e3, hf2, fun F2 μ2 H2 us ds S2 s2 p2 r2 => ?_⟩⟩
  obtain ⟨q1, q2⟩ := PRep.out S1 r2
  obtain ⟨l2, h2⟩ := lo.stays hp S2
  refine k F2 μ2 H2 _ (p :: ds) (S1.unnest S2) (s1.trans s2) (p1.trans p2) (.own h2 (r1.mono s2 p2) l2 (fun hm => ?_) q1)
  have := q2 p hm
  rw [hp] at this
  cases this
end
end Ev
end
section -- Sound29
/-! Sound29: a, b = x, y: the stores. -/
namespace Ev
open PySem PySem.Spec PyProof.Rows L2
def setS (σ : L2.St) : List (Nat × Bool) → List V → L2.St
  | (i, _) :: is, v :: vs => setS (σ.set i (some v)) is vs
  | _, _ => σ
section
variable {L : Lk} {pm : Pm}
theorem Loose.set_val {F : Hp} {μ : List Addr} {ρ : Slots} {σ : L2.St} {p : Addr} (l : Loose pm F μ ρ σ p) (hl : ρ.length = σ.length) (i : Nat) (v : PV) (x : V) : Loose pm F μ (ρ.set i (.val v)) (σ.set i (some x)) p := by
  obtain ⟨l1, l2, l3, l4⟩ := l
  refine ⟨l1, l2, l3, fun j s h1 h2 h3 => ?_⟩
  by_cases e : i = j
  · subst e
    have hi : i < ρ.length := by
      have := (List.getElem?_eq_some_iff.mp h1).1
      simpa using this
    rw [List.getElem?_set_self hi] at h1
    cases h1
    cases h2
  · rw [List.getElem?_set_ne e] at h1 h3
    exact l4 j s h1 h2 h3
theorem Loose.set_own {F : Hp} {μ : List Addr} {ρ : Slots} {σ : L2.St} {p q : Addr} (l : Loose pm F μ ρ σ p) (hl : ρ.length = σ.length) (i : Nat) (s : Slot) (hq : q ≠ p) : Loose pm F μ (ρ.set i s) (σ.set i (some (V.ref q))) p := by
  obtain ⟨l1, l2, l3, l4⟩ := l
  refine ⟨l1, l2, l3, fun j t h1 h2 h3 => ?_⟩
  by_cases e : i = j
  · subst e
    have hi : i < ρ.length := by
      have := (List.getElem?_eq_some_iff.mp h1).1
      simpa using this
    rw [List.getElem?_set_self (by rw [← hl]; exact hi)] at h3
    cases h3
    exact hq rfl
  · rw [List.getElem?_set_ne e] at h1 h3
    exact l4 j t h1 h2 h3
theorem PRep.slots {F : Hp} {μ : List Addr} {ρ ρ' : Slots} {σ σ' : L2.St} {H : Hp} : ∀ {is : List (Nat × Bool)} {us : List V} {vs : List PV} {ds : List Addr}, PRep L pm F μ ρ σ H is us vs ds → (∀ p ∈ ds, Loose pm F μ ρ σ p → Loose pm F μ ρ' σ' p) → PRep L pm F μ ρ' σ' H is us vs ds
  | _, _, _, _, .nil, _ => .nil
  | _, _, _, _, .val r rr, h => .val r (PRep.slots rr h)
  | _, _, _, _, .own h r l n rr, k => .own h r (k _ List.mem_cons_self l) n (PRep.slots rr fun p hp => k p (List.mem_cons_of_mem _ hp))
theorem par_ok {F : Hp} {μ : List Addr} {M : Mem} {H : Hp} : ∀ {is : List (Nat × Bool)} {us : List V} {vs : List PV} {ds : List Addr} {ρ ρ' : Slots} {σ : L2.St}, PRep L pm F μ ρ σ H is us vs ds → Stt L pm F μ M ρ σ H → Own pm ρ σ → setPar ρ is vs = some ρ' →
    Stt L pm F μ M ρ' (setS σ is us) H ∧ Own pm ρ' (setS σ is us)
  | _, _, _, _, ρ, ρ', σ, .nil, S, W, e => by
    cases e
    exact ⟨S, W⟩
  | _, _, _, _, ρ, ρ', σ, .val (i := i) (x := x) (v := v) r rr, S, W, e => by
    have r2 := PRep.slots (ρ' := ρ.set i (.val v)) (σ' := σ.set i (some x)) rr fun p hp l => l.set_val S.lenS i v x
    have z := par_ok r2 (S.setVal i r) (W.setVal i v x) e
    exact z
  | _, _, _, _, ρ, ρ', σ, .own (i := i) (p := p) (ws := ws) (xs := xs) h r l n rr, S, W, e => by
    obtain ⟨S2, W2⟩ := S.setLoose W i (s := .own xs) rfl l ⟨p, ws, rfl, h, r, l.1, l.2.1⟩
    have r2 := PRep.slots (ρ' := ρ.set i (.own xs)) (σ' := σ.set i (some (V.ref p))) rr fun q hq l' => l'.set_own S.lenS i (.own xs) (fun z => n (z.symm ▸ hq))
    have z := par_ok r2 S2 W2 e
    exact z
end
end Ev
end
section -- Sound30
/-! Sound30: a, b = x, y: joined. -/
namespace Ev
open PySem PySem.Spec PyProof.Rows L2
theorem flags_of : ∀ {is : List (Nat × Bool)} {vs : List PV} {ρ ρ' : Slots}, setPar ρ is vs = some ρ' → flagsOk is vs = true
  | [], [], _, _, _ => rfl
  | (i, false) :: is, v :: vs, ρ, ρ', h => flags_of (is := is) (ρ := ρ.set i (.val v)) h
  | (i, true) :: is, .lst xs :: vs, ρ, ρ', h => flags_of (is := is) (ρ := ρ.set i (.own xs)) h
  | [], _ :: _, _, _, h => by cases h
  | (_, false) :: _, [], _, _, h => by cases h
  | (_, true) :: _, [], _, _, h => by cases h
  | (_, true) :: _, .non :: _, _, _, h => by cases h
  | (_, true) :: _, .bl _ :: _, _, _, h => by cases h
  | (_, true) :: _, .int _ :: _, _, _, h => by cases h
  | (_, true) :: _, .str _ :: _, _, _, h => by cases h
  | (_, true) :: _, .tup _ :: _, _, _, h => by cases h
  | (_, true) :: _, .dct _ _ :: _, _, _, h => by cases h
  | (_, true) :: _, .ref _ :: _, _, _, h => by cases h
  | (_, true) :: _, .scr _ :: _, _, _, h => by cases h
theorem PRep.len {L : Lk} {pm : Pm} {F : Hp} {μ : List Addr} {ρ : Slots} {σ : L2.St} {H : Hp} : ∀ {is : List (Nat × Bool)} {us : List V} {vs : List PV} {ds : List Addr}, PRep L pm F μ ρ σ H is us vs ds → us.length = is.length
  | _, _, _, _, .nil => rfl
  | _, _, _, _, .val _ rr => by rw [List.length_cons, List.length_cons, rr.len]
  | _, _, _, _, .own _ _ _ _ rr => by rw [List.length_cons, List.length_cons, rr.len]
section
variable {X : Cx} {L : Lk} {cf : CallF} {pm : Pm} {es : E}
theorem at_par {is : List (Nat × Bool)} {D : Ends} {σ : L2.St} {H : Hp} (h : tS L pm (evS cf (.par is es)) D σ H) : xP L cf is es σ H fun us H1 => us.length = is.length ∧ D.nx (setS σ is us) H1 := by
  obtain ⟨F, μ, M, ρ, o, S, W, e1, k⟩ := h
  have e1 : (if freshAll is es = true then bnd (evL cf es ρ M) fun vs M1 => (setPar ρ is vs).map (Out.nx · M1) else none) = some o := e1
  split at e1
  · obtain ⟨vs, M1, e2, e3⟩ := bnd_inv e1
    obtain ⟨ρ2, e4, e5⟩ := Option.map_eq_some_iff.mp e3
    cases e5
    refine ⟨pm, F, μ, M, ρ, vs, M1, S, e2, flags_of e4, fun F1 μ1 H1 us ds S1 s1 p1 r1 => ⟨r1.len, ?_⟩⟩
    obtain ⟨S2, W2⟩ := par_ok r1 S1 W e4
    exact k F1 μ1 _ H1 S2 W2 s1 p1
  · cases e1
theorem s_par2 {i j : Nat} {b1 b2 : Bool} {x y : Str} {a b : Expr} {px py pt pos : Pos} {kt k2 : Nat} {pt2 : Pos} (hc : X.calm = true) (hN : X.N.Nodup) (hi : X.N[i]? = some x) (hj : X.N[j]? = some y) (hij : i ≠ j)
    (hx : X.env.scope.names.lookup x = some .local) (hy : X.env.scope.names.lookup y = some .local) (ha : PA X [a, b] (xP L cf [(i, b1), (j, b2)] es))
    (hw : swappedStores [.Tuple [.Name x px, .Name y py] kt pt] (.Tuple [a, b] k2 pt2) X.env = pure (some [x, y])) :
    PS X (.Assign [.Tuple [.Name x px, .Name y py] kt pt] (.Tuple [a, b] k2 pt2) pos) (tS L pm (evS cf (.par [(i, b1), (j, b2)] es))) :=
  (ps_par hc hN hi hj hij hx hy ha hw (sw_sole rfl)).imp fun D σ H h => by
    obtain ⟨pm', F, μ, M, ρ, vs, M', S, e, f, k⟩ := at_par h
    refine ⟨pm', F, μ, M, ρ, vs, M', S, e, f, fun F1 μ1 H1 us ds S1 s1 p1 r1 => ?_⟩
    obtain ⟨q1, q2⟩ := k F1 μ1 H1 us ds S1 s1 p1 r1
    match us, q1, q2 with
    | [u, w], _, q2 => exact ⟨u, w, rfl, q2⟩
theorem s_par3 {i j l : Nat} {b1 b2 b3 : Bool} {x y z : Str} {a b c : Expr} {px py pz pt pos : Pos} {kt k2 : Nat} {pt2 : Pos} (hc : X.calm = true) (hN : X.N.Nodup) (hi : X.N[i]? = some x) (hj : X.N[j]? = some y) (hl : X.N[l]? = some z) (hij : i ≠ j) (hil : i ≠ l) (hjl : j ≠ l)
    (hx : X.env.scope.names.lookup x = some .local) (hy : X.env.scope.names.lookup y = some .local) (hz : X.env.scope.names.lookup z = some .local) (ha : PA X [a, b, c] (xP L cf [(i, b1), (j, b2), (l, b3)] es))
    (hw : swappedStores [.Tuple [.Name x px, .Name y py, .Name z pz] kt pt] (.Tuple [a, b, c] k2 pt2) X.env = pure (some [x, y, z])) :
    PS X (.Assign [.Tuple [.Name x px, .Name y py, .Name z pz] kt pt] (.Tuple [a, b, c] k2 pt2) pos) (tS L pm (evS cf (.par [(i, b1), (j, b2), (l, b3)] es))) :=
  (ps_par3 hc hN hi hj hl hij hil hjl hx hy hz ha hw (sw_sole rfl)).imp fun D σ H h => by
    obtain ⟨pm', F, μ, M, ρ, vs, M', S, e, f, k⟩ := at_par h
    refine ⟨pm', F, μ, M, ρ, vs, M', S, e, f, fun F1 μ1 H1 us ds S1 s1 p1 r1 => ?_⟩
    obtain ⟨q1, q2⟩ := k F1 μ1 H1 us ds S1 s1 p1 r1
    match us, q1, q2 with
    | [u, v, w], _, q2 => exact ⟨u, v, w, rfl, q2⟩
/-- through a tuple -/
def gPar : List (Nat × Bool) → TGs
  | [] => gNil
  | (i, _) :: is => gCons (gName i) (gPar is)
theorem at_gPar : ∀ {is : List (Nat × Bool)} {us : List V} {σ : L2.St} {H : Hp} {Q : L2.St → Hp → Prop}, us.length = is.length → Q (setS σ is us) H → gPar is us σ H Q
  | [], [], σ, H, Q, _, q => ⟨rfl, q⟩
  | (i, b) :: is, u :: us, σ, H, Q, hl, q => ⟨u, us, rfl, at_gPar (is := is) (us := us) (by simpa using hl) q⟩
  | [], _ :: _, _, _, _, hl, _ => by simp at hl
  | _ :: _, [], _, _, _, hl, _ => by simp at hl
theorem PRep.grow {pm : Pm} {F : Hp} {μ : List Addr} {ρ : Slots} {σ : L2.St} {H : Hp} {p : Addr} {o : HO} (hp : H p = none) : ∀ {is : List (Nat × Bool)} {us : List V} {vs : List PV} {ds : List Addr}, PRep L pm F μ ρ σ H is us vs ds → PRep L pm F μ ρ σ (upd H p o) is us vs ds
  | _, _, _, _, .nil => .nil
  | _, _, _, _, .val r rr => .val r (rr.grow hp)
  | _, _, _, _, .own h r l n rr => .own (by rw [upd_ne (ne_of_none h hp)]; exact h) r l n (rr.grow hp)
theorem at_parT {is : List (Nat × Bool)} {D : Ends} {σ : L2.St} {H : Hp} (h : tS L pm (evS cf (.par is es)) D σ H) : xP L cf is es σ H fun us H1 => us.length = is.length ∧ ∀ p, H1 p = none → D.nx (setS σ is us) (upd H1 p (.tup us)) := by
  obtain ⟨F, μ, M, ρ, o, S, W, e1, k⟩ := h
  have e1 : (if freshAll is es = true then bnd (evL cf es ρ M) fun vs M1 => (setPar ρ is vs).map (Out.nx · M1) else none) = some o := e1
  split at e1
  · obtain ⟨vs, M1, e2, e3⟩ := bnd_inv e1
    obtain ⟨ρ2, e4, e5⟩ := Option.map_eq_some_iff.mp e3
    cases e5
    refine ⟨pm, F, μ, M, ρ, vs, M1, S, e2, flags_of e4, fun F1 μ1 H1 us ds S1 s1 p1 r1 => ⟨r1.len, fun p hp => ?_⟩⟩
    obtain ⟨S2, W2⟩ := par_ok (r1.grow (o := .tup us) hp) (S1.grow hp (.tup us)) W e4
    exact k F1 μ1 _ _ S2 W2 s1 p1
  · cases e1
theorem s_parT {is : List (Nat × Bool)} {ts vs : List Expr} {n m : Nat} {p2 p3 pos : Pos} (hc : X.calm = true) (hz : is.length ≤ sizeLine) (ha : PA X vs (xP L cf is es)) (hg : PGs X ts (gPar is)) (hn : (assignEach ts X.env).length = is.length) (hst : (assignEach ts X.env).findIdx? (·.1) = none)
    (hw : swappedStores [.Tuple ts n p2] (.Tuple vs m p3) X.env = pure none) : PS X (.Assign [.Tuple ts n p2] (.Tuple vs m p3) pos) (tS L pm (evS cf (.par is es))) :=
  (ps_asg (pe_tup ha) (pg_tup hc hg hn hst) (sw_sole rfl) hw).imp fun D σ H h => by
    obtain ⟨pm', F, μ, M, ρ, vs, M', S, e, f, k⟩ := at_parT h
    refine ⟨pm', F, μ, M, ρ, vs, M', S, e, f, fun F1 μ1 H1 us ds S1 s1 p1 r1 => ?_⟩
    obtain ⟨q1, q2⟩ := k F1 μ1 H1 us ds S1 s1 p1 r1
    refine ⟨by rw [q1]; exact hz, fun p hp => ⟨p, us, rfl, .inl (.of upd_same), q1, at_gPar q1 (q2 p hp)⟩⟩
end
end Ev
end
section -- Sound25
/-! Sound25: blocks of statements. -/
namespace Ev
open PySem PySem.Spec PyProof.Rows L2
def isVar : E → Bool
  | .var _ => true
  | _ => false
/-- targets of stores -/
def ckA (T : Tb) (N : List Str) (sc : Scope) (t : E) (e : Expr) : Bool := match t with
  | .var i => (match e with
    | .Name x _ => ckLoc N sc i x
    | _ => false)
  | .idx o k => (match e with
    | .Subscript l r _ => noSlice r && ck T N o false sc l && ck T N k false sc r
    | _ => false)
  | .fld o f => (match e with
    | .Attribute l f' _ => decide (f = f') && T.fld f && ck T N o false sc l
    | _ => false)
  | _ => false
def ckAs (T : Tb) (N : List Str) (sc : Scope) : E → List Expr → Bool
  | .nil, es => es.isEmpty
  | .cons a b, es => (match es with
    | t :: ts => noStar t && ckA T N sc a t && ckAs T N sc b ts
    | [] => false)
  | _, _ => false
def isC : E → Bool
  | .comp _ _ _ _ _ => true
  | .comp2 _ _ _ _ _ _ _ => true
  | _ => false
theorem isC_fresh {a : E} (h : isC a = true) : fresh a = true := by
  cases a <;> first
    | rfl
    | cases h
theorem isC_lst {cf : CallF} {a : E} (h : isC a = true) : ∀ ρ M v M', evE cf a ρ M = some (v, M') → ∃ xs, v = .lst xs := by
  intro ρ M v M' e
  cases a <;> first
    | (cases h; done)
    | (obtain ⟨xs, M1, _, e⟩ := bnd_inv e
       obtain ⟨r, _, h2⟩ := Option.map_eq_some_iff.mp e
       cases h2
       exact ⟨_, rfl⟩)
/-- the values of a, b = x, y -/
def ckP (T : Tb) (N : List Str) (sc : Scope) : List (Nat × Bool) → E → List Expr → Bool
  | [], .nil, vs => vs.isEmpty
  | (_, b) :: is, .cons a r, vs => (match vs with
    | v :: vs => noStar v && (!b || fresh a) && ck T N a false sc v && ckP T N sc is r vs
    | [] => false)
  | _, _, _ => false
def ckNms (N : List Str) (sc : Scope) : List (Nat × Bool) → List Expr → Bool
  | [], ts => ts.isEmpty
  | (i, _) :: is, ts => (match ts with
    | .Name x _ :: ts => ckLoc N sc i x && ckNms N sc is ts
    | _ => false)
def isSN : Option (Option (List Str)) → Bool
  | some none => true
  | _ => false
def isSS (l : List Str) : Option (Option (List Str)) → Bool
  | some (some m) => decide (l = m)
  | _ => false
mutual
def ckB (T : Tb) (N : List Str) (sc : Scope) : S → List Stmt → Bool
  | .nil, sts => sts.isEmpty
  | .cons (.frz _) b, sts => ckB T N sc b sts
  | .cons a b, sts => (match sts with
    | t :: ts => ck1 T N sc a t && ckB T N sc b ts
    | [] => false)
  | _, _ => false
def ck1 (T : Tb) (N : List Str) (sc : Scope) : S → Stmt → Bool
  | .asg i a, st => (match st with
    | .Assign [.Name x _] e _ => ckLoc N sc i x && noSD e && ck T N a false sc e && (isC a || noComp e)
    | _ => false)
  | .own i a, st => (match st with
    | .Assign [.Name x _] e _ => ckLoc N sc i x && noSD e && ck T N a false sc e && fresh a
    | _ => false)
  | .ownD i, st => (match st with
    | .Assign [.Name x _] (.Dict [] [] _) _ => ckLoc N sc i x
    | _ => false)
  | .set t a, st => (match st with
    | .Assign [tg] e _ => notName tg && noStar tg && notPair tg && ckA T N sc t tg && ck T N a false sc e
    | _ => false)
  | .multi ts a, st => (match st with
    | .Assign [.Tuple tes _ _] e _ => (match e with
      | .Tuple vs _ _ => isSN (swN sc tes vs)
      | e => notPair e) && ckAs T N sc ts tes && ck T N a false sc e
    | _ => false)
  | .par is es, st => (match st with
    | .Assign [.Tuple ts _ _] (.Tuple vs _ _) _ => (isSN (swN sc ts vs) && decide (is.length ≤ 1000) && ckNms N sc is ts && ckP T N sc is es vs) || (match ts, vs, is with
      | [.Name x px, .Name y py], [a, b], [(i, p), (j, q)] => decide (i ≠ j) && ckLocL N sc i x && ckLocL N sc j y && ckP T N sc [(i, p), (j, q)] es [a, b] && isSS [x, y] (swN sc [.Name x px, .Name y py] [a, b])
      | [.Name x px, .Name y py, .Name z pz], [a, b, c], [(i, p), (j, q), (l, r)] => decide (i ≠ j) && decide (i ≠ l) && decide (j ≠ l) && ckLocL N sc i x && ckLocL N sc j y && ckLocL N sc l z && ckP T N sc [(i, p), (j, q), (l, r)] es [a, b, c] && isSS [x, y, z] (swN sc [.Name x px, .Name y py, .Name z pz] [a, b, c])
      | _, _, _ => false)
    | _ => false)
  | .rai, _ => true
  | .app i a, st => (match st with
    | .Expr (.Call (.Attribute (.Name x _) m apos) [e] [] cpos) _ => decide (m = ("append" : Str)) && ckNm N sc i x && (apos.endLine == cpos.line) && noStar e && ck T N a false sc e
    | _ => false)
  | .ext i a, st => (match st with
    | .Expr (.Call (.Attribute (.Name x _) m apos) [e] [] cpos) _ => decide (m = ("extend" : Str)) && ckNm N sc i x && (apos.endLine == cpos.line) && noStar e && ck T N a false sc e
    | _ => false)
  | .appPop i j a, st => (match st with
    | .Expr (.Call (.Attribute (.Name x _) m apos) [.Call (.Attribute (.Name y _) m2 apos2) [e] [] cpos2] [] cpos) _ => decide (m = ("append" : Str)) && decide (m2 = ("pop" : Str)) && ckNm N sc i x && ckNm N sc j y && (apos.endLine == cpos.line) && (apos2.endLine == cpos2.line) && noStar e && ck T N a false sc e
    | _ => false)
  | .ex a, st => (match st with
    | .Expr e _ => noComp e && ck T N a false sc e
    | _ => false)
  | .ite c a b, st => (match st with
    | .If e t1 t2 _ => ck T N c true sc e && ckB T N sc a t1 && ckB T N sc b t2
    | _ => false)
  | .for tg it b, st => (match st with
    | .For te e body [] _ => noSet e && ckI T N it sc te e && ckG N sc tg te && ckB T N sc b body
    | _ => false)
  | .whl c b, st => (match st with
    | .While e body [] _ => ck T N c true sc e && ckB T N sc b body
    | _ => false)
  | .ret a, st => (match st with
    | .Return (some e) _ => ck T N a false sc e
    | _ => false)
  | .retN, st => (match st with
    | .Return none _ => true
    | _ => false)
  | _, _ => false
end
section
variable {W : Wld} {L : Lk} {cf : CallF} {T : Tb} {k : Nat} {N : List Str} {sc : Scope} {X : Cx}
theorem ckLocL_inv (G : Good W L N k sc X) {i : Nat} {x : Str} (h : ckLocL N sc i x = true) : X.N[i]? = some x ∧ X.env.scope.names.lookup x = some .local := by
  unfold ckLocL at h
  simp only [Bool.and_eq_true, decide_eq_true_eq] at h
  exact ⟨by rw [G.eN]; exact h.1, by rw [G.esc]; exact h.2⟩
theorem nms_ok (G : Good W L N k sc X) (hD : DefX X) : ∀ {is : List (Nat × Bool)} {ts : List Expr}, ckNms N sc is ts = true → PGs X ts (gPar is) ∧ ts.length = is.length ∧ ts.all noStar = true
  | [], ts, h => by
    unfold ckNms at h
    obtain rfl := List.isEmpty_iff.mp h
    exact ⟨pgs_nil, rfl, rfl⟩
  | (i, b) :: is, ts, h => by
    unfold ckNms at h
    split at h
    · simp only [Bool.and_eq_true] at h
      obtain ⟨q1, q2, q3⟩ := nms_ok G hD h.2
      obtain ⟨h1, h2⟩ := ckLoc_loc G h.1
      exact ⟨pgs_cons (pg_name G.nd' h1 h2 (.inl (hD.2 _))) q1 (by rw [assign_cons rfl] <;> rfl), by rw [List.length_cons, List.length_cons, q2], by rw [List.all_cons, q3] <;> rfl⟩
    · cases h
theorem sub_tree {o i : Expr} {pos : Pos} {env : Env} (h : noSlice i = true) : ∀ v, assign (.Subscript o i pos) env v = (do
      let ov ← holding [v] (eval o env)
      let iv ← holding [v, ov] (eval i env)
      standAt pos
      holding [v, ov, iv] (setItem ov iv v)
      release [v, ov, iv] []) := by
  intro v
  cases i <;> first
    | rfl
    | cases h
variable (B : TabOk W L cf T k)
include B
theorem snd_a (G : Good W L N k sc X) (hD : DefX X) {a : E} {e : Expr} (h : ckA T N sc a e = true) : PG X e (tA L cf a) := by
  unfold ckA at h
  split at h
  · split at h
    · obtain ⟨h1, h2⟩ := ckLoc_loc G h
      exact pa_name G.nd' h1 h2 (.inl (hD.2 _))
    · cases h
  · rename_i o k'
    split at h
    · simp only [Bool.and_eq_true] at h
      obtain ⟨⟨h1, h2⟩, h3⟩ := h
      have pk := pe_x fun pm => (snd B k').v _ _ G _ h3 pm
      by_cases hv : ∃ i, o = .var i
      · obtain ⟨i, rfl⟩ := hv
        unfold ck at h2
        split at h2
        · exact pa_item G.un1 (ckNm_inv G h2) pk (sub_tree h1)
        · cases h2
      · exact pa_item2 G.un1 (fun i q => hv ⟨i, q⟩) (pe_x fun pm => (snd B o).v _ _ G _ h2 pm) pk (sub_tree h1)
    · cases h
  · rename_i o f
    split at h
    · simp only [Bool.and_eq_true, decide_eq_true_eq] at h
      obtain ⟨⟨rfl, h1⟩, h2⟩ := h
      exact pa_fld G.eL (fun c C hc => by rw [G.eK]; exact B.fld _ h1 c C hc) (pe_x fun pm => (snd B o).v _ _ G _ h2 pm)
    · cases h
  · cases h
theorem snd_as (G : Good W L N k sc X) (hD : DefX X) : ∀ {a : E} {es : List Expr}, ckAs T N sc a es = true → PGs X es (tAs L cf a) ∧ es.length = elen a ∧ es.all noStar = true := by
  intro a
  induction a with
  | nil =>
    intro es h
    cases es with
    | nil => exact ⟨pas_nil, rfl, rfl⟩
    | cons _ _ => cases h
  | cons a b _ ih =>
    intro es h
    cases es with
    | nil => cases h
    | cons t ts =>
      unfold ckAs at h
      simp only [Bool.and_eq_true] at h
      obtain ⟨q1, q2, q3⟩ := ih h.2
      exact ⟨pas_cons (snd_a B G hD h.1.2) q1 (by rw [assign_cons h.1.1]; rfl), by rw [List.length_cons, q2] <;> rfl, by rw [List.all_cons, h.1.1, q3] <;> rfl⟩
  | _ =>
    intro es h
    cases h
theorem snd_p (G : Good W L N k sc X) : ∀ {is : List (Nat × Bool)} {es : E} {vs : List Expr}, ckP T N sc is es vs = true → PA X vs (xP L cf is es)
  | [], .nil, vs, h => by
    unfold ckP at h
    obtain rfl := List.isEmpty_iff.mp h
    exact xp_nil
  | (i, b) :: is, .cons a r, vs, h => by
    unfold ckP at h
    cases vs with
    | nil => cases h
    | cons v vs =>
      simp only [Bool.and_eq_true, Bool.or_eq_true, Bool.not_eq_true'] at h
      obtain ⟨⟨⟨h1, h2⟩, h3⟩, h4⟩ := h
      cases b with
      | false => exact xp_val (pe_x fun pm => (snd B a).v _ _ G _ h3 pm) (snd_p G h4) (star_cons h1)
      | true =>
        have hf : fresh a = true := by
          rcases h2 with h2 | h2
          · cases h2
          · exact h2
        exact xp_own (pf_x fun pm => (snd B a).f _ _ G hf _ h3 pm) (snd_p G h4) (star_cons h1)
  | [], .cons _ _, _, h => by cases h
  | _ :: _, .nil, _, h => by cases h
  | [], .var _, _, h => by cases h
structure Sts (W : Wld) (L : Lk) (cf : CallF) (T : Tb) (k : Nat) (N : List Str) (a : S) : Prop where
  b : ∀ sc X, Good W L N k sc X → DefX X → ∀ sts, ckB T N sc a sts = true → ∀ pm, PSs X sts (tS L pm (evS cf a))
  o : ∀ sc X, Good W L N k sc X → DefX X → ∀ st, ck1 T N sc a st = true → ∀ pm, PS X st (tS L pm (evS cf a))
omit B in
theorem Sts.one {a : S} (hb : ∀ sc sts, ckB T N sc a sts = false) (ho : ∀ sc X, Good W L N k sc X → DefX X → ∀ st, ck1 T N sc a st = true → ∀ pm, PS X st (tS L pm (evS cf a))) : Sts W L cf T k N a :=
  ⟨fun sc X _ _ sts h => absurd h (by rw [hb]; decide), ho⟩
theorem sts (a : S) : Sts W L cf T k N a := by
  induction a with
  | asg i a =>
    refine .one (fun _ _ => rfl) fun sc X G hp st h pm => ?_
    unfold ck1 at h
    split at h
    · simp only [Bool.and_eq_true, Bool.or_eq_true] at h
      obtain ⟨⟨⟨h1, h2⟩, h3⟩, h4⟩ := h
      obtain ⟨q1, q2⟩ := ckLoc_loc G h1
      rcases h4 with h4 | h4
      · exact (s_name B G hp h1 h2 (isC_fresh h4) h3 (pm := pm)).imp fun D σ H q => tf_tv (isC_lst h4) (at_asg q)
      · exact s_asg G.nd' q1 q2 (.inl (hp.2 _)) (no_swap h4) ((snd B a).v _ _ G _ h3 pm)
    · cases h
  | own i a =>
    refine .one (fun _ _ => rfl) fun sc X G hp st h pm => ?_
    unfold ck1 at h
    split at h
    · simp only [Bool.and_eq_true] at h
      obtain ⟨⟨⟨h1, h2⟩, h3⟩, h4⟩ := h
      exact (s_name B G hp h1 h2 h4 h3 (pm := pm)).imp fun D σ H q => (at_own q).2
    · cases h
  | ownD i =>
    refine .one (fun _ _ => rfl) fun sc X G hp st h pm => ?_
    unfold ck1 at h
    split at h
    · obtain ⟨q1, q2⟩ := ckLoc_loc G h
      exact s_ownD G.nd' q1 q2 (.inl (hp.2 _))
    · cases h
  | set t a =>
    refine .one (fun _ _ => rfl) fun sc X G hp st h pm => ?_
    unfold ck1 at h
    split at h
    · simp only [Bool.and_eq_true] at h
      obtain ⟨⟨⟨⟨h1, h2⟩, h3⟩, h4⟩, h5⟩ := h
      exact s_set ((snd B a).v _ _ G _ h5 pm) (snd_a B G hp h4) (sw_other h1) (swap_none (by rw [h3] <;> rfl)) (by rw [assign_cons h2] <;> rfl)
    · cases h
  | multi ts a =>
    refine .one (fun _ _ => rfl) fun sc X G hp st h pm => ?_
    unfold ck1 at h
    split at h
    · rename_i tes n p2 e pos
      simp only [Bool.and_eq_true] at h
      obtain ⟨⟨h1, h2⟩, h3⟩ := h
      obtain ⟨q1, q2, q3⟩ := snd_as B G hp h2
      refine s_multi G.eL G.calm ((snd B a).v _ _ G _ h3 pm) q1 (by rw [assign_len]; exact q2) (assign_star q3) (sw_sole rfl) ?_
      split at h1
      · rename_i vs m q
        refine sw_pair (by rw [G.esc]; exact G.kind) ?_
        rw [G.esc]
        unfold isSN at h1
        split at h1
        · rename_i hh
          exact hh
        · cases h1
      · exact swap_none (by rw [h1, Bool.or_true])
    · cases h
  | par is es =>
    refine .one (fun _ _ => rfl) fun sc X G hp st h pm => ?_
    have fs : ∀ {l : List Str} {o : Option (Option (List Str))}, isSS l o = true → o = some (some l) := fun {l o} h => by
      unfold isSS at h
      split at h
      · rw [of_decide_eq_true h]
      · cases h
    have hk : X.env.scope.kind = ScopeKind.function := by rw [G.esc]; exact G.kind
    unfold ck1 at h
    split at h
    · rcases Bool.or_eq_true_iff.mp h with h | h
      · simp only [Bool.and_eq_true, decide_eq_true_eq] at h
        obtain ⟨⟨⟨h1, h2⟩, h3⟩, h4⟩ := h
        obtain ⟨q1, q2, q3⟩ := nms_ok G hp h3
        refine s_parT G.calm (Nat.le_trans h2 (by decide)) (snd_p B G h4) q1 (by rw [assign_len]; exact q2) (assign_star q3) (sw_pair hk ?_)
        rw [G.esc]
        unfold isSN at h1
        split at h1
        · rename_i hh
          exact hh
        · cases h1
      split at h
      · simp only [Bool.and_eq_true, decide_eq_true_eq] at h
        obtain ⟨⟨⟨⟨h1, h2⟩, h3⟩, h4⟩, h5⟩ := h
        obtain ⟨q1, q2⟩ := ckLocL_inv G h2
        obtain ⟨q3, q4⟩ := ckLocL_inv G h3
        exact s_par2 G.calm G.nd' q1 q3 h1 q2 q4 (snd_p B G h4) (sw_pair hk (by rw [G.esc]; exact fs h5))
      · simp only [Bool.and_eq_true, decide_eq_true_eq] at h
        obtain ⟨⟨⟨⟨⟨⟨⟨h1, h2⟩, h3⟩, h4⟩, h5⟩, h6⟩, h7⟩, h8⟩ := h
        obtain ⟨q1, q2⟩ := ckLocL_inv G h4
        obtain ⟨q3, q4⟩ := ckLocL_inv G h5
        obtain ⟨q5, q6⟩ := ckLocL_inv G h6
        exact s_par3 G.calm G.nd' q1 q3 q5 h1 h2 h3 q2 q4 q6 (snd_p B G h7) (sw_pair hk (by rw [G.esc]; exact fs h8))
      · cases h
    · cases h
  | rai =>
    refine .one (fun _ _ => rfl) fun sc X G hp st h pm => ?_
    exact ps_never.imp fun D σ H ⟨F, μ, M, ρ, o, S, W, e, k⟩ => by cases e
  | app i a =>
    refine .one (fun _ _ => rfl) fun sc X G hp st h pm => ?_
    unfold ck1 at h
    split at h
    · simp only [Bool.and_eq_true, decide_eq_true_eq] at h
      obtain ⟨⟨⟨⟨rfl, h1⟩, h2⟩, h3⟩, h4⟩ := h
      exact s_app (ckNm_inv G h1) rfl h2 h3 ((snd B a).v _ _ G _ h4 pm)
    · cases h
  | ext i a =>
    refine .one (fun _ _ => rfl) fun sc X G hp st h pm => ?_
    unfold ck1 at h
    split at h
    · simp only [Bool.and_eq_true, decide_eq_true_eq] at h
      obtain ⟨⟨⟨⟨rfl, h1⟩, h2⟩, h3⟩, h4⟩ := h
      exact s_ext (ckNm_inv G h1) rfl h2 h3 ((snd B a).v _ _ G _ h4 pm)
    · cases h
  | appPop i j a =>
    refine .one (fun _ _ => rfl) fun sc X G hp st h pm => ?_
    unfold ck1 at h
    split at h
    · simp only [Bool.and_eq_true, decide_eq_true_eq] at h
      obtain ⟨⟨⟨⟨⟨⟨⟨rfl, rfl⟩, h1⟩, h2⟩, h3⟩, h4⟩, h5⟩, h6⟩ := h
      exact s_appPop (ckNm_inv G h1) rfl h3 (ckNm_inv G h2) rfl h4 h5 ((snd B a).v _ _ G _ h6 pm)
    · cases h
  | ex a =>
    refine .one (fun _ _ => rfl) fun sc X G hp st h pm => ?_
    unfold ck1 at h
    split at h
    · simp only [Bool.and_eq_true] at h
      exact s_ex ((snd B a).v _ _ G _ h.2 pm) (no_swap h.1)
    · cases h
  | ite c a b h1 h2 =>
    refine .one (fun _ _ => rfl) fun sc X G hp st h pm => ?_
    unfold ck1 at h
    split at h
    · simp only [Bool.and_eq_true] at h
      exact s_if ((snd B c).t _ _ G _ h.1.1 pm) (h1.b _ _ G hp _ h.1.2 pm) (h2.b _ _ G hp _ h.2 pm)
    · cases h
  | «for» tg it b h1 =>
    refine .one (fun _ _ => rfl) fun sc X G hp st h pm => ?_
    unfold ck1 at h
    split at h
    · simp only [Bool.and_eq_true] at h
      obtain ⟨⟨⟨q1, q2⟩, q3⟩, q4⟩ := h
      exact s_for hp.1 G.calm ((snd B it).i _ _ G _ _ q2 pm) ((snd_g (TgOk.ofDef G hp.2) tg).1 _ q3) (h1.b _ _ G hp _ q4 pm) (fun x => no_set q1)
    · cases h
  | whl c b h1 =>
    refine .one (fun _ _ => rfl) fun sc X G hp st h pm => ?_
    unfold ck1 at h
    split at h
    · simp only [Bool.and_eq_true] at h
      exact s_while hp.1 ((snd B c).t _ _ G _ h.1 pm) (h1.b _ _ G hp _ h.2 pm)
    · cases h
  | ret a =>
    refine .one (fun _ _ => rfl) fun sc X G hp st h pm => ?_
    unfold ck1 at h
    split at h
    · exact s_ret ((snd B a).v _ _ G _ h pm)
    · cases h
  | retN =>
    refine .one (fun _ _ => rfl) fun sc X G hp st h pm => ?_
    unfold ck1 at h
    split at h
    · exact s_retN
    · cases h
  | nil =>
    refine ⟨fun sc X G hp sts h pm => ?_, fun sc X G hp st h pm => (by cases h)⟩
    cases sts with
    | nil => exact ss_nil
    | cons _ _ => cases h
  | cons a b h1 h2 =>
    refine ⟨fun sc X G hp sts h pm => ?_, fun sc X G hp st h pm => (by cases h)⟩
    by_cases hf : ∃ i, a = .frz i
    · obtain ⟨i, rfl⟩ := hf
      exact ss_ghost (fun D σ H => ghost_frz) (h2.b _ _ G hp _ h pm)
    · cases sts with
      | nil =>
        exfalso
        cases a <;> first
          | (cases h; done)
          | exact hf ⟨_, rfl⟩
      | cons t ts =>
        have h : (ck1 T N sc a t && ckB T N sc b ts) = true := by
          cases a <;> first
            | exact h
            | exact absurd ⟨_, rfl⟩ hf
        simp only [Bool.and_eq_true] at h
        exact ss_cons (h1.o _ _ G hp _ h.1 pm) (h2.b _ _ G hp _ h.2 pm)
  | _ => exact ⟨fun _ _ _ _ _ h => (by cases h), fun _ _ _ _ _ h => (by cases h)⟩
end
end Ev
end
section -- Sound26
/-! Sound26: a def does what its term computes. -/
namespace Ev
open PySem PySem.Spec PyProof.Rows L2
section
variable {L : Lk} {F F' : Hp} {μ μ2 : List Addr}
mutual
theorem RepV.cut (p : μ <+: μ2) : ∀ {v0 v : V} {x : PV}, RepV L F μ v0 x → RepV L F' μ2 v x → RepV L F' μ v x
  | _, _, _, .non, h => by cases h; exact .non
  | _, _, _, .bl _, h => by cases h; exact .bl _
  | _, _, _, .int _, h => by cases h; exact .int _
  | _, _, _, .str _, h => by cases h; exact .str _
  | _, _, _, .tup _ r, h => by
    cases h with
    | tup h1 h2 => exact .tup h1 (RepVs.cut p r h2)
  | _, _, _, .lst _ r, h => by
    cases h with
    | lst h1 h2 => exact .lst h1 (RepVs.cut p r h2)
  | _, _, _, .scr _ r, h => by
    cases h with
    | scr h1 h2 => exact .scr h1 (RepVs.cut p r h2)
  | _, _, _, .dct _ _ r, h => by
    cases h with
    | dct h1 h3 h2 => exact .dct h1 h3 (RepVs.cut p r h2)
  | _, _, _, .ref h0, h => by
    cases h with
    | ref h1 =>
      have := pre_get p h0
      rw [this] at h1
      cases h1
      exact .ref h0
theorem RepVs.cut (p : μ <+: μ2) : ∀ {v0 v : List V} {x : List PV}, RepVs L F μ v0 x → RepVs L F' μ2 v x → RepVs L F' μ v x
  | _, _, _, .nil, h => by cases h; exact .nil
  | _, _, _, .cons r rr, h => by
    cases h with
    | cons h1 h2 => exact .cons (RepV.cut p r h1) (RepVs.cut p rr h2)
end
mutual
theorem RepV.free : ∀ {n : Nat} {v : V} {x : PV}, RepV L F μ2 v x → noRef n x = true → RepV L F μ v x
  | _, _, _, .non, _ => .non
  | _, _, _, .bl _, _ => .bl _
  | _, _, _, .int _, _ => .int _
  | _, _, _, .str _, _ => .str _
  | 0, _, _, .tup _ _, h => by cases h
  | n + 1, _, _, .tup h1 r, h => .tup h1 (RepVs.free (n := n) r fun x hx => List.all_eq_true.mp h x hx)
  | 0, _, _, .lst _ _, h => by cases h
  | n + 1, _, _, .lst h1 r, h => .lst h1 (RepVs.free (n := n) r fun x hx => List.all_eq_true.mp h x hx)
  | n, _, _, .scr _ _, h => by cases n <;> cases h
  | 0, _, _, .dct _ _ _, h => by cases h
  | n + 1, _, _, .dct h1 h2 r, h => .dct h1 h2 (RepVs.free (n := n) r fun x hx => by
      simp only [noRef, Bool.and_eq_true] at h
      exact List.all_eq_true.mp h.2 x hx)
  | n, _, _, .ref _, h => by cases n <;> cases h
theorem RepVs.free : ∀ {n : Nat} {v : List V} {x : List PV}, RepVs L F μ2 v x → (∀ y ∈ x, noRef n y = true) → RepVs L F μ v x
  | _, _, _, .nil, _ => .nil
  | _, _, _, .cons r rr, h => .cons (RepV.free r (h _ List.mem_cons_self)) (RepVs.free rr fun y hy => h y (List.mem_cons_of_mem _ hy))
end
theorem MOR.cut (p : μ <+: μ2) {o0 o : HO} {m : MO} (h0 : MOR L F μ o0 m) (h : MOR L F' μ2 o m) : MOR L F' μ o m := by
  cases o0 <;> cases m <;> first
    | exact False.elim h0
    | (cases o <;> first
        | exact False.elim h
        | exact RepVs.cut p h0 h
        | exact ⟨h.1, RepVs.cut p h0.2 h.2⟩
        | exact ⟨h.1, h.2.1, RepVs.cut p h0.2.2 h.2.2⟩)
theorem fin_ok {M M2 M' : Mem} {H H2 : Hp} {x : V} {v v' : PV} (S0 : Stt L ⟨H, F, μ⟩ F μ M [] [] H) (S2 : Stt L ⟨H, F, μ⟩ F' μ2 M2 [] [] H2) (r : RepV L F' μ2 x v) (e : fin M v M2 = some (v', M')) :
    v' = v ∧ ∃ μ', Stt L ⟨H, F, μ⟩ F' μ' M' [] [] H2 ∧ RepV L F' μ' x v := by
  unfold fin at e
  split at e
  · rename_i hh
    cases e
    have pp : μ <+: μ2 := S2.m0
    refine ⟨rfl, μ, ⟨S2.fz, S2.f0, S2.fnew, List.prefix_rfl, fun a h => .inl h, S2.keep, S0.len, fun i a m h1 h2 => ?_, fun a ha => S2.muF a (pp.subset ha), S0.nod, rfl, fun i s h => by simp at h, fun i j s t a h => by simp at h⟩, RepV.free r hh.2⟩
    obtain ⟨o0, _, g0⟩ := S0.mem i a m h1 h2
    have hi : i < M.length := (List.getElem?_eq_some_iff.mp h2).1
    have h3 : M2[i]? = some m := by
      have := congrArg (fun l : Mem => l[i]?) hh.1
      simp only [List.getElem?_take_of_lt hi] at this
      rw [this]
      exact h2
    obtain ⟨o, g1, g2⟩ := S2.mem i a m (pre_get pp h1) h3
    exact ⟨o, g1, MOR.cut pp g0 g2⟩
  · cases e
    exact ⟨rfl, μ2, S2, r⟩
end
/-- the slots at the entry -/
theorem stt_start {L : Lk} {pm : Pm} {F : Hp} {μ : List Addr} {M : Mem} {H : Hp} {vs : List V} {xs : List PV} (n : Nat) (S : Stt L pm F μ M [] [] H) (r : RepVs L F μ vs xs) :
    Stt L pm F μ M (xs.map Slot.val ++ List.replicate n .non) (vs.map some ++ List.replicate n none) H ∧ Own pm (xs.map Slot.val ++ List.replicate n .non) (vs.map some ++ List.replicate n none) := by
  have hl := r.length
  have nw : ∀ {i : Nat} {s : Slot}, (xs.map Slot.val ++ List.replicate n Slot.non)[i]? = some s → (∃ x, xs[i]? = some x ∧ s = .val x) ∨ s = .non := fun {i s} h => by
    by_cases hi : i < xs.length
    · rw [List.getElem?_append_left (by simpa using hi), List.getElem?_map] at h
      obtain ⟨x, h1, h2⟩ := Option.map_eq_some_iff.mp h
      exact .inl ⟨x, h1, h2.symm⟩
    · rw [List.getElem?_append_right (by simpa using hi), List.getElem?_replicate] at h
      split at h
      · cases h
        exact .inr rfl
      · cases h
  refine ⟨⟨S.fz, S.f0, S.fnew, S.m0, S.mnew, S.keep, S.len, S.mem, S.muF, S.nod, by simp [hl], fun i s h => ?_, fun i j s t a h1 h2 o1 => ?_⟩, fun i s a h1 o1 => ?_⟩
  · rcases nw h with ⟨x, h1, rfl⟩ | rfl
    · obtain ⟨v, h2, h3⟩ := r.get h1
      refine ⟨v, ?_, h3⟩
      have hi : i < vs.length := (List.getElem?_eq_some_iff.mp h2).1
      rw [List.getElem?_append_left (by simpa using hi), List.getElem?_map, h2]
      rfl
    · trivial
  · rcases nw h1 with ⟨x, _, rfl⟩ | rfl <;> cases o1
  · rcases nw h1 with ⟨x, _, rfl⟩ | rfl <;> cases o1
/-- a body, its docstring ahead -/
def ckBody (T : Tb) (N : List Str) (sc : Scope) (a : S) : List Stmt → Bool
  | .Expr (.Constant (.str _) _ _) _ :: r => ckB T N sc a r
  | r => ckB T N sc a r
theorem snd_body {W : Wld} {L : Lk} {cf : CallF} {T : Tb} {k : Nat} {N : List Str} {sc : Scope} {X : Cx} (B : TabOk W L cf T k) (G : Good W L N k sc X) (hp : DefX X) {a : S} {body : List Stmt} (h : ckBody T N sc a body = true) (pm : Pm) :
    PSs X body (tS L pm (evS cf a)) := by
  unfold ckBody at h
  split at h
  · exact (pss_cons ps_doc ((sts B a).b _ _ G hp _ h pm)).imp fun D σ H q => q
  · exact (sts B a).b _ _ G hp _ h pm
/-- THE RULE: a def whose body checks does what its term computes -/
theorem fn_ok {W : Wld} {L : Lk} {Tn : Nat → Option Fn} {T : Tb} {d k n : Nat} {fr : Fn} {f : Addr} {name qual : Str} {params : Arguments} {body : List Stmt} {scope : Scope} {dV kV doc pv cdv ct oc : Value} {an od : Option Addr}
    {osl : Array (Option Value)} {N ps : List Str} (B : TabOk W L (callF Tn d) T k) (hT : Tn n = some fr) (hKL : W.K = L.K) (lk : W.K.lookup f = some ⟨oc, od, .func (PySem.W.fnOf name qual params body scope dV kV doc pv an cdv ct), osl⟩) (hcd : PySem.W.codeIn W.K cdv qual = true)
    (hS : FnScope N ps scope) (hn : N.length = fr.ns) (hp : ps.length = fr.np) (hc : ckBody T N scope fr.body body = true) :
    FnG W.prog W.w W.K W.mg W.base (k + 2) f (PySem.W.fnOf name qual params body scope dV kV doc pv an cdv ct) ps (spI L (callF Tn (d + 1) n)) := by
  have inv : ∀ {xs : List PV} {M : Mem} {v : PV} {M' : Mem}, callF Tn (d + 1) n xs M = some (v, M') → xs.length = fr.np ∧ ∃ o, evS (callF Tn d) fr.body (xs.map .val ++ List.replicate (fr.ns - fr.np) .non) M = some o ∧ (match o with
      | .rt w M2 => fin M w M2
      | .nx _ M2 => fin M .non M2) = some (v, M') := fun {xs M v M'} h => by
    unfold callF at h
    rw [hT] at h
    simp only at h
    split at h
    · rename_i hl
      refine ⟨hl, ?_⟩
      split at h
      · rename_i w M2 he
        exact ⟨_, he, h⟩
      · rename_i ρ2 M2 he
        exact ⟨_, he, h⟩
      · cases h
    · cases h
  refine fn_ofG lk hcd hS (fun vs H Q E ⟨F, μ, M, xs, v, M', S, r, e, _⟩ => ?_) fun A outer s H vs Q E hr ⟨F, μ, M, xs, v, M', S, r, e, kk⟩ => ?_
  · rw [r.length, (inv e).1, hp]
  · obtain ⟨hl, o, e1, e2⟩ := inv e
    have hl2 := r.length
    refine ⟨tS L ⟨H, F, μ⟩ (evS (callF Tn d) fr.body), PSs.nox (snd_body B (sc := scope) ⟨rfl, rfl, rfl, hKL, rfl, rfl, rfl, rfl, hS.nd, rfl, hS.kind, hr⟩ ⟨PassesOwn.never, fun _ => rfl⟩ hc ⟨H, F, μ⟩), ?_⟩
    obtain ⟨S1, W1⟩ := stt_start (fr.ns - fr.np) S r
    have hst : L2.start N vs = vs.map some ++ List.replicate (fr.ns - fr.np) none := by
      unfold L2.start
      rw [hn, hl2, hl]
    rw [hst]
    refine ⟨F, μ, M, _, o, S1, W1, e1, ?_⟩
    cases o with
    | nx ρ2 M2 =>
      intro F2 μ2 σ2 H2 S2 _ _ _
      obtain ⟨rfl, μ3, S3, r3⟩ := fin_ok S S2.bare (x := V.non) .non e2
      exact kk F2 μ3 H2 .non S3 r3
    | rt w M2 =>
      intro F2 μ2 H2 x S2 _ _ r2
      obtain ⟨rfl, μ3, S3, r3⟩ := fin_ok S S2 r2 e2
      exact kk F2 μ3 H2 x S3 r3
end Ev
end
section -- Sound31
/-! Sound31: the call of the law; the table of all defs. -/
namespace Ev
open PySem PySem.Spec PyProof.Rows L2
/-- the law is called with the script -/
theorem lawG {P : Program} {w : World} {K : PySem.W.Frag} {mg mb : Str → Option Value} {k : Nat} {fa a : Addr} {fd : FuncData} {x : Str} {sp : Sp} {s₁ : Shared} {vs : List Value} {ns : List Int} (KX : K.In s₁.heap) (hns : s₁.heap.Ns mainGlobals mg) (hb : s₁.heap.Ns builtinsNs mb)
    (hbb : ∀ x : Str, x ≠ "__name__" → mb x = bootBuiltins x) (hlim : s₁.heap.NoLimit) (hg : s₁.gens = #[]) (ha : s₁.heap.get? a = some { cls := .type "list", data := .seq vs.toArray }) (hi : IntsAre vs ns) (hl : ns.length ≤ sizeLine) (hr : RoomG k callerA)
    (F : ∀ base : Heap, K.In base → base.Ns mainGlobals mg → FnG P w K mg base k fa fd [x] sp) (hbind : ∀ (s : Shared) (u : Value), BindsTo s fd ⟨[u], []⟩ [(x, u)])
    (hsp : ∀ H : Hp, (∀ b u, H b = some u → b = a ∧ ∃ o, u = .frz o (.lst (ns.map V.int))) → Scr K H a (ns.map V.int) → sp [.ref a] H (fun v _ => v = .bl true) fun _ _ _ => False) :
    codeAny (model P w) callerA (.call (.ref fa) ⟨[.ref a], []⟩) (fun r s' => r = .ok (.ret (.bool true)) ∧ OldK s₁.heap s'.heap ∧ s'.os = s₁.os ∧ AllBare s'.gens) s₁ := by
  have rv := vals_ints hi
  have nv := hi.length
  obtain ⟨H, hA, hS, hok, hK⟩ : ∃ H : Hp, (∀ b u, H b = some u → b = a ∧ ∃ o, u = .frz o (.lst (ns.map V.int))) ∧ Scr K H a (ns.map V.int) ∧ HOk P w H s₁.heap ∧ (∀ b, H b ≠ none → b = a ∧ K.lookup a = none) := by
    cases q : K.lookup a with
    | none =>
      refine ⟨fun b => if b = a then some (.frz { cls := .type "list", data := .seq vs.toArray } (.lst (ns.map V.int))) else none, fun b u z => ?_, .inl ⟨_, if_pos rfl⟩, fun b u z => ?_, fun b z => ?_⟩
      · by_cases e : b = a
        · dsimp only at z
          rw [if_pos e] at z
          cases z
          exact ⟨e, _, rfl⟩
        · dsimp only at z
          rw [if_neg e] at z
          cases z
      · by_cases e : b = a
        · dsimp only at z
          rw [if_pos e] at z
          cases z
          rw [e]
          exact ⟨ha, by rw [List.length_map]; exact hl, vs, _, rv, ha⟩
        · dsimp only at z
          rw [if_neg e] at z
          cases z
      · by_cases e : b = a
        · exact ⟨e, rfl⟩
        · exact absurd (if_neg e) z
    | some o =>
      have e := KX a o q
      rw [ha] at e
      cases e
      exact ⟨fun _ => none, fun b u z => (by cases z), .inr ⟨vs.toArray, _, q, by rw [List.size_toArray, nv]; exact hl, by simpa using rv⟩, fun b u z => (by cases z), fun b z => absurd rfl z⟩
  have out : ∀ {b : Addr} {o : Obj}, s₁.heap.get? b = some o → H b = none → (hidT s₁.heap H).get? b = some o := fun e n => hidT_get e n
  have notA : ∀ {b : Addr} {o : Obj}, s₁.heap.get? b = some o → (∀ vs n, o.data ≠ .seq vs n) → H b = none := by
    intro b o e n
    cases q : H b with
    | none => rfl
    | some u =>
      have eb := (hA b u q).1
      rw [eb, ha] at e
      cases e
      exact absurd rfl (n _ _)
  have names : ∀ {b : Addr} {m : Str → Option Value}, s₁.heap.Ns b m → (hidT s₁.heap H).Ns b m := by
    rintro b m ⟨o, es, ep, e, d, r⟩
    exact ⟨o, es, ep, out e (notA e fun vs n => by rw [d]; intro z; cases z), d, r⟩
  have inK : K.In (hidT s₁.heap H) := by
    intro b o e
    refine out (KX b o e) ?_
    cases q : H b with
    | none => rfl
    | some u =>
      obtain ⟨e1, e2⟩ := hK b (by rw [q]; simp)
      rw [e1, e2] at e
      cases e
  obtain ⟨mc, h1, h2⟩ := hlim
  have st : Env0 P w K mg (hidT s₁.heap H) callerA [] s₁ H :=
    ⟨rfl, ⟨inK, names hns, ⟨mb, names hb, hbb⟩, mc, names h1, h2⟩, fun b o e => of_hidT e, Nat.le_of_eq (hidT_size _ _), trivial, fun b z => absurd (show b ∈ ([] : List Addr) from z) (by simp), hok, .of_eq hg⟩
  have run := (F _ inK (names hns)).go callerA [] s₁ H ⟨[.ref a], []⟩ [.ref a] [.ref a] _ _ hr st (hbind s₁ (.ref a)) (.cons rfl .nil) (hsp H hA hS)
  refine codeAny_mono run ?_
  intro r s' h
  rcases r with z | z
  · exact h.elim
  cases z
  case ret u =>
    obtain ⟨v, H', os, bare, un, hok', rel, q⟩ := h
    have q : v = .bl true := q
    subst q
    obtain rfl : u = Value.bool true := rel
    refine ⟨rfl, .of_keep fun b o e => ?_, os, bare⟩
    cases q : H b with
    | none => exact un.keep b o e q (fun z => absurd (show b ∈ ([] : List Addr) from z) (by simp)) (by simp)
    | some u =>
      obtain ⟨_, ob, rfl⟩ := hA b u q
      have e1 := (hok b _ q).1
      rw [e] at e1
      cases e1
      exact (hok' b _ (un.frzs b _ _ q)).1
  all_goals exact False.elim h
/-! ### the table -/
/-- a def: where it stands, its names by slot, its parameters, its term -/
structure Ent where
  d : He.DefD
  N : List Str
  ps : List Str
  fn : Fn
def fscB (N P : List Str) (sc : Scope) : Bool :=
  decide (sc.kind = .function) && !sc.isCoroutine && !sc.isGenerator && decide N.Nodup && decide (N.take P.length = P) && (P.all fun x => decide (sc.names.lookup x = some .local) || decide (sc.names.lookup x = some .cell)) && sc.names.all fun y => !decide (y.2 = .free)
theorem fsc_ok {N P : List Str} {sc : Scope} (h : fscB N P sc = true) : FnScope N P sc := by
  unfold fscB at h
  simp only [Bool.and_eq_true, decide_eq_true_eq, Bool.not_eq_true'] at h
  obtain ⟨⟨⟨⟨⟨⟨h1, h2⟩, h3⟩, h4⟩, h5⟩, h6⟩, h7⟩ := h
  refine ⟨h1, h2, h3, h4, h5, fun x hx => ?_, fun y hy => ?_⟩
  · have := List.all_eq_true.mp h6 x hx
    simpa using this
  · have := List.all_eq_true.mp h7 y hy
    simpa using this
def entOk (T : Tb) (e : Ent) : Bool := fscB e.N e.ps e.d.scope && decide (e.N.length = e.fn.ns) && decide (e.ps.length = e.fn.np) && e.d.dfl.isEmpty && e.d.kwd.isEmpty && ckBody T e.N e.d.scope e.fn.body e.d.body
def tnOf (es : List Ent) (n : Nat) : Option Fn := (es[n]?).map (·.fn)
def tbOf (es : List Ent) (cns flds : List Str) (glos : List (Str × PV)) : Tb where
  fname n := match es[n]? with
    | some e => if e.d.at_.2 = none then some e.d.at_.1 else none
    | none => none
  mth c m n := match es[n]?, cns[c]? with
    | some e, some cx => decide (e.d.at_ = (cx, some m))
    | _, _ => false
  mkc c n := match es[n]?, cns[c]? with
    | some e, some cx => if e.d.at_ = (cx, some ("__init__" : Str)) then some cx else none
    | _, _ => none
  fld f := flds.contains f
  glo x v := glos.any fun p => decide (p.1 = x) && (match p.2, v with
    | .int i, .int j => decide (i = j)
    | .str y, .str z => decide (y = z)
    | _, _ => false)
def faOf (es : List Ent) (cns flds : List Str) (glos : List (Str × PV)) : List He.Fa :=
  bnames.map .free ++ es.filterMap (fun e => if e.d.at_.2 = none then some (.glo e.d.at_.1) else none) ++ (cns.flatMap fun c => [.glo c, .cls c, .mkr c] ++ flds.map (.noat c)) ++
    es.filterMap (fun e => match e.d.at_.2 with
      | some m => some (.meth e.d.at_.1 m)
      | none => none) ++ glos.filterMap fun p => match p.2 with
      | .int i => some (.int p.1 i)
      | .str z => some (.str p.1 z)
      | _ => none
def BindEnt (e : Ent) : Prop := ∀ (kV doc pm : Value) (an : Option Addr) (cdv ct : Value) (us : List Value), us.length = e.ps.length → bindArgs (PySem.W.fnOf e.d.name e.d.qual e.d.params e.d.body e.d.scope .none kV doc pm an cdv ct) ⟨us, []⟩ = pure (e.ps.zip us)
section
variable {P : Program} {w : World} {K : PySem.W.Frag} {mg : Str → Option Value} {h base : Heap} {es : List Ent} {cns flds : List Str} {glos : List (Str × PV)}
theorem SaysD.has {fa : List He.Fa} {fn : List He.DefD} (c : He.SaysD fa fn K) {f : He.Fa} (h : f ∈ fa) : f.ok K = true := by
  obtain ⟨i, hi, e⟩ := List.getElem_of_mem h
  exact c.fact i (by rw [List.getElem?_eq_getElem hi, e])
theorem tab_zero (c : He.SaysD (faOf es cns flds glos) (es.map (·.d)) K) (X : K.In h) (G : h.Ns mainGlobals mg) (hok : ∀ e ∈ es, entOk (tbOf es cns flds glos) e = true) (hb : ∀ e ∈ es, BindEnt e) {L : Lk} (hK : L.K = K) (hc : L.cls = fun c => (cns[c]?).map (He.ga K)) (cf : CallF) (k : Nat)
    (fk : ∀ n e f fd, es[n]? = some e → f = He.fAd K e.d.at_ → FunD K e.d.name e.d.qual e.d.params e.d.body e.d.scope [] [] f fd → FnG P w K mg base k f fd e.ps (spI L (cf n))) : TabOk ⟨P, w, K, mg, base⟩ L cf (tbOf es cns flds glos) k := by
  have fun_ : ∀ {n : Nat} {e : Ent}, es[n]? = some e → ∃ fd, FunD K e.d.name e.d.qual e.d.params e.d.body e.d.scope [] [] (He.fAd K e.d.at_) fd ∧ Binds K fd e.ps [] := by
    intro n e hn
    have hm : e ∈ es := List.mem_of_getElem? hn
    obtain ⟨fd, F⟩ := c.def_ n (d := e.d) (by rw [List.getElem?_map, hn]; rfl)
    have o := hok e hm
    unfold entOk at o
    simp only [Bool.and_eq_true] at o
    have d1 : e.d.dfl = [] := List.isEmpty_iff.mp o.1.1.2
    have d2 : e.d.kwd = [] := List.isEmpty_iff.mp o.1.2
    have F2 : FunD K e.d.name e.d.qual e.d.params e.d.body e.d.scope [] [] (He.fAd K e.d.at_) fd := by
      have q1 : e.d.dvs K = [] := by unfold He.DefD.dvs; rw [d1]; rfl
      have q2 : e.d.kws K = [] := by unfold He.DefD.kws; rw [d2]; rfl
      rw [q1, q2] at F
      exact F
    exact ⟨fd, F2, F2.bindsN (hb e hm)⟩
  have clsIn : ∀ {cx : Str} {f : He.Fa}, cx ∈ cns → f ∈ ([.glo cx, .cls cx, .mkr cx] ++ flds.map (He.Fa.noat cx) : List He.Fa) → f.ok K = true := by
    intro cx f hc hf
    refine SaysD.has c ?_
    unfold faOf
    exact List.mem_append_left _ (List.mem_append_left _ (List.mem_append_right _ (List.mem_flatMap.mpr ⟨cx, hc, hf⟩)))
  refine ⟨fun n x hx => ?_, fun cn m n hx => ?_, fun cn n x hx => ?_, fun f hf cn C hC => ?_, fun x v hv => ?_, fun x hx => ?_⟩
  · unfold tbOf at hx
    cases q : es[n]? with
    | none => simp [q] at hx
    | some e =>
      simp only [q] at hx
      split at hx
      · rename_i ha
        cases hx
        obtain ⟨fd, F, B⟩ := fun_ q
        have ea : He.fAd K e.d.at_ = He.ga K e.d.at_.1 := by unfold He.fAd; rw [ha]
        refine ⟨_, fd, e.ps, fk n e _ fd q rfl F, ?_, F.kp, B⟩
        show mg _ = _
        rw [ea]
        refine He.glo_ok X G (SaysD.has c ?_)
        unfold faOf
        refine List.mem_append_left _ (List.mem_append_left _ (List.mem_append_left _ (List.mem_append_right _ ?_)))
        exact List.mem_filterMap.mpr ⟨e, List.mem_of_getElem? q, by rw [if_pos ha]⟩
      · cases hx
  · unfold tbOf at hx
    cases q : es[n]? with
    | none => simp [q] at hx
    | some e =>
      cases q2 : cns[cn]? with
      | none => simp [q, q2] at hx
      | some cx =>
        simp only [q, q2, decide_eq_true_eq] at hx
        obtain ⟨fd, F, B⟩ := fun_ q
        have hcx := List.mem_of_getElem? q2
        have ea : He.fAd K e.d.at_ = He.ma K (He.ga K cx) m := by unfold He.fAd; rw [hx]
        refine ⟨He.ga K cx, _, fd, e.ps, by rw [hc]; simp [q2], He.cls_ok (clsIn hcx (by simp)), ?_, fk n e _ fd q rfl F, B⟩
        show Meth K _ m _
        rw [ea]
        refine He.meth_ok (SaysD.has c ?_)
        unfold faOf
        refine List.mem_append_left _ (List.mem_append_right _ ?_)
        exact List.mem_filterMap.mpr ⟨e, List.mem_of_getElem? q, by rw [hx]⟩
  · unfold tbOf at hx
    cases q : es[n]? with
    | none => simp [q] at hx
    | some e =>
      cases q2 : cns[cn]? with
      | none => simp [q, q2] at hx
      | some cx =>
        simp only [q, q2] at hx
        split at hx
        · rename_i ha
          cases hx
          obtain ⟨fd, F, B⟩ := fun_ q
          have hcx := List.mem_of_getElem? q2
          have ea : He.fAd K e.d.at_ = He.ma K (He.ga K x) "__init__" := by unfold He.fAd; rw [ha]
          refine ⟨He.ga K x, _, fd, e.ps, by rw [hc]; simp [q2], ?_, He.glo_ok X G (clsIn hcx (by simp)), fk n e _ fd q rfl F, B⟩
          show Mk K _ _
          rw [ea]
          exact He.mkr_ok (clsIn hcx (by simp))
        · cases hx
  · rw [hc] at hC
    obtain ⟨cx, q, rfl⟩ := Option.map_eq_some_iff.mp hC
    have hcx := List.mem_of_getElem? q
    have hf : f ∈ flds := by simpa [tbOf] using hf
    exact ⟨He.cls_ok (clsIn hcx (by simp)), He.noat_ok (clsIn hcx (List.mem_append_right _ (List.mem_map.mpr ⟨f, hf, rfl⟩)))⟩
  · obtain ⟨p, hp, h2⟩ := List.any_eq_true.mp (show (glos.any fun p => _) = true from hv)
    obtain ⟨px, pv⟩ := p
    simp only [Bool.and_eq_true, decide_eq_true_eq] at h2
    obtain ⟨rfl, h3⟩ := h2
    have fin : ∀ (pv : PV) (f : He.Fa), (px, pv) ∈ glos → (match pv with
      | .int i => some (He.Fa.int px i)
      | .str z => some (.str px z)
      | _ => none) = some f → f.ok K = true := fun pv f hp hf => by
      refine SaysD.has c ?_
      unfold faOf
      refine List.mem_append_right _ (List.mem_filterMap.mpr ⟨_, hp, ?_⟩)
      exact hf
    cases pv <;> cases v <;> first
      | (cases h3; done)
      | skip
    · obtain rfl := of_decide_eq_true h3
      obtain ⟨t, e⟩ := He.int_ok X G (fin _ _ hp rfl)
      exact ⟨.int _, _, e, ⟨t, rfl⟩, fun _ _ => .int _⟩
    · obtain rfl := of_decide_eq_true h3
      obtain ⟨t, e⟩ := He.str_ok X G (fin _ _ hp rfl)
      exact ⟨.str _, _, e, ⟨t, rfl⟩, fun _ _ => .str _⟩
  · refine He.free_ok X G (SaysD.has c ?_)
    unfold faOf
    exact List.mem_append_left _ (List.mem_append_left _ (List.mem_append_left _ (List.mem_append_left _ (List.mem_map.mpr ⟨x, hx, rfl⟩))))
/-- all defs keep their promises, to every depth -/
theorem tab_ok (c : He.SaysD (faOf es cns flds glos) (es.map (·.d)) K) (X : K.In h) (G : h.Ns mainGlobals mg) (hok : ∀ e ∈ es, entOk (tbOf es cns flds glos) e = true) (hb : ∀ e ∈ es, BindEnt e) {L : Lk} (hK : L.K = K) (hc : L.cls = fun c => (cns[c]?).map (He.ga K)) :
    ∀ (d : Nat), (∀ n e f fd, es[n]? = some e → f = He.fAd K e.d.at_ → FunD K e.d.name e.d.qual e.d.params e.d.body e.d.scope [] [] f fd → FnG P w K mg base (2 * d) f fd e.ps (spI L (callF (tnOf es) d n))) ∧ TabOk ⟨P, w, K, mg, base⟩ L (callF (tnOf es) d) (tbOf es cns flds glos) (2 * d) := by
  intro d
  induction d with
  | zero =>
    have z : ∀ n e f fd, es[n]? = some e → f = He.fAd K e.d.at_ → FunD K e.d.name e.d.qual e.d.params e.d.body e.d.scope [] [] f fd → FnG P w K mg base (2 * 0) f fd e.ps (spI L (callF (tnOf es) 0 n)) := by
      intro n e f fd _ _ _
      refine ⟨fun vs H Q E ⟨F, μ, M, xs, v, M', S, r, e1, _⟩ => (by cases e1), fun A outer s H args us vs Q E _ _ _ _ ⟨F, μ, M, xs, v, M', S, r, e1, _⟩ => (by cases e1)⟩
    exact ⟨z, tab_zero c X G hok hb hK hc _ _ z⟩
  | succ d ih =>
    have z : ∀ n e f fd, es[n]? = some e → f = He.fAd K e.d.at_ → FunD K e.d.name e.d.qual e.d.params e.d.body e.d.scope [] [] f fd → FnG P w K mg base (2 * (d + 1)) f fd e.ps (spI L (callF (tnOf es) (d + 1) n)) := by
      intro n e f fd hn hf F
      have o := hok e (List.mem_of_getElem? hn)
      unfold entOk at o
      simp only [Bool.and_eq_true, decide_eq_true_eq] at o
      obtain ⟨⟨⟨⟨⟨o1, o2⟩, o3⟩, _⟩, _⟩, o4⟩ := o
      obtain ⟨oc, od, dV, kV, doc, pm, an, cdv, ct, osl, rfl, lk, hcd, _, _⟩ := F.ex
      exact fn_ok (W := ⟨P, w, K, mg, base⟩) (fr := e.fn) ih.2 (by unfold tnOf; rw [hn]; rfl) hK.symm lk hcd (fsc_ok o1) o2 o3 o4
    exact ⟨z, tab_zero c X G hok hb hK hc _ _ z⟩
end
end Ev
end
section -- Sound32
/-! Sound32: from the evaluator's answer to the law. -/
namespace Ev
open PySem PySem.Spec PyProof.Rows L2
theorem reps_ints {L : Lk} {F : Hp} {μ : List Addr} : ∀ ns : List Int, RepVs L F μ (ns.map V.int) (ns.map PV.int)
  | [] => .nil
  | n :: ns => .cons (.int n) (reps_ints ns)
theorem stt_nil {L : Lk} (H : Hp) : Stt L ⟨H, H, []⟩ H [] [] [] [] H :=
  ⟨Sub.refl _, Sub.refl _, fun a o h => .inl ⟨o, h⟩, List.prefix_rfl, fun a h => .inl h, fun a o h _ => h, rfl, fun i a m h _ => by simp at h, fun a h => by simp at h, List.nodup_nil, rfl, fun i s h => by simp at h, fun i j s t a h => by simp at h⟩
theorem walkG {l : PySem.W.OpenLaw} {n : Nat} {q : Program} {loose : List Str} {XP : (Str → Option Value) → Heap → Prop} {d : DefRec} {nh : Nat} {es : List Ent} {cns flds : List Str} {glos : List (Str × PV)} {D nl : Nat} {el : Ent} {sn : Str}
    (hn : l.most = some n) (hn2 : n ≤ sizeLine) (hdf : d.params.defaults = []) (hr : RoomG (2 * (D + 1)) callerA) (hok : ∀ e ∈ es, entOk (tbOf es cns flds glos) e = true) (hb : ∀ e ∈ es, BindEnt e)
    (hl : es[nl]? = some el) (hat : el.d.at_ = (d.name, none)) (hps : el.ps = [sn])
    (main : ∀ ns : List Int, ns.length ≤ n → ∃ M', callF (tnOf es) (D + 1) nl [.scr (ns.map .int)] [] = some (.bl true, M')) :
    PySem.W.WalkO q loose XP (He.hookD nh (faOf es cns flds glos) (es.map (·.d))).says l.row.toRowW d [] (fun f vs => PySem.call f vs) := by
  refine Att.attach_call hn hdf fun w s₀ s₁ mg mb fa o pm cd doc a vs ns G Y ho hd hcd hmg hobj hints hlen hg => ?_
  obtain ⟨K, KX, c⟩ := Y
  have ea : He.fAd K el.d.at_ = He.ga K d.name := by unfold He.fAd; rw [hat]
  have hm : el ∈ es := List.mem_of_getElem? hl
  have gl : mg d.name = some (.ref (He.ga K d.name)) := by
    refine He.glo_ok KX G.T.g (SaysD.has c ?_)
    unfold faOf
    refine List.mem_append_left _ (List.mem_append_left _ (List.mem_append_left _ (List.mem_append_right _ ?_)))
    exact List.mem_filterMap.mpr ⟨el, hm, by rw [hat]; rfl⟩
  have efa : fa = He.ga K d.name := by
    have := hmg.symm.trans gl
    cases this
    rfl
  obtain ⟨fd, F⟩ := c.def_ nl (d := el.d) (by rw [List.getElem?_map, hl]; rfl)
  have oo := hok el hm
  unfold entOk at oo
  simp only [Bool.and_eq_true] at oo
  have F2 : FunD K el.d.name el.d.qual el.d.params el.d.body el.d.scope [] [] (He.fAd K el.d.at_) fd := by
    have q1 : el.d.dvs K = [] := by unfold He.DefD.dvs; rw [List.isEmpty_iff.mp oo.1.1.2]; rfl
    have q2 : el.d.kws K = [] := by unfold He.DefD.kws; rw [List.isEmpty_iff.mp oo.1.2]; rfl
    rw [q1, q2] at F
    exact F
  refine lawG (x := sn) (fd := fd) (sp := spI ⟨K, fun c => (cns[c]?).map (He.ga K)⟩ (callF (tnOf es) (D + 1) nl)) KX G.T.g G.T.b G.T.builtins G.T.nolimit hg hobj hints (Nat.le_trans hlen hn2) hr (fun base hK hN => ?_) (fun s u => ?_) (fun H hA hS => ?_)
  · have := (tab_ok (P := l.prog) (w := w) (base := base) c KX G.T.g hok hb (L := ⟨K, fun c => (cns[c]?).map (He.ga K)⟩) rfl rfl (D + 1)).1 nl el fa fd hl (by rw [efa, ea]) (by rw [efa, ← ea]; exact F2)
    rw [hps] at this
    exact this
  · have := F2.bindsA (ps := el.ps) (hb el hm) s [u] (by rw [hps] <;> rfl)
    rw [hps] at this
    exact this
  · obtain ⟨M', e⟩ := main ns hlen
    exact ⟨H, [], [], [.scr (ns.map .int)], _, M', stt_nil H, .cons (.scr hS (reps_ints ns)) .nil, e, fun F' μ' H' x S r => r.inv_bl⟩
end Ev
end
section -- K02E
namespace K02
open PySem PySem.Spec PyProof.Rows L2 Ev
def topS (i : Nat) : Stmt := PySem.Challenge.pw_evenlags_k02_whole_covers.main.body.getD i (.Pass ⟨0, 0, 0, 0⟩)
def inS (s : Stmt) (j : Nat) : Stmt := match s with
  | .ClassDef _ _ _ b _ _ _ _ _ _ _ => b.getD j (.Pass ⟨0, 0, 0, 0⟩)
  | s => s
/-- _law_begin(_law_script): _law_script 0 -/
def t0 : S := (.cons (.ret (.boxD ["cells", "at", "left", "used"] (.cons (.box (.bin .add (.var 0) (.disp (.cons (.cst (.int (0))) .nil)))) (.cons (.cst (.int (0))) (.cons (.cst (.int (0))) (.cons (.cst (.int (0))) .nil)))))) .nil)
def e0 : Ent := ⟨⟨("_law_begin", none), "_law_begin", "_law_begin", defArgs (topS 40), defBody (topS 40), defScope (topS 40), [], []⟩, [("_law_script" : Str)], [("_law_script" : Str)], ⟨1, 1, t0⟩⟩
theorem b0 : BindEnt e0 := fun _ _ _ _ _ _ us hl => match us, hl with
  | [_], _ => rfl
/-- is_integer(thing): thing 0 -/
def t1 : S := (.cons (.ret (.and (.isi (.var 0) .int) (.no (.isi (.var 0) .bool)))) .nil)
def e1 : Ent := ⟨⟨("is_integer", none), "is_integer", "is_integer", defArgs (topS 20), defBody (topS 20), defScope (topS 20), [], []⟩, [("thing" : Str)], [("thing" : Str)], ⟨1, 1, t1⟩⟩
theorem b1 : BindEnt e1 := fun _ _ _ _ _ _ us hl => match us, hl with
  | [_], _ => rfl
/-- is_whole(thing, least, most): thing 0 least 1 most 2 -/
def t2 : S := (.cons (.ret (.and (.call 1 (.cons (.var 0) .nil)) (.cmp2 .le .le (.var 1) (.var 0) (.var 2)))) .nil)
def e2 : Ent := ⟨⟨("is_whole", none), "is_whole", "is_whole", defArgs (topS 21), defBody (topS 21), defScope (topS 21), [], []⟩, [("thing" : Str), ("least" : Str), ("most" : Str)], [("thing" : Str), ("least" : Str), ("most" : Str)], ⟨3, 3, t2⟩⟩
theorem b2 : BindEnt e2 := fun _ _ _ _ _ _ us hl => match us, hl with
  | [_, _, _], _ => rfl
/-- need_names(names): names 0 -/
def t3 : S := (.cons (.ite (.no (.call 2 (.cons (.var 0) (.cons (.cst (.int (1))) (.cons (.glo "MOST_NAMES" (.int (6))) .nil))))) (.cons .rai .nil) .nil) .nil)
def e3 : Ent := ⟨⟨("need_names", none), "need_names", "need_names", defArgs (topS 23), defBody (topS 23), defScope (topS 23), [], []⟩, [("names" : Str)], [("names" : Str)], ⟨1, 1, t3⟩⟩
theorem b3 : BindEnt e3 := fun _ _ _ _ _ _ us hl => match us, hl with
  | [_], _ => rfl
/-- are_whole(thing, many, least, most): thing 0 many 1 least 2 most 3 item 4 -/
def t4 : S := (.cons (.ite (.or (.no (.isi (.var 0) .tup)) (.cmp .ne (.bi .len (.cons (.var 0) .nil)) (.var 1))) (.cons (.ret (.cst (.bl false))) .nil) .nil) (.cons (.ret (.bi .all (.cons (.comp (.and (.call 1 (.cons (.var 4) .nil)) (.and (.cmp .ge (.var 4) (.var 2)) (.or (.cmp .is (.var 3) (.cst .non)) (.cmp .le (.var 4) (.var 3))))) (.seq (.var 0)) (.cst (.bl true)) (.var 4) [4]) .nil))) .nil))
def e4 : Ent := ⟨⟨("are_whole", none), "are_whole", "are_whole", defArgs (topS 22), defBody (topS 22), defScope (topS 22), [], []⟩, [("thing" : Str), ("many" : Str), ("least" : Str), ("most" : Str), ("item" : Str)], [("thing" : Str), ("many" : Str), ("least" : Str), ("most" : Str)], ⟨4, 5, t4⟩⟩
theorem b4 : BindEnt e4 := fun _ _ _ _ _ _ us hl => match us, hl with
  | [_, _, _, _], _ => rfl
/-- need_sum(names, row): names 0 row 1 -/
def t5 : S := (.cons (.ite (.no (.call 4 (.cons (.var 1) (.cons (.var 0) (.cons (.cst (.int (0))) (.cons (.glo "MOST_ITEM" (.int (1000000))) .nil)))))) (.cons .rai .nil) .nil) .nil)
def e5 : Ent := ⟨⟨("need_sum", none), "need_sum", "need_sum", defArgs (topS 25), defBody (topS 25), defScope (topS 25), [], []⟩, [("names" : Str), ("row" : Str)], [("names" : Str), ("row" : Str)], ⟨2, 2, t5⟩⟩
theorem b5 : BindEnt e5 := fun _ _ _ _ _ _ us hl => match us, hl with
  | [_, _], _ => rfl
/-- is_high(names, thing): names 0 thing 1 row 2 -/
def t6 : S := (.cons (.ite (.or (.no (.isi (.var 1) .tup)) (.no (.cmp2 .le .le (.cst (.int (1))) (.bi .len (.cons (.var 1) .nil)) (.glo "MOST_SUMS" (.int (60)))))) (.cons (.ret (.cst (.bl false))) .nil) .nil) (.cons (.ret (.bi .all (.cons (.comp (.call 4 (.cons (.var 2) (.cons (.var 0) (.cons (.cst (.int (0))) (.cons (.glo "MOST_ITEM" (.int (1000000))) .nil))))) (.seq (.var 1)) (.cst (.bl true)) (.var 2) [2]) .nil))) .nil))
def e6 : Ent := ⟨⟨("is_high", none), "is_high", "is_high", defArgs (topS 24), defBody (topS 24), defScope (topS 24), [], []⟩, [("names" : Str), ("thing" : Str), ("row" : Str)], [("names" : Str), ("thing" : Str)], ⟨2, 3, t6⟩⟩
theorem b6 : BindEnt e6 := fun _ _ _ _ _ _ us hl => match us, hl with
  | [_, _], _ => rfl
/-- need_high(names, high): names 0 high 1 -/
def t7 : S := (.cons (.ite (.no (.call 6 (.cons (.var 0) (.cons (.var 1) .nil)))) (.cons .rai .nil) .nil) .nil)
def e7 : Ent := ⟨⟨("need_high", none), "need_high", "need_high", defArgs (topS 26), defBody (topS 26), defScope (topS 26), [], []⟩, [("names" : Str), ("high" : Str)], [("names" : Str), ("high" : Str)], ⟨2, 2, t7⟩⟩
theorem b7 : BindEnt e7 := fun _ _ _ _ _ _ us hl => match us, hl with
  | [_, _], _ => rfl
/-- entering(row): row 0 number 1 item 2 -/
def t8 : S := (.cons (.«for» (.tup (.cons (.var 1) (.cons (.var 2) .nil))) (.enum (.slc (.var 0) (.cst .non) (.neg (.cst (.int (1)))))) (.cons (.ite (.cmp .lt (.var 2) (.cst (.int (0)))) (.cons (.ret (.var 1)) .nil) .nil) .nil)) (.cons (.ret (.cst .non)) .nil))
def e8 : Ent := ⟨⟨("entering", none), "entering", "entering", defArgs (topS 4), defBody (topS 4), defScope (topS 4), [], []⟩, [("row" : Str), ("number" : Str), ("item" : Str)], [("row" : Str)], ⟨1, 3, t8⟩⟩
theorem b8 : BindEnt e8 := fun _ _ _ _ _ _ us hl => match us, hl with
  | [_], _ => rfl
/-- is_sooner(table, basis, at, best, column): table 0 basis 1 at 2 best 3 column 4 mine 5 other 6 -/
def t9 : S := (.cons (.par [(5, false), (6, false)] (.cons (.bin .mul (.idx (.idx (.var 0) (.var 2)) (.neg (.cst (.int (1))))) (.idx (.idx (.var 0) (.var 3)) (.var 4))) (.cons (.bin .mul (.idx (.idx (.var 0) (.var 3)) (.neg (.cst (.int (1))))) (.idx (.idx (.var 0) (.var 2)) (.var 4))) .nil))) (.cons (.ret (.or (.cmp .lt (.var 5) (.var 6)) (.and (.cmp .eq (.var 5) (.var 6)) (.cmp .lt (.idx (.var 1) (.var 2)) (.idx (.var 1) (.var 3)))))) .nil))
def e9 : Ent := ⟨⟨("is_sooner", none), "is_sooner", "is_sooner", defArgs (topS 3), defBody (topS 3), defScope (topS 3), [], []⟩, [("table" : Str), ("basis" : Str), ("at" : Str), ("best" : Str), ("column" : Str), ("mine" : Str), ("other" : Str)], [("table" : Str), ("basis" : Str), ("at" : Str), ("best" : Str), ("column" : Str)], ⟨5, 7, t9⟩⟩
theorem b9 : BindEnt e9 := fun _ _ _ _ _ _ us hl => match us, hl with
  | [_, _, _, _, _], _ => rfl
/-- leaving(table, basis, column): table 0 basis 1 column 2 best 3 at 4 -/
def t10 : S := (.cons (.asg 3 (.cst .non)) (.cons (.«for» (.var 4) (.rng1 (.bi .len (.cons (.var 1) .nil))) (.cons (.ite (.and (.cmp .gt (.idx (.idx (.var 0) (.var 4)) (.var 2)) (.cst (.int (0)))) (.or (.cmp .is (.var 3) (.cst .non)) (.call 9 (.cons (.var 0) (.cons (.var 1) (.cons (.var 4) (.cons (.var 3) (.cons (.var 2) .nil)))))))) (.cons (.asg 3 (.var 4)) .nil) .nil) .nil)) (.cons (.ret (.var 3)) .nil)))
def e10 : Ent := ⟨⟨("leaving", none), "leaving", "leaving", defArgs (topS 2), defBody (topS 2), defScope (topS 2), [], []⟩, [("table" : Str), ("basis" : Str), ("column" : Str), ("best" : Str), ("at" : Str)], [("table" : Str), ("basis" : Str), ("column" : Str)], ⟨3, 5, t10⟩⟩
theorem b10 : BindEnt e10 := fun _ _ _ _ _ _ us hl => match us, hl with
  | [_, _, _], _ => rfl
/-- pivoted(table, at, column, below): table 0 at 1 column 2 below 3 lead 4 found 5 number 6 row 7 factor 8 item 9 own 10 -/
def t11 : S := (.cons (.asg 4 (.idx (.idx (.var 0) (.var 1)) (.var 2))) (.cons (.own 5 (.disp .nil)) (.cons (.«for» (.tup (.cons (.var 6) (.cons (.var 7) .nil))) (.enum (.var 0)) (.cons (.ite (.cmp .eq (.var 6) (.var 1)) (.cons (.app 5 (.var 7)) .nil) (.cons (.asg 8 (.idx (.var 7) (.var 2))) (.cons (.app 5 (.comp (.bin .fdiv (.bin .sub (.bin .mul (.var 9) (.var 4)) (.bin .mul (.var 8) (.var 10))) (.var 3)) (.zip (.var 7) (.idx (.var 0) (.var 1))) (.cst (.bl true)) (.tup (.cons (.var 9) (.cons (.var 10) .nil))) [9, 10])) .nil))) .nil)) (.cons (.frz 5) (.cons (.ret (.var 5)) .nil)))))
def e11 : Ent := ⟨⟨("pivoted", none), "pivoted", "pivoted", defArgs (topS 1), defBody (topS 1), defScope (topS 1), [], []⟩, [("table" : Str), ("at" : Str), ("column" : Str), ("below" : Str), ("lead" : Str), ("found" : Str), ("number" : Str), ("row" : Str), ("factor" : Str), ("item" : Str), ("own" : Str)], [("table" : Str), ("at" : Str), ("column" : Str), ("below" : Str)], ⟨4, 11, t11⟩⟩
theorem b11 : BindEnt e11 := fun _ _ _ _ _ _ us hl => match us, hl with
  | [_, _, _, _], _ => rfl
/-- ray_of(table, basis, column, below, many): table 0 basis 1 column 2 below 3 many 4 found 5 at 6 own 7 -/
def t12 : S := (.cons (.own 5 (.bin .mul (.disp (.cons (.cst (.int (0))) .nil)) (.var 4))) (.cons (.ite (.cmp .lt (.var 2) (.var 4)) (.cons (.set (.idx (.var 5) (.var 2)) (.var 3)) .nil) .nil) (.cons (.«for» (.tup (.cons (.var 6) (.cons (.var 7) .nil))) (.enum (.var 1)) (.cons (.ite (.cmp .lt (.var 7) (.var 4)) (.cons (.set (.idx (.var 5) (.var 7)) (.neg (.idx (.idx (.var 0) (.var 6)) (.var 2)))) .nil) .nil) .nil)) (.cons (.ret (.bi .tupOf (.cons (.var 5) .nil))) .nil))))
def e12 : Ent := ⟨⟨("ray_of", none), "ray_of", "ray_of", defArgs (topS 5), defBody (topS 5), defScope (topS 5), [], []⟩, [("table" : Str), ("basis" : Str), ("column" : Str), ("below" : Str), ("many" : Str), ("found" : Str), ("at" : Str), ("own" : Str)], [("table" : Str), ("basis" : Str), ("column" : Str), ("below" : Str), ("many" : Str)], ⟨5, 8, t12⟩⟩
theorem b12 : BindEnt e12 := fun _ _ _ _ _ _ us hl => match us, hl with
  | [_, _, _, _, _], _ => rfl
/-- decided(rows, width): rows 0 width 1 many 2 table 3 number 4 basis 5 below 6 column 7 at 8 lead 9 row 10 other 11 -/
def t13 : S := (.cons (.asg 2 (.bi .len (.cons (.var 0) .nil))) (.cons (.own 3 (.disp .nil)) (.cons (.«for» (.var 4) (.rng1 (.var 1)) (.cons (.app 3 (.bin .add (.bin .add (.comp (.idx (.var 10) (.var 4)) (.seq (.var 0)) (.cst (.bl true)) (.var 10) [10]) (.comp (.bi .intOf (.cons (.cmp .eq (.var 4) (.var 11)) .nil)) (.rng1 (.var 1)) (.cst (.bl true)) (.var 11) [11])) (.disp (.cons (.cst (.int (1))) .nil)))) .nil)) (.cons (.app 3 (.bin .add (.bin .add (.bin .mul (.disp (.cons (.neg (.cst (.int (1)))) .nil)) (.var 2)) (.bin .mul (.disp (.cons (.cst (.int (0))) .nil)) (.var 1))) (.disp (.cons (.cst (.int (0))) .nil)))) (.cons (.par [(5, true), (6, false)] (.cons (.rngl (.var 2) (.bin .add (.var 2) (.var 1)) false false) (.cons (.cst (.int (1))) .nil))) (.cons (.asg 7 (.call 8 (.cons (.idx (.var 3) (.neg (.cst (.int (1))))) .nil))) (.cons (.whl (.cmp .isnot (.var 7) (.cst .non)) (.cons (.frz 3) (.cons (.asg 8 (.callB 10 (.cons (.var 3) (.cons (.var 5) (.cons (.var 7) .nil))))) (.cons (.ite (.cmp .is (.var 8) (.cst .non)) (.cons (.frz 3) (.cons (.ret (.tup (.cons (.callB 12 (.cons (.var 3) (.cons (.var 5) (.cons (.var 7) (.cons (.var 6) (.cons (.var 2) .nil)))))) (.cons (.cst .non) .nil)))) .nil)) .nil) (.cons (.asg 9 (.idx (.idx (.var 3) (.var 8)) (.var 7))) (.cons (.frz 3) (.cons (.asg 3 (.call 11 (.cons (.var 3) (.cons (.var 8) (.cons (.var 7) (.cons (.var 6) .nil)))))) (.cons (.multi (.cons (.idx (.var 5) (.var 8)) (.cons (.var 6) .nil)) (.tup (.cons (.var 7) (.cons (.var 9) .nil)))) (.cons (.asg 7 (.call 8 (.cons (.idx (.var 3) (.neg (.cst (.int (1))))) .nil))) .nil))))))))) (.cons (.ret (.tup (.cons (.cst .non) (.cons (.bi .tupOf (.cons (.slc (.idx (.var 3) (.neg (.cst (.int (1))))) (.var 2) (.bin .add (.var 2) (.var 1))) .nil)) .nil)))) .nil))))))))
def e13 : Ent := ⟨⟨("decided", none), "decided", "decided", defArgs (topS 6), defBody (topS 6), defScope (topS 6), [], []⟩, [("rows" : Str), ("width" : Str), ("many" : Str), ("table" : Str), ("number" : Str), ("basis" : Str), ("below" : Str), ("column" : Str), ("at" : Str), ("lead" : Str), ("row" : Str), ("other" : Str)], [("rows" : Str), ("width" : Str)], ⟨2, 12, t13⟩⟩
theorem b13 : BindEnt e13 := fun _ _ _ _ _ _ us hl => match us, hl with
  | [_, _], _ => rfl
/-- less(row, other): row 0 other 1 item 2 far 3 -/
def t14 : S := (.cons (.ret (.comp (.bin .sub (.var 2) (.var 3)) (.zip (.var 0) (.var 1)) (.cst (.bl true)) (.tup (.cons (.var 2) (.cons (.var 3) .nil))) [2, 3])) .nil)
def e14 : Ent := ⟨⟨("less", none), "less", "less", defArgs (topS 30), defBody (topS 30), defScope (topS 30), [], []⟩, [("row" : Str), ("other" : Str), ("item" : Str), ("far" : Str)], [("row" : Str), ("other" : Str)], ⟨2, 4, t14⟩⟩
theorem b14 : BindEnt e14 := fun _ _ _ _ _ _ us hl => match us, hl with
  | [_, _], _ => rfl
/-- cover_in(row, high): row 0 high 1 number 2 own 3 item 4 far 5 other 6 -/
def t15 : S := (.cons (.«for» (.tup (.cons (.var 2) (.cons (.var 3) .nil))) (.enum (.var 1)) (.cons (.ite (.bi .all (.cons (.comp (.cmp .le (.var 4) (.var 5)) (.zip (.var 0) (.var 3)) (.cst (.bl true)) (.tup (.cons (.var 4) (.cons (.var 5) .nil))) [4, 5]) .nil)) (.cons (.ret (.tup (.cons (.bi .tupOf (.cons (.comp (.bi .intOf (.cons (.cmp .eq (.var 2) (.var 6)) .nil)) (.rng1 (.bi .len (.cons (.var 1) .nil))) (.cst (.bl true)) (.var 6) [6]) .nil)) (.cons (.cst .non) .nil)))) .nil) .nil) .nil)) (.cons (.ret (.call 13 (.cons (.comp (.call 14 (.cons (.var 0) (.cons (.var 3) .nil))) (.seq (.var 1)) (.cst (.bl true)) (.var 3) [3]) (.cons (.bi .len (.cons (.var 0) .nil)) .nil)))) .nil))
def e15 : Ent := ⟨⟨("cover_in", none), "cover_in", "cover_in", defArgs (topS 31), defBody (topS 31), defScope (topS 31), [], []⟩, [("row" : Str), ("high" : Str), ("number" : Str), ("own" : Str), ("item" : Str), ("far" : Str), ("other" : Str)], [("row" : Str), ("high" : Str)], ⟨2, 7, t15⟩⟩
theorem b15 : BindEnt e15 := fun _ _ _ _ _ _ us hl => match us, hl with
  | [_, _], _ => rfl
/-- is_covered(names, row, high): names 0 row 1 high 2 -/
def t16 : S := (.cons (.ex (.call 3 (.cons (.var 0) .nil))) (.cons (.ex (.call 5 (.cons (.var 0) (.cons (.var 1) .nil)))) (.cons (.ex (.call 7 (.cons (.var 0) (.cons (.var 2) .nil)))) (.cons (.ret (.cmp .is (.idx (.call 15 (.cons (.var 1) (.cons (.var 2) .nil))) (.cst (.int (1)))) (.cst .non))) .nil))))
def e16 : Ent := ⟨⟨("is_covered", none), "is_covered", "is_covered", defArgs (topS 32), defBody (topS 32), defScope (topS 32), [], []⟩, [("names" : Str), ("row" : Str), ("high" : Str)], [("names" : Str), ("row" : Str), ("high" : Str)], ⟨3, 3, t16⟩⟩
theorem b16 : BindEnt e16 := fun _ _ _ _ _ _ us hl => match us, hl with
  | [_, _, _], _ => rfl
/-- _law_next(_law_draw, _law_many): _law_draw 0 _law_many 1 _law_cell 2 _law_cells 3 _law_number 4 _law_k 5 -/
def t17 : S := (.cons (.ite (.cmp .gt (.idx (.var 0) (.cst (.str "left"))) (.cst (.int (0)))) (.cons (.multi (.cons (.var 2) (.cons (.idx (.var 0) (.cst (.str "left"))) .nil)) (.tup (.cons (.idx (.var 0) (.cst (.str "left"))) (.cons (.bin .fdiv (.idx (.var 0) (.cst (.str "left"))) (.var 1)) .nil)))) (.cons (.ret (.bin .mod (.var 2) (.var 1))) .nil)) .nil) (.cons (.asg 3 (.idx (.var 0) (.cst (.str "cells")))) (.cons (.asg 2 (.idx (.var 3) (.bin .mod (.idx (.var 0) (.cst (.str "at"))) (.bi .len (.cons (.var 3) .nil))))) (.cons (.set (.idx (.var 0) (.cst (.str "at"))) (.bin .add (.idx (.var 0) (.cst (.str "at"))) (.cst (.int (1))))) (.cons (.ite (.and (.cmp .ge (.var 2) (.bin .pow (.cst (.int (10))) (.cst (.int (18))))) (.cmp .le (.idx (.var 0) (.cst (.str "at"))) (.bi .len (.cons (.var 3) .nil)))) (.cons (.set (.idx (.var 0) (.cst (.str "left"))) (.bin .fdiv (.var 2) (.var 1))) (.cons (.ret (.bin .mod (.var 2) (.var 1))) .nil)) .nil) (.cons (.set (.idx (.var 0) (.cst (.str "used"))) (.bin .add (.idx (.var 0) (.cst (.str "used"))) (.cst (.int (1))))) (.cons (.asg 4 (.bin .add (.bin .mod (.var 2) (.cst (.int (1000000007)))) (.bin .mul (.bin .mul (.cst (.int (7919))) (.idx (.var 0) (.cst (.str "used")))) (.idx (.var 0) (.cst (.str "used")))))) (.cons (.«for» (.var 5) (.seq (.tup (.cons (.idx (.var 0) (.cst (.str "at"))) (.cons (.idx (.var 0) (.cst (.str "used"))) .nil)))) (.cons (.asg 4 (.bin .mod (.bin .mul (.bin .add (.bin .add (.var 4) (.bin .mul (.cst (.int (31))) (.var 5))) (.cst (.int (7)))) (.cst (.int (48271)))) (.cst (.int (2147483647))))) (.cons (.asg 4 (.bin .mod (.bin .mul (.var 4) (.bin .add (.cst (.int (69621))) (.bin .mul (.cst (.int (2))) (.bin .mod (.var 5) (.cst (.int (1000))))))) (.cst (.int (2147483629))))) .nil))) (.cons (.ret (.bin .mod (.bin .fdiv (.var 4) (.cst (.int (7)))) (.var 1))) .nil)))))))))
def e17 : Ent := ⟨⟨("_law_next", none), "_law_next", "_law_next", defArgs (topS 41), defBody (topS 41), defScope (topS 41), [], []⟩, [("_law_draw" : Str), ("_law_many" : Str), ("_law_cell" : Str), ("_law_cells" : Str), ("_law_number" : Str), ("_law_k" : Str)], [("_law_draw" : Str), ("_law_many" : Str)], ⟨2, 6, t17⟩⟩
theorem b17 : BindEnt e17 := fun _ _ _ _ _ _ us hl => match us, hl with
  | [_, _], _ => rfl
/-- _law_sum(_law_draw, _law_names, _law_most): _law_draw 0 _law_names 1 _law_most 2 _law_k 3 -/
def t18 : S := (.cons (.ret (.bi .tupOf (.cons (.comp (.ite (.cmp .gt (.call 17 (.cons (.var 0) (.cons (.cst (.int (3))) .nil))) (.cst (.int (0)))) (.call 17 (.cons (.var 0) (.cons (.bin .add (.var 2) (.cst (.int (1)))) .nil))) (.cst (.int (0)))) (.rng1 (.var 1)) (.cst (.bl true)) (.var 3) [3]) .nil))) .nil)
def e18 : Ent := ⟨⟨("_law_sum", none), "_law_sum", "_law_sum", defArgs (topS 43), defBody (topS 43), defScope (topS 43), [], []⟩, [("_law_draw" : Str), ("_law_names" : Str), ("_law_most" : Str), ("_law_k" : Str)], [("_law_draw" : Str), ("_law_names" : Str), ("_law_most" : Str)], ⟨3, 4, t18⟩⟩
theorem b18 : BindEnt e18 := fun _ _ _ _ _ _ us hl => match us, hl with
  | [_, _, _], _ => rfl
/-- _law_tops(_law_draw, _law_names, _law_many, _law_most): _law_draw 0 _law_names 1 _law_many 2 _law_most 3 _law_k 4 -/
def t19 : S := (.cons (.ret (.bi .tupOf (.cons (.comp (.call 18 (.cons (.var 0) (.cons (.var 1) (.cons (.var 3) .nil)))) (.rng1 (.bin .add (.cst (.int (1))) (.call 17 (.cons (.var 0) (.cons (.var 2) .nil))))) (.cst (.bl true)) (.var 4) [4]) .nil))) .nil)
def e19 : Ent := ⟨⟨("_law_tops", none), "_law_tops", "_law_tops", defArgs (topS 44), defBody (topS 44), defScope (topS 44), [], []⟩, [("_law_draw" : Str), ("_law_names" : Str), ("_law_many" : Str), ("_law_most" : Str), ("_law_k" : Str)], [("_law_draw" : Str), ("_law_names" : Str), ("_law_many" : Str), ("_law_most" : Str)], ⟨4, 5, t19⟩⟩
theorem b19 : BindEnt e19 := fun _ _ _ _ _ _ us hl => match us, hl with
  | [_, _, _, _], _ => rfl
/-- _law_pick(_law_draw, _law_some): _law_draw 0 _law_some 1 -/
def t20 : S := (.cons (.ret (.idx (.var 1) (.call 17 (.cons (.var 0) (.cons (.bi .len (.cons (.var 1) .nil)) .nil))))) .nil)
def e20 : Ent := ⟨⟨("_law_pick", none), "_law_pick", "_law_pick", defArgs (topS 42), defBody (topS 42), defScope (topS 42), [], []⟩, [("_law_draw" : Str), ("_law_some" : Str)], [("_law_draw" : Str), ("_law_some" : Str)], ⟨2, 2, t20⟩⟩
theorem b20 : BindEnt e20 := fun _ _ _ _ _ _ us hl => match us, hl with
  | [_, _], _ => rfl
/-- _law_mean(_law_draw, _law_names, _law_high): _law_draw 0 _law_names 1 _law_high 2 _law_some 3 _law_whole 4 _law_found 5 _law_at 6 _law_row 7 _law_part 8 -/
def t21 : S := (.cons (.asg 3 (.comp (.call 17 (.cons (.var 0) (.cons (.cst (.int (3))) .nil))) (.seq (.var 2)) (.cst (.bl true)) (.var 7) [7])) (.cons (.asg 4 (.bi .sum (.cons (.var 3) .nil))) (.cons (.own 5 (.comp (.bin .fdiv (.bi .sum (.cons (.comp (.bin .mul (.idx (.var 7) (.var 6)) (.var 8)) (.zip (.var 2) (.var 3)) (.cst (.bl true)) (.tup (.cons (.var 7) (.cons (.var 8) .nil))) [7, 8]) .nil)) (.bi .max2 (.cons (.cst (.int (1))) (.cons (.var 4) .nil)))) (.rng1 (.var 1)) (.cst (.bl true)) (.var 6) [6])) (.cons (.asg 6 (.call 17 (.cons (.var 0) (.cons (.var 1) .nil)))) (.cons (.set (.idx (.var 5) (.var 6)) (.bi .max2 (.cons (.cst (.int (0))) (.cons (.bin .sub (.bin .add (.idx (.var 5) (.var 6)) (.call 17 (.cons (.var 0) (.cons (.cst (.int (3))) .nil)))) (.cst (.int (1)))) .nil)))) (.cons (.ret (.bi .tupOf (.cons (.var 5) .nil))) .nil))))))
def e21 : Ent := ⟨⟨("_law_mean", none), "_law_mean", "_law_mean", defArgs (topS 45), defBody (topS 45), defScope (topS 45), [], []⟩, [("_law_draw" : Str), ("_law_names" : Str), ("_law_high" : Str), ("_law_some" : Str), ("_law_whole" : Str), ("_law_found" : Str), ("_law_at" : Str), ("_law_row" : Str), ("_law_part" : Str)], [("_law_draw" : Str), ("_law_names" : Str), ("_law_high" : Str)], ⟨3, 9, t21⟩⟩
theorem b21 : BindEnt e21 := fun _ _ _ _ _ _ us hl => match us, hl with
  | [_, _, _], _ => rfl
/-- cover_paper(names, row, high): names 0 row 1 high 2 weights 3 lags 4 -/
def t22 : S := (.cons (.ex (.call 3 (.cons (.var 0) .nil))) (.cons (.ex (.call 5 (.cons (.var 0) (.cons (.var 1) .nil)))) (.cons (.ex (.call 7 (.cons (.var 0) (.cons (.var 2) .nil)))) (.cons (.multi (.cons (.var 3) (.cons (.var 4) .nil)) (.call 15 (.cons (.var 1) (.cons (.var 2) .nil)))) (.cons (.ret (.ite (.cmp .is (.var 4) (.cst .non)) (.tup (.cons (.glo "WEIGHTS" (.str "weights")) (.cons (.var 3) .nil))) (.tup (.cons (.glo "LAGS" (.str "lags")) (.cons (.var 4) .nil))))) .nil)))))
def e22 : Ent := ⟨⟨("cover_paper", none), "cover_paper", "cover_paper", defArgs (topS 33), defBody (topS 33), defScope (topS 33), [], []⟩, [("names" : Str), ("row" : Str), ("high" : Str), ("weights" : Str), ("lags" : Str)], [("names" : Str), ("row" : Str), ("high" : Str)], ⟨3, 5, t22⟩⟩
theorem b22 : BindEnt e22 := fun _ _ _ _ _ _ us hl => match us, hl with
  | [_, _, _], _ => rfl
/-- _law_are_amounts(_law_thing, _law_many): _law_thing 0 _law_many 1 _law_item 2 -/
def t23 : S := (.cons (.ite (.or (.no (.isi (.var 0) .tup)) (.cmp .ne (.bi .len (.cons (.var 0) .nil)) (.var 1))) (.cons (.ret (.cst (.bl false))) .nil) .nil) (.cons (.«for» (.var 2) (.seq (.var 0)) (.cons (.ite (.or (.no (.isi (.var 2) .int)) (.or (.isi (.var 2) .bool) (.cmp .lt (.var 2) (.cst (.int (0)))))) (.cons (.ret (.cst (.bl false))) .nil) .nil) .nil)) (.cons (.ret (.cst (.bl true))) .nil)))
def e23 : Ent := ⟨⟨("_law_are_amounts", none), "_law_are_amounts", "_law_are_amounts", defArgs (topS 46), defBody (topS 46), defScope (topS 46), [], []⟩, [("_law_thing" : Str), ("_law_many" : Str), ("_law_item" : Str)], [("_law_thing" : Str), ("_law_many" : Str)], ⟨2, 3, t23⟩⟩
theorem b23 : BindEnt e23 := fun _ _ _ _ _ _ us hl => match us, hl with
  | [_, _], _ => rfl
/-- _law_item_sum(_law_high, _law_weights, _law_at): _law_high 0 _law_weights 1 _law_at 2 _law_row 3 _law_weight 4 -/
def t24 : S := (.cons (.ret (.bi .sum (.cons (.comp (.bin .mul (.idx (.var 3) (.var 2)) (.var 4)) (.zip (.var 0) (.var 1)) (.cst (.bl true)) (.tup (.cons (.var 3) (.cons (.var 4) .nil))) [3, 4]) .nil))) .nil)
def e24 : Ent := ⟨⟨("_law_item_sum", none), "_law_item_sum", "_law_item_sum", defArgs (topS 47), defBody (topS 47), defScope (topS 47), [], []⟩, [("_law_high" : Str), ("_law_weights" : Str), ("_law_at" : Str), ("_law_row" : Str), ("_law_weight" : Str)], [("_law_high" : Str), ("_law_weights" : Str), ("_law_at" : Str)], ⟨3, 5, t24⟩⟩
theorem b24 : BindEnt e24 := fun _ _ _ _ _ _ us hl => match us, hl with
  | [_, _, _], _ => rfl
/-- _law_are_weights(_law_row, _law_high, _law_thing): _law_row 0 _law_high 1 _law_thing 2 _law_at 3 -/
def t25 : S := (.cons (.ite (.or (.no (.call 23 (.cons (.var 2) (.cons (.bi .len (.cons (.var 1) .nil)) .nil)))) (.cmp .eq (.bi .sum (.cons (.var 2) .nil)) (.cst (.int (0))))) (.cons (.ret (.cst (.bl false))) .nil) .nil) (.cons (.«for» (.var 3) (.rng1 (.bi .len (.cons (.var 0) .nil))) (.cons (.ite (.cmp .gt (.bin .mul (.idx (.var 0) (.var 3)) (.bi .sum (.cons (.var 2) .nil))) (.call 24 (.cons (.var 1) (.cons (.var 2) (.cons (.var 3) .nil))))) (.cons (.ret (.cst (.bl false))) .nil) .nil) .nil)) (.cons (.ret (.cst (.bl true))) .nil)))
def e25 : Ent := ⟨⟨("_law_are_weights", none), "_law_are_weights", "_law_are_weights", defArgs (topS 48), defBody (topS 48), defScope (topS 48), [], []⟩, [("_law_row" : Str), ("_law_high" : Str), ("_law_thing" : Str), ("_law_at" : Str)], [("_law_row" : Str), ("_law_high" : Str), ("_law_thing" : Str)], ⟨3, 4, t25⟩⟩
theorem b25 : BindEnt e25 := fun _ _ _ _ _ _ us hl => match us, hl with
  | [_, _, _], _ => rfl
/-- _law_are_lags(_law_one, _law_other, _law_thing): _law_one 0 _law_other 1 _law_thing 2 _law_tops_here 3 _law_some 4 _law_row 5 _law_item 6 _law_amount 7 -/
def t26 : S := (.cons (.ite (.no (.call 23 (.cons (.var 2) (.cons (.bi .len (.cons (.idx (.var 0) (.cst (.int (0)))) .nil)) .nil)))) (.cons (.ret (.cst (.bl false))) .nil) .nil) (.cons (.own 3 (.disp .nil)) (.cons (.«for» (.var 4) (.seq (.tup (.cons (.var 0) (.cons (.var 1) .nil)))) (.cons (.app 3 (.bi .max (.cons (.comp (.bi .sum (.cons (.comp (.bin .mul (.var 6) (.var 7)) (.zip (.var 5) (.var 2)) (.cst (.bl true)) (.tup (.cons (.var 6) (.cons (.var 7) .nil))) [6, 7]) .nil)) (.seq (.var 4)) (.cst (.bl true)) (.var 5) [5]) .nil))) .nil)) (.cons (.ret (.cmp .gt (.idx (.var 3) (.cst (.int (0)))) (.idx (.var 3) (.cst (.int (1)))))) .nil))))
def e26 : Ent := ⟨⟨("_law_are_lags", none), "_law_are_lags", "_law_are_lags", defArgs (topS 49), defBody (topS 49), defScope (topS 49), [], []⟩, [("_law_one" : Str), ("_law_other" : Str), ("_law_thing" : Str), ("_law_tops_here" : Str), ("_law_some" : Str), ("_law_row" : Str), ("_law_item" : Str), ("_law_amount" : Str)], [("_law_one" : Str), ("_law_other" : Str), ("_law_thing" : Str)], ⟨3, 8, t26⟩⟩
theorem b26 : BindEnt e26 := fun _ _ _ _ _ _ us hl => match us, hl with
  | [_, _, _], _ => rfl
/-- _law_covered(_law_names, _law_row, _law_high): _law_names 0 _law_row 1 _law_high 2 _law_told 3 -/
def t27 : S := (.cons (.asg 3 (.call 22 (.cons (.var 0) (.cons (.var 1) (.cons (.bi .tupOf (.cons (.var 2) .nil)) .nil))))) (.cons (.ite (.or (.no (.isi (.var 3) .tup)) (.cmp .ne (.bi .len (.cons (.var 3) .nil)) (.cst (.int (2))))) (.cons (.ret (.cst .non)) .nil) .nil) (.cons (.ite (.and (.cmp .eq (.idx (.var 3) (.cst (.int (0)))) (.cst (.str "weights"))) (.call 25 (.cons (.var 1) (.cons (.var 2) (.cons (.idx (.var 3) (.cst (.int (1)))) .nil))))) (.cons (.ret (.cst (.bl true))) .nil) .nil) (.cons (.ite (.and (.cmp .eq (.idx (.var 3) (.cst (.int (0)))) (.cst (.str "lags"))) (.call 26 (.cons (.tup (.cons (.var 1) .nil)) (.cons (.var 2) (.cons (.idx (.var 3) (.cst (.int (1)))) .nil))))) (.cons (.ret (.cst (.bl false))) .nil) .nil) (.cons (.ret (.cst .non)) .nil)))))
def e27 : Ent := ⟨⟨("_law_covered", none), "_law_covered", "_law_covered", defArgs (topS 50), defBody (topS 50), defScope (topS 50), [], []⟩, [("_law_names" : Str), ("_law_row" : Str), ("_law_high" : Str), ("_law_told" : Str)], [("_law_names" : Str), ("_law_row" : Str), ("_law_high" : Str)], ⟨3, 4, t27⟩⟩
theorem b27 : BindEnt e27 := fun _ _ _ _ _ _ us hl => match us, hl with
  | [_, _, _], _ => rfl
/-- need_form(paper): paper 0 -/
def t28 : S := (.cons (.ite (.or (.no (.isi (.var 0) .tup)) (.or (.cmp .ne (.bi .len (.cons (.var 0) .nil)) (.cst (.int (2)))) (.no (.isi (.idx (.var 0) (.cst (.int (0)))) .str)))) (.cons .rai .nil) .nil) (.cons (.ite (.or (.cmp .notin (.idx (.var 0) (.cst (.int (0)))) (.tup (.cons (.glo "WEIGHTS" (.str "weights")) (.cons (.glo "LAGS" (.str "lags")) .nil)))) (.no (.isi (.idx (.var 0) (.cst (.int (1)))) .tup))) (.cons .rai .nil) .nil) .nil))
def e28 : Ent := ⟨⟨("need_form", none), "need_form", "need_form", defArgs (topS 37), defBody (topS 37), defScope (topS 37), [], []⟩, [("paper" : Str)], [("paper" : Str)], ⟨1, 1, t28⟩⟩
theorem b28 : BindEnt e28 := fun _ _ _ _ _ _ us hl => match us, hl with
  | [_], _ => rfl
/-- product(row, lags): row 0 lags 1 item 2 amount 3 -/
def t29 : S := (.cons (.ret (.bi .sum (.cons (.comp (.bin .mul (.var 2) (.var 3)) (.zip (.var 0) (.var 1)) (.cst (.bl true)) (.tup (.cons (.var 2) (.cons (.var 3) .nil))) [2, 3]) .nil))) .nil)
def e29 : Ent := ⟨⟨("product", none), "product", "product", defArgs (topS 28), defBody (topS 28), defScope (topS 28), [], []⟩, [("row" : Str), ("lags" : Str), ("item" : Str), ("amount" : Str)], [("row" : Str), ("lags" : Str)], ⟨2, 4, t29⟩⟩
theorem b29 : BindEnt e29 := fun _ _ _ _ _ _ us hl => match us, hl with
  | [_, _], _ => rfl
/-- are_weights(row, high, thing): row 0 high 1 thing 2 at 3 item 4 own 5 -/
def t30 : S := (.cons (.ite (.or (.no (.call 4 (.cons (.var 2) (.cons (.bi .len (.cons (.var 1) .nil)) (.cons (.cst (.int (0))) (.cons (.cst .non) .nil)))))) (.cmp .eq (.bi .sum (.cons (.var 2) .nil)) (.cst (.int (0))))) (.cons (.ret (.cst (.bl false))) .nil) .nil) (.cons (.ret (.bi .all (.cons (.comp (.cmp .le (.bin .mul (.bi .sum (.cons (.var 2) .nil)) (.var 4)) (.call 29 (.cons (.comp (.idx (.var 5) (.var 3)) (.seq (.var 1)) (.cst (.bl true)) (.var 5) [5]) (.cons (.var 2) .nil)))) (.enum (.var 0)) (.cst (.bl true)) (.tup (.cons (.var 3) (.cons (.var 4) .nil))) [3, 4]) .nil))) .nil))
def e30 : Ent := ⟨⟨("are_weights", none), "are_weights", "are_weights", defArgs (topS 34), defBody (topS 34), defScope (topS 34), [], []⟩, [("row" : Str), ("high" : Str), ("thing" : Str), ("at" : Str), ("item" : Str), ("own" : Str)], [("row" : Str), ("high" : Str), ("thing" : Str)], ⟨3, 6, t30⟩⟩
theorem b30 : BindEnt e30 := fun _ _ _ _ _ _ us hl => match us, hl with
  | [_, _, _], _ => rfl
/-- high_product(high, lags): high 0 lags 1 row 2 -/
def t31 : S := (.cons (.ret (.bi .max (.cons (.comp (.call 29 (.cons (.var 2) (.cons (.var 1) .nil))) (.seq (.var 0)) (.cst (.bl true)) (.var 2) [2]) .nil))) .nil)
def e31 : Ent := ⟨⟨("high_product", none), "high_product", "high_product", defArgs (topS 36), defBody (topS 36), defScope (topS 36), [], []⟩, [("high" : Str), ("lags" : Str), ("row" : Str)], [("high" : Str), ("lags" : Str)], ⟨2, 3, t31⟩⟩
theorem b31 : BindEnt e31 := fun _ _ _ _ _ _ us hl => match us, hl with
  | [_, _], _ => rfl
/-- are_lags_above(high, other, thing): high 0 other 1 thing 2 -/
def t32 : S := (.cons (.ite (.no (.call 4 (.cons (.var 2) (.cons (.bi .len (.cons (.idx (.var 0) (.cst (.int (0)))) .nil)) (.cons (.cst (.int (0))) (.cons (.cst .non) .nil)))))) (.cons (.ret (.cst (.bl false))) .nil) .nil) (.cons (.ret (.cmp .gt (.call 31 (.cons (.var 0) (.cons (.var 2) .nil))) (.call 31 (.cons (.var 1) (.cons (.var 2) .nil))))) .nil))
def e32 : Ent := ⟨⟨("are_lags_above", none), "are_lags_above", "are_lags_above", defArgs (topS 35), defBody (topS 35), defScope (topS 35), [], []⟩, [("high" : Str), ("other" : Str), ("thing" : Str)], [("high" : Str), ("other" : Str), ("thing" : Str)], ⟨3, 3, t32⟩⟩
theorem b32 : BindEnt e32 := fun _ _ _ _ _ _ us hl => match us, hl with
  | [_, _, _], _ => rfl
/-- check_cover(names, row, high, paper): names 0 row 1 high 2 paper 3 -/
def t33 : S := (.cons (.ex (.call 3 (.cons (.var 0) .nil))) (.cons (.ex (.call 5 (.cons (.var 0) (.cons (.var 1) .nil)))) (.cons (.ex (.call 7 (.cons (.var 0) (.cons (.var 2) .nil)))) (.cons (.ex (.call 28 (.cons (.var 3) .nil))) (.cons (.ite (.and (.cmp .eq (.idx (.var 3) (.cst (.int (0)))) (.glo "WEIGHTS" (.str "weights"))) (.no (.call 30 (.cons (.var 1) (.cons (.var 2) (.cons (.idx (.var 3) (.cst (.int (1)))) .nil)))))) (.cons .rai .nil) .nil) (.cons (.ite (.and (.cmp .eq (.idx (.var 3) (.cst (.int (0)))) (.glo "LAGS" (.str "lags"))) (.no (.call 32 (.cons (.tup (.cons (.var 1) .nil)) (.cons (.var 2) (.cons (.idx (.var 3) (.cst (.int (1)))) .nil)))))) (.cons .rai .nil) .nil) (.cons (.ret (.idx (.var 3) (.cst (.int (0))))) .nil)))))))
def e33 : Ent := ⟨⟨("check_cover", none), "check_cover", "check_cover", defArgs (topS 38), defBody (topS 38), defScope (topS 38), [], []⟩, [("names" : Str), ("row" : Str), ("high" : Str), ("paper" : Str)], [("names" : Str), ("row" : Str), ("high" : Str), ("paper" : Str)], ⟨4, 4, t33⟩⟩
theorem b33 : BindEnt e33 := fun _ _ _ _ _ _ us hl => match us, hl with
  | [_, _, _, _], _ => rfl
/-- need_lags(names, lags): names 0 lags 1 -/
def t34 : S := (.cons (.ite (.no (.call 4 (.cons (.var 1) (.cons (.var 0) (.cons (.cst (.int (0))) (.cons (.cst .non) .nil)))))) (.cons .rai .nil) .nil) .nil)
def e34 : Ent := ⟨⟨("need_lags", none), "need_lags", "need_lags", defArgs (topS 27), defBody (topS 27), defScope (topS 27), [], []⟩, [("names" : Str), ("lags" : Str)], [("names" : Str), ("lags" : Str)], ⟨2, 2, t34⟩⟩
theorem b34 : BindEnt e34 := fun _ _ _ _ _ _ us hl => match us, hl with
  | [_, _], _ => rfl
/-- worth(names, row, lags): names 0 row 1 lags 2 -/
def t35 : S := (.cons (.ex (.call 3 (.cons (.var 0) .nil))) (.cons (.ex (.call 5 (.cons (.var 0) (.cons (.var 1) .nil)))) (.cons (.ex (.call 34 (.cons (.var 0) (.cons (.var 2) .nil)))) (.cons (.ret (.call 29 (.cons (.var 1) (.cons (.var 2) .nil)))) .nil))))
def e35 : Ent := ⟨⟨("worth", none), "worth", "worth", defArgs (topS 29), defBody (topS 29), defScope (topS 29), [], []⟩, [("names" : Str), ("row" : Str), ("lags" : Str)], [("names" : Str), ("row" : Str), ("lags" : Str)], ⟨3, 3, t35⟩⟩
theorem b35 : BindEnt e35 := fun _ _ _ _ _ _ us hl => match us, hl with
  | [_, _, _], _ => rfl
/-- _law_right(_law_draw, _law_names, _law_row, _law_some): _law_draw 0 _law_names 1 _law_row 2 _law_some 3 _law_told 4 _law_due 5 _law_turn 6 _law_lags 7 _law_mine 8 _law_tops_here 9 _law_k 10 _law_item 11 _law_amount 12 _law_own 13 -/
def t36 : S := (.cons (.par [(4, false), (5, false)] (.cons (.call 22 (.cons (.var 1) (.cons (.var 2) (.cons (.var 3) .nil)))) (.cons (.call 27 (.cons (.var 1) (.cons (.var 2) (.cons (.var 3) .nil)))) .nil))) (.cons (.ite (.or (.cmp .is (.var 5) (.cst .non)) (.cmp .ne (.call 16 (.cons (.var 1) (.cons (.var 2) (.cons (.var 3) .nil)))) (.var 5))) (.cons (.ret (.cst (.bl false))) .nil) .nil) (.cons (.ite (.cmp .ne (.call 33 (.cons (.var 1) (.cons (.var 2) (.cons (.var 3) (.cons (.var 4) .nil))))) (.idx (.var 4) (.cst (.int (0))))) (.cons (.ret (.cst (.bl false))) .nil) .nil) (.cons (.ite (.cmp .ne (.bi .reprOf (.cons (.call 22 (.cons (.var 1) (.cons (.var 2) (.cons (.var 3) .nil)))) .nil)) (.bi .reprOf (.cons (.var 4) .nil))) (.cons (.ret (.cst (.bl false))) .nil) .nil) (.cons (.«for» (.var 6) (.rng1 (.cst (.int (4)))) (.cons (.asg 7 (.bi .tupOf (.cons (.comp (.call 20 (.cons (.var 0) (.cons (.disp (.cons (.cst (.int (0))) (.cons (.cst (.int (1))) (.cons (.cst (.int (2))) (.cons (.cst (.int (7))) (.cons (.cst (.int (1000))) (.cons (.bin .pow (.cst (.int (10))) (.cst (.int (12)))) .nil))))))) .nil))) (.rng1 (.var 1)) (.cst (.bl true)) (.var 10) [10]) .nil))) (.cons (.asg 8 (.bi .sum (.cons (.comp (.bin .mul (.var 11) (.var 12)) (.zip (.var 2) (.var 7)) (.cst (.bl true)) (.tup (.cons (.var 11) (.cons (.var 12) .nil))) [11, 12]) .nil))) (.cons (.asg 9 (.comp (.bi .sum (.cons (.comp (.bin .mul (.var 11) (.var 12)) (.zip (.var 13) (.var 7)) (.cst (.bl true)) (.tup (.cons (.var 11) (.cons (.var 12) .nil))) [11, 12]) .nil)) (.seq (.var 3)) (.cst (.bl true)) (.var 13) [13])) (.cons (.ite (.or (.cmp .ne (.call 35 (.cons (.var 1) (.cons (.var 2) (.cons (.var 7) .nil)))) (.var 8)) (.and (.var 5) (.cmp .gt (.var 8) (.bi .max (.cons (.var 9) .nil))))) (.cons (.ret (.cst (.bl false))) .nil) .nil) .nil))))) (.cons (.ret (.cst (.bl true))) .nil))))))
def e36 : Ent := ⟨⟨("_law_right", none), "_law_right", "_law_right", defArgs (topS 51), defBody (topS 51), defScope (topS 51), [], []⟩, [("_law_draw" : Str), ("_law_names" : Str), ("_law_row" : Str), ("_law_some" : Str), ("_law_told" : Str), ("_law_due" : Str), ("_law_turn" : Str), ("_law_lags" : Str), ("_law_mine" : Str), ("_law_tops_here" : Str), ("_law_k" : Str), ("_law_item" : Str), ("_law_amount" : Str), ("_law_own" : Str)], [("_law_draw" : Str), ("_law_names" : Str), ("_law_row" : Str), ("_law_some" : Str)], ⟨4, 14, t36⟩⟩
theorem b36 : BindEnt e36 := fun _ _ _ _ _ _ us hl => match us, hl with
  | [_, _, _, _], _ => rfl
/-- law(_law_script): _law_script 0 _law_draw 1 _law_turn 2 _law_names 3 _law_most 4 _law_some 5 _law_row 6 _law_item 7 -/
def t37 : S := (.cons (.asg 1 (.call 0 (.cons (.var 0) .nil))) (.cons (.«for» (.var 2) (.rng1 (.cst (.int (8)))) (.cons (.par [(3, false), (4, false)] (.cons (.bin .add (.cst (.int (1))) (.call 17 (.cons (.var 1) (.cons (.cst (.int (6))) .nil)))) (.cons (.call 20 (.cons (.var 1) (.cons (.disp (.cons (.cst (.int (2))) (.cons (.cst (.int (4))) (.cons (.cst (.int (9))) (.cons (.cst (.int (1000))) (.cons (.bin .pow (.cst (.int (10))) (.cst (.int (6)))) .nil)))))) .nil))) .nil))) (.cons (.asg 5 (.call 19 (.cons (.var 1) (.cons (.var 3) (.cons (.cst (.int (9))) (.cons (.var 4) .nil)))))) (.cons (.«for» (.var 6) (.seq (.tup (.cons (.call 18 (.cons (.var 1) (.cons (.var 3) (.cons (.var 4) .nil)))) (.cons (.call 21 (.cons (.var 1) (.cons (.var 3) (.cons (.var 5) .nil)))) (.cons (.call 20 (.cons (.var 1) (.cons (.var 5) .nil))) .nil))))) (.cons (.asg 6 (.bi .tupOf (.cons (.comp (.bi .min2 (.cons (.var 7) (.cons (.bin .pow (.cst (.int (10))) (.cst (.int (6)))) .nil))) (.seq (.var 6)) (.cst (.bl true)) (.var 7) [7]) .nil))) (.cons (.ite (.no (.call 36 (.cons (.var 1) (.cons (.var 3) (.cons (.var 6) (.cons (.var 5) .nil)))))) (.cons (.ret (.cst (.bl false))) .nil) .nil) .nil))) .nil)))) (.cons (.ite (.or (.no (.call 16 (.cons (.cst (.int (2))) (.cons (.tup (.cons (.cst (.int (1))) (.cons (.cst (.int (1))) .nil))) (.cons (.tup (.cons (.tup (.cons (.cst (.int (2))) (.cons (.cst (.int (0))) .nil))) (.cons (.tup (.cons (.cst (.int (0))) (.cons (.cst (.int (2))) .nil))) .nil))) .nil))))) (.call 16 (.cons (.cst (.int (2))) (.cons (.tup (.cons (.cst (.int (1))) (.cons (.cst (.int (1))) .nil))) (.cons (.tup (.cons (.tup (.cons (.cst (.int (2))) (.cons (.cst (.int (0))) .nil))) (.cons (.tup (.cons (.cst (.int (0))) (.cons (.cst (.int (1))) .nil))) .nil))) .nil))))) (.cons (.ret (.cst (.bl false))) .nil) .nil) (.cons (.ite (.or (.cmp .ne (.idx (.call 22 (.cons (.cst (.int (1))) (.cons (.tup (.cons (.cst (.int (3))) .nil)) (.cons (.tup (.cons (.tup (.cons (.cst (.int (2))) .nil)) (.cons (.tup (.cons (.cst (.int (1))) .nil)) .nil))) .nil)))) (.cst (.int (0)))) (.cst (.str "lags"))) (.no (.call 16 (.cons (.cst (.int (3))) (.cons (.tup (.cons (.cst (.int (0))) (.cons (.cst (.int (0))) (.cons (.cst (.int (0))) .nil)))) (.cons (.tup (.cons (.tup (.cons (.cst (.int (0))) (.cons (.cst (.int (0))) (.cons (.cst (.int (0))) .nil)))) .nil)) .nil)))))) (.cons (.ret (.cst (.bl false))) .nil) .nil) (.cons (.ite (.call 16 (.cons (.cst (.int (3))) (.cons (.tup (.cons (.cst (.int (1))) (.cons (.cst (.int (1))) (.cons (.cst (.int (1))) .nil)))) (.cons (.tup (.cons (.tup (.cons (.cst (.int (2))) (.cons (.cst (.int (0))) (.cons (.cst (.int (0))) .nil)))) (.cons (.tup (.cons (.cst (.int (0))) (.cons (.cst (.int (1))) (.cons (.cst (.int (1))) .nil)))) .nil))) .nil)))) (.cons (.ret (.cst (.bl false))) .nil) .nil) (.cons (.ite (.no (.call 16 (.cons (.cst (.int (3))) (.cons (.tup (.cons (.cst (.int (1))) (.cons (.cst (.int (1))) (.cons (.cst (.int (1))) .nil)))) (.cons (.tup (.cons (.tup (.cons (.cst (.int (3))) (.cons (.cst (.int (0))) (.cons (.cst (.int (0))) .nil)))) (.cons (.tup (.cons (.cst (.int (0))) (.cons (.cst (.int (2))) (.cons (.cst (.int (2))) .nil)))) .nil))) .nil))))) (.cons (.ret (.cst (.bl false))) .nil) .nil) (.cons (.ret (.call 16 (.cons (.cst (.int (3))) (.cons (.tup (.cons (.cst (.int (1))) (.cons (.cst (.int (1))) (.cons (.cst (.int (1))) .nil)))) (.cons (.tup (.cons (.tup (.cons (.cst (.int (3))) (.cons (.cst (.int (0))) (.cons (.cst (.int (0))) .nil)))) (.cons (.tup (.cons (.cst (.int (0))) (.cons (.cst (.int (3))) (.cons (.cst (.int (0))) .nil)))) (.cons (.tup (.cons (.cst (.int (0))) (.cons (.cst (.int (0))) (.cons (.cst (.int (3))) .nil)))) .nil)))) .nil))))) .nil)))))))
def e37 : Ent := ⟨⟨("law", none), "law", "law", defArgs (topS 52), defBody (topS 52), defScope (topS 52), [], []⟩, [("_law_script" : Str), ("_law_draw" : Str), ("_law_turn" : Str), ("_law_names" : Str), ("_law_most" : Str), ("_law_some" : Str), ("_law_row" : Str), ("_law_item" : Str)], [("_law_script" : Str)], ⟨1, 8, t37⟩⟩
theorem b37 : BindEnt e37 := fun _ _ _ _ _ _ us hl => match us, hl with
  | [_], _ => rfl
def es : List Ent := [e0, e1, e2, e3, e4, e5, e6, e7, e8, e9, e10, e11, e12, e13, e14, e15, e16, e17, e18, e19, e20, e21, e22, e23, e24, e25, e26, e27, e28, e29, e30, e31, e32, e33, e34, e35, e36, e37]
def cns : List Str := []
def flds : List Str := []
def glos : List (Str × PV) := [("MOST_NAMES", (.int (6))), ("MOST_ITEM", (.int (1000000))), ("MOST_SUMS", (.int (60))), ("WEIGHTS", (.str "weights")), ("LAGS", (.str "lags"))]
theorem bnds : ∀ e ∈ es, BindEnt e := by
  intro e he
  unfold es at he
  simp only [List.mem_cons, List.not_mem_nil, or_false] at he
  rcases he with rfl | rfl | rfl | rfl | rfl | rfl | rfl | rfl | rfl | rfl | rfl | rfl | rfl | rfl | rfl | rfl | rfl | rfl | rfl | rfl | rfl | rfl | rfl | rfl | rfl | rfl | rfl | rfl | rfl | rfl | rfl | rfl | rfl | rfl | rfl | rfl | rfl | rfl
  · exact b0
  · exact b1
  · exact b2
  · exact b3
  · exact b4
  · exact b5
  · exact b6
  · exact b7
  · exact b8
  · exact b9
  · exact b10
  · exact b11
  · exact b12
  · exact b13
  · exact b14
  · exact b15
  · exact b16
  · exact b17
  · exact b18
  · exact b19
  · exact b20
  · exact b21
  · exact b22
  · exact b23
  · exact b24
  · exact b25
  · exact b26
  · exact b27
  · exact b28
  · exact b29
  · exact b30
  · exact b31
  · exact b32
  · exact b33
  · exact b34
  · exact b35
  · exact b36
  · exact b37
theorem oks : ∀ e ∈ es, entOk (tbOf es cns flds glos) e = true := by
  have h : es.all (entOk (tbOf es cns flds glos)) = true := by decide +kernel
  exact List.all_eq_true.mp h
end K02
end
section -- K02H
namespace K02
open PySem PySem.W PySem.Calls PyProof.Rows
abbrev R : OpenRow := OpenLaw.row PySem.Challenge.rw_evenlags_k02_whole_covers
abbrev qv : Program := view R.prog [52]
def fa : List He.Fa := Ev.faOf es cns flds glos
def fn : List He.DefD := es.map (·.d)
abbrev hk : Hook := He.hookD 4 (Ev.faOf es cns flds glos) (es.map (·.d))
def ob (s : SharedT) : He.AlD := He.obsDG 4 (Ev.faOf es cns flds glos) (es.map (·.d)) (HandSHeadRun.getT s)
theorem ob_eq (s : SharedT) : ob s = hk.obs s.abs := He.obsDG_eq (HandSHeadRun.getT_eq s)
def nm0 : List PySem.Str := [("pivoted" : PySem.Str), ("leaving" : PySem.Str), ("is_sooner" : PySem.Str), ("entering" : PySem.Str), ("ray_of" : PySem.Str), ("decided" : PySem.Str), ("LagError" : PySem.Str), ("BadNames" : PySem.Str), ("BadSum" : PySem.Str), ("BadHigh" : PySem.Str), ("BadLags" : PySem.Str), ("BadPaper" : PySem.Str), ("MOST_NAMES" : PySem.Str), ("MOST_ITEM" : PySem.Str), ("MOST_SUMS" : PySem.Str), ("WEIGHTS" : PySem.Str), ("LAGS" : PySem.Str), ("is_integer" : PySem.Str), ("is_whole" : PySem.Str), ("are_whole" : PySem.Str), ("need_names" : PySem.Str), ("is_high" : PySem.Str), ("need_sum" : PySem.Str), ("need_high" : PySem.Str), ("need_lags" : PySem.Str), ("product" : PySem.Str), ("worth" : PySem.Str), ("less" : PySem.Str), ("cover_in" : PySem.Str), ("is_covered" : PySem.Str)]
def nm1 : List PySem.Str := [("cover_paper" : PySem.Str), ("are_weights" : PySem.Str), ("are_lags_above" : PySem.Str), ("high_product" : PySem.Str), ("need_form" : PySem.Str), ("check_cover" : PySem.Str), ("_law_begin" : PySem.Str), ("_law_next" : PySem.Str), ("_law_pick" : PySem.Str), ("_law_sum" : PySem.Str), ("_law_tops" : PySem.Str), ("_law_mean" : PySem.Str), ("_law_are_amounts" : PySem.Str), ("_law_item_sum" : PySem.Str), ("_law_are_weights" : PySem.Str), ("_law_are_lags" : PySem.Str), ("_law_covered" : PySem.Str), ("_law_right" : PySem.Str)]
def names : List PySem.Str := nm0 ++ nm1
theorem run (w : World) : HandSHeadRun.RunEq R qv hk ob 3000 names w := by
  intro os
  kernel_rfl
end K02
end
section -- K02F
open PySem PySem.W PySem.Calls PyProof.Rows
theorem K02.holds_of (main : ∀ ns : List Int, ns.length ≤ 63 → ∃ M', Ev.callF (Ev.tnOf K02.es) (20 + 1) 37 [.scr (ns.map .int)] [] = some (.bl true, M')) : PySem.Challenge.rw_evenlags_k02_whole_covers.Holds := by
  w_on; o_law
  refine HandSHeadRun.head_any (r := K02.R) (q := K02.qv) (H := K02.hk) (ob := K02.ob) (M := 3000) (loose := K02.names) (d := HandSHeadRun.topDef K02.R.prog 52) (kwd := []) K02.ob_eq
    (by kernel_rfl) (fun s => by kernel_rfl) K02.run (by kernel_rfl) (by kernel_rfl) (by kernel_rfl) (by rfl) (by first | assumption | decide +kernel) (by decide +kernel) ⟨rfl, rfl, rfl, rfl, rfl, by decide +kernel⟩ ?hw ?hc
  case hw => w_witness2
  case hc =>
    exact Ev.walkG (l := PySem.Challenge.rw_evenlags_k02_whole_covers) (n := 63) (D := 20) (nl := 37) (el := K02.e37) (sn := "_law_script") rfl (by decide) (by kernel_rfl) ⟨⟨rfl, by decide, by decide⟩, rfl⟩ K02.oks K02.bnds rfl (by kernel_rfl) rfl main
end
section -- Det
/-! Det: determinants of columns, by the last coordinate. -/
namespace Sx
def sumN : Nat → (Nat → Int) → Int
  | 0, _ => 0
  | n + 1, f => sumN n f + f n
theorem sumN_congr : ∀ (n : Nat) {f g : Nat → Int}, (∀ i, i < n → f i = g i) → sumN n f = sumN n g
  | 0, _, _, _ => rfl
  | n + 1, f, g, h => by rw [sumN, sumN, sumN_congr n fun i hi => h i (Nat.lt_succ_of_lt hi), h n (Nat.lt_succ_self n)]
theorem sumN_zero : ∀ (n : Nat) {f : Nat → Int}, (∀ i, i < n → f i = 0) → sumN n f = 0
  | 0, _, _ => rfl
  | n + 1, f, h => by rw [sumN, sumN_zero n fun i hi => h i (Nat.lt_succ_of_lt hi), h n (Nat.lt_succ_self n)] <;> rfl
theorem sumN_lin (a b : Int) : ∀ (n : Nat) (f g : Nat → Int), sumN n (fun i => a * f i + b * g i) = a * sumN n f + b * sumN n g
  | 0, _, _ => by simp [sumN]
  | n + 1, f, g => by
    rw [sumN, sumN, sumN, sumN_lin a b n f g]
    grind
theorem sumN_mul (a : Int) : ∀ (n : Nat) (f : Nat → Int), sumN n (fun i => a * f i) = a * sumN n f
  | 0, _ => by simp [sumN]
  | n + 1, f => by
    rw [sumN, sumN, sumN_mul a n f]
    grind
theorem sumN_add : ∀ (n : Nat) (f g : Nat → Int), sumN n (fun i => f i + g i) = sumN n f + sumN n g
  | 0, _, _ => rfl
  | n + 1, f, g => by
    rw [sumN, sumN, sumN, sumN_add n f g]
    grind
theorem sumN_one : ∀ (n p : Nat) {f : Nat → Int}, p < n → (∀ i, i < n → i ≠ p → f i = 0) → sumN n f = f p
  | 0, p, _, h, _ => by omega
  | n + 1, p, f, h, z => by
    rw [sumN]
    by_cases e : p = n
    · subst e
      rw [sumN_zero p fun i hi => z i (by omega) (by omega)]
      grind
    · rw [sumN_one n p (by omega) fun i hi ne => z i (by omega) ne, z n (by omega) (by omega)]
      grind
theorem sumN_two : ∀ (n p q : Nat) {f : Nat → Int}, p < q → q < n → (∀ i, i < n → i ≠ p → i ≠ q → f i = 0) → sumN n f = f p + f q
  | 0, p, q, _, _, h, _ => by omega
  | n + 1, p, q, f, hpq, h, z => by
    rw [sumN]
    by_cases e : q = n
    · subst e
      rw [sumN_one q p hpq fun i hi ne => z i (by omega) ne (by omega)]
    · rw [sumN_two n p q hpq (by omega) fun i hi n1 n2 => z i (by omega) n1 n2, z n (by omega) (by omega) (by omega)]
      grind
theorem sumN_comm : ∀ (n m : Nat) (f : Nat → Nat → Int), sumN n (fun i => sumN m (f i)) = sumN m (fun j => sumN n fun i => f i j)
  | 0, m, f => (sumN_zero m fun _ _ => rfl).symm
  | n + 1, m, f => by
    rw [sumN, sumN_comm n m f, ← sumN_add]
    rfl
theorem sumN_bound (c : Nat) : ∀ (n : Nat) {f : Nat → Int}, (∀ i, i < n → (f i).natAbs ≤ c) → (sumN n f).natAbs ≤ n * c
  | 0, _, _ => by simp [sumN]
  | n + 1, f, h => by
    rw [sumN]
    have h1 := sumN_bound c n fun i hi => h i (Nat.lt_succ_of_lt hi)
    have h2 := h n (Nat.lt_succ_self n)
    have h3 := Int.natAbs_add_le (sumN n f) (f n)
    rw [Nat.succ_mul]
    omega
def up {α : Type} (C : Nat → α) (p : Nat) (v : α) : Nat → α := fun j => if j = p then v else C j
def skip {α : Type} (i : Nat) (C : Nat → α) : Nat → α := fun j => if j < i then C j else C (j + 1)
def sgn (i : Nat) : Int := if i % 2 = 0 then 1 else -1
theorem sgn_succ (i : Nat) : sgn (i + 1) = - sgn i := by
  unfold sgn
  by_cases h : i % 2 = 0
  · rw [if_pos h, if_neg (by omega)]
  · rw [if_neg h, if_pos (by omega)]
    rfl
abbrev Vec : Type := Nat → Int
def det : Nat → (Nat → Vec) → Int
  | 0, _ => 1
  | M + 1, C => sumN (M + 1) fun i => sgn (M + i) * (C i M * det M (skip i C))
theorem det_congr : ∀ (M : Nat) {C D : Nat → Vec}, (∀ j, j < M → ∀ k, k < M → C j k = D j k) → det M C = det M D
  | 0, _, _, _ => rfl
  | M + 1, C, D, h => by
    rw [det, det]
    refine sumN_congr _ fun i hi => ?_
    rw [h i hi M (Nat.lt_succ_self M), det_congr M fun j hj k hk => ?_]
    unfold skip
    split
    · exact h j (by omega) k (by omega)
    · exact h (j + 1) (by omega) k (by omega)
theorem skip_self {α : Type} (p : Nat) (C : Nat → α) (v : α) : skip p (up C p v) = skip p C := by
  funext j
  unfold skip up
  split
  · rw [if_neg (by omega)]
  · rw [if_neg (by omega)]
theorem skip_lt {α : Type} {i p : Nat} (h : p < i) (C : Nat → α) (v : α) : skip i (up C p v) = up (skip i C) p v := by
  funext j
  simp only [skip, up]
  by_cases e : j = p
  · rw [if_pos e, if_pos (by omega), if_pos e]
  · rw [if_neg e, if_neg e]
    by_cases l : j < i
    · rw [if_pos l, if_pos l]
    · rw [if_neg l, if_neg l, if_neg (by omega)]
theorem skip_gt {α : Type} {i p : Nat} (h : i < p) (C : Nat → α) (v : α) : skip i (up C p v) = up (skip i C) (p - 1) v := by
  funext j
  simp only [skip, up]
  by_cases e : j = p - 1
  · rw [if_pos e, if_neg (by omega), if_pos (by omega)]
  · rw [if_neg e]
    by_cases l : j < i
    · rw [if_pos l, if_pos l, if_neg (by omega)]
    · rw [if_neg l, if_neg l, if_neg (by omega)]
/-- in each column -/
theorem det_lin (a b : Int) (u v : Vec) : ∀ (M p : Nat) (C : Nat → Vec), p < M → det M (up C p fun k => a * u k + b * v k) = a * det M (up C p u) + b * det M (up C p v)
  | 0, p, _, h => by omega
  | M + 1, p, C, h => by
    rw [det, det, det, ← sumN_lin]
    refine sumN_congr _ fun i hi => ?_
    by_cases e : i = p
    · subst e
      rw [skip_self, skip_self, skip_self]
      simp only [up, if_true]
      grind
    · have c : ∀ w : Vec, (up C p w) i = C i := fun w => by simp [up, e]
      rw [c, c, c]
      by_cases l : p < i
      · rw [skip_lt l, skip_lt l, skip_lt l, det_lin a b u v M p _ (by omega)]
        grind
      · have g : i < p := by omega
        rw [skip_gt g, skip_gt g, skip_gt g, det_lin a b u v M (p - 1) _ (by omega)]
        grind
/-- two equal neighbours -/
theorem det_adj : ∀ (M p : Nat) (C : Nat → Vec), p + 1 < M → (∀ k, k < M → C p k = C (p + 1) k) → det M C = 0
  | 0, p, _, h, _ => by omega
  | M + 1, p, C, h, eq => by
    rw [det, sumN_two (M + 1) p (p + 1) (by omega) h fun i hi n1 n2 => ?_]
    · have e1 : det M (skip p C) = det M (skip (p + 1) C) := det_congr M fun j hj k hk => by
        unfold skip
        by_cases l : j < p
        · rw [if_pos l, if_pos (by omega)]
        · rw [if_neg l]
          by_cases e : j = p
          · subst e
            rw [if_pos (by omega)]
            exact (eq k (by omega)).symm
          · rw [if_neg (by omega)]
      rw [e1, eq M (by omega), show M + (p + 1) = (M + p) + 1 by omega, sgn_succ]
      grind
    · have z : det M (skip i C) = 0 := by
        by_cases l : i < p
        · refine det_adj M (p - 1) _ (by omega) fun k hk => ?_
          unfold skip
          rw [if_neg (by omega), if_neg (by omega), show p - 1 + 1 = p by omega]
          exact eq k (by omega)
        · refine det_adj M p _ (by omega) fun k hk => ?_
          unfold skip
          rw [if_pos (by omega), if_pos (by omega)]
          exact eq k (by omega)
      rw [z]
      simp
theorem up_up {α : Type} (C : Nat → α) (p : Nat) (u v : α) : up (up C p u) p v = up C p v := by
  funext j
  unfold up
  split <;> rfl
theorem up_comm {α : Type} (C : Nat → α) {p q : Nat} (h : p ≠ q) (u v : α) : up (up C p u) q v = up (up C q v) p u := by
  funext j
  unfold up
  by_cases e : j = q
  · subst e
    rw [if_pos rfl, if_neg (Ne.symm h), if_pos rfl]
  · rw [if_neg e, if_neg e]
theorem up_get {α : Type} (C : Nat → α) (p : Nat) : up C p (C p) = C := by
  funext j
  unfold up
  split
  · rename_i h
    rw [h]
  · rfl
/-- from equal columns to exchanged ones -/
theorem det_swap {M p q : Nat} (hp : p < M) (hq : q < M) (hpq : p ≠ q) (Z : ∀ C : Nat → Vec, (∀ k, k < M → C p k = C q k) → det M C = 0) (C : Nat → Vec) (u v : Vec) : det M (up (up C p u) q v) = - det M (up (up C p v) q u) := by
  have one : ∀ w : Vec, det M (up (up C p w) q w) = 0 := fun w => Z _ fun k _ => by simp [up]
  have s : (fun k => u k + v k) = fun k => 1 * u k + 1 * v k := by
    funext k
    simp
  have h := one fun k => u k + v k
  rw [s] at h
  have expand : ∀ w : Vec, det M (up (up C p fun k => 1 * u k + 1 * v k) q w) = det M (up (up C p u) q w) + det M (up (up C p v) q w) := fun w => by
    rw [up_comm C hpq, det_lin 1 1 u v M p _ hp, ← up_comm C hpq, ← up_comm C hpq]
    simp
  rw [det_lin 1 1 u v M q _ hq, expand, expand, one u, one v] at h
  grind
/-- two equal columns -/
theorem det_eq : ∀ (d : Nat) {M p : Nat} (C : Nat → Vec), p + 1 + d < M → (∀ k, k < M → C p k = C (p + 1 + d) k) → det M C = 0
  | 0, M, p, C, h, eq => det_adj M p C h eq
  | d + 1, M, p, C, h, eq => by
    have sw := det_swap (M := M) (p := p + 1 + d) (q := p + 1 + (d + 1)) (by omega) h (by omega) (fun C hC => det_adj M (p + 1 + d) C (by omega) fun k hk => by
      have := hC k hk
      rwa [show p + 1 + (d + 1) = p + 1 + d + 1 by omega] at this) C (C (p + 1 + d)) (C (p + 1 + (d + 1)))
    rw [up_get, up_get] at sw
    rw [sw, det_eq d (M := M) (p := p) _ (by omega) fun k hk => ?_]
    · rfl
    · have e1 : (up (up C (p + 1 + d) (C (p + 1 + (d + 1)))) (p + 1 + (d + 1)) (C (p + 1 + d))) p = C p := by
        unfold up
        rw [if_neg (by omega), if_neg (by omega)]
      have e2 : (up (up C (p + 1 + d) (C (p + 1 + (d + 1)))) (p + 1 + (d + 1)) (C (p + 1 + d))) (p + 1 + d) = C (p + 1 + (d + 1)) := by
        unfold up
        rw [if_neg (by omega), if_pos rfl]
      rw [e1, e2]
      exact eq k hk
theorem det_same {M p q : Nat} (hp : p < M) (hq : q < M) (hpq : p ≠ q) (C : Nat → Vec) (h : ∀ k, k < M → C p k = C q k) : det M C = 0 := by
  rcases Nat.lt_or_gt_of_ne hpq with l | l
  · refine det_eq (q - p - 1) C (p := p) (by omega) fun k hk => ?_
    rw [show p + 1 + (q - p - 1) = q by omega]
    exact h k hk
  · refine det_eq (p - q - 1) C (p := q) (by omega) fun k hk => ?_
    rw [show q + 1 + (p - q - 1) = p by omega]
    exact (h k hk).symm
theorem det_xchg {M p q : Nat} (hp : p < M) (hq : q < M) (hpq : p ≠ q) (C : Nat → Vec) (u v : Vec) : det M (up (up C p u) q v) = - det M (up (up C p v) q u) :=
  det_swap hp hq hpq (fun C h => det_same hp hq hpq C h) C u v
def unit (j : Nat) : Vec := fun k => if k = j then 1 else 0
theorem det_unit : ∀ M : Nat, det M unit = 1
  | 0 => rfl
  | M + 1 => by
    rw [det, sumN_one (M + 1) M (Nat.lt_succ_self M) fun i hi ne => ?_]
    · have e : det M (skip M unit) = det M unit := det_congr M fun j hj k hk => by
        unfold skip
        rw [if_pos hj]
      rw [e, det_unit M]
      have : sgn (M + M) = 1 := by
        unfold sgn
        rw [if_pos (by omega)]
      rw [this]
      simp [unit]
    · simp [unit, Ne.symm ne]
/-- .. of a sum of vectors -/
theorem det_sum {M p : Nat} (hp : p < M) (C : Nat → Vec) (a : Nat → Int) (V : Nat → Vec) : ∀ n : Nat, det M (up C p fun k => sumN n fun i => a i * V i k) = sumN n fun i => a i * det M (up C p (V i))
  | 0 => by
    have h := det_lin 0 0 (fun _ => 0) (fun _ => 0) M p C hp
    simp only [Int.zero_mul, Int.add_zero] at h
    exact h
  | n + 1 => by
    have e : (fun k => sumN (n + 1) fun i => a i * V i k) = fun k => 1 * (sumN n fun i => a i * V i k) + a n * V n k := by
      funext k
      rw [sumN]
      grind
    rw [e, det_lin 1 (a n) (fun k => sumN n fun i => a i * V i k) (V n) M p C hp, det_sum hp C a V n, sumN]
    grind
def fact : Nat → Nat
  | 0 => 1
  | n + 1 => (n + 1) * fact n
theorem det_bound (B : Nat) : ∀ (M : Nat) (C : Nat → Vec), (∀ j, j < M → ∀ k, k < M → (C j k).natAbs ≤ B) → (det M C).natAbs ≤ fact M * B ^ M
  | 0, _, _ => by simp [det, fact]
  | M + 1, C, h => by
    rw [det]
    have := sumN_bound (B * (fact M * B ^ M)) (M + 1) (f := fun i => sgn (M + i) * (C i M * det M (skip i C))) fun i hi => ?_
    · refine Nat.le_trans this (Nat.le_of_eq ?_)
      rw [fact, Nat.pow_succ]
      grind
    · have h1 := det_bound B M (skip i C) fun j hj k hk => by
        unfold skip
        split
        · exact h j (by omega) k (by omega)
        · exact h (j + 1) (by omega) k (by omega)
      have h2 := h i hi M (by omega)
      have h3 : (sgn (M + i)).natAbs = 1 := by
        unfold sgn
        split <;> rfl
      rw [Int.natAbs_mul, Int.natAbs_mul, h3, Nat.one_mul]
      exact Nat.mul_le_mul h2 h1
end Sx
end
section -- Tab
/-! Tab: tables of a basis. -/
namespace Sx
theorem sumN_split (r : Nat) : ∀ (n : Nat) (f : Nat → Int), r < n → sumN n f = sumN n (fun i => if i = r then 0 else f i) + f r
  | 0, _, h => by omega
  | n + 1, f, h => by
    rw [sumN, sumN]
    by_cases e : r = n
    · subst e
      rw [if_pos rfl, sumN_congr r (g := fun i => if i = r then 0 else f i) fun i hi => by rw [if_neg (by omega)]]
      grind
    · rw [sumN_split r n f (by omega), if_neg (fun z => e z.symm)]
      grind
theorem sumN_nonneg : ∀ (n : Nat) {f : Nat → Int}, (∀ i, i < n → 0 ≤ f i) → 0 ≤ sumN n f
  | 0, _, _ => Int.le_refl 0
  | n + 1, f, h => by
    rw [sumN]
    have h1 := sumN_nonneg n fun i hi => h i (Nat.lt_succ_of_lt hi)
    have h2 := h n (Nat.lt_succ_self n)
    omega
theorem sumN_pos : ∀ (n : Nat) {f : Nat → Int}, 0 < sumN n f → ∃ i, i < n ∧ 0 < f i
  | 0, f, h => absurd h (by simp [sumN])
  | n + 1, f, h => by
    rw [sumN] at h
    by_cases e : 0 < f n
    · exact ⟨n, Nat.lt_succ_self n, e⟩
    · obtain ⟨i, h1, h2⟩ := sumN_pos n (f := f) (by omega)
      exact ⟨i, Nat.lt_succ_of_lt h1, h2⟩
/-- a vector by its coordinates -/
theorem vec_unit (M : Nat) (v : Vec) : ∀ k, k < M → v k = sumN M fun i => v i * unit i k := fun k hk => by
  rw [sumN_one M k hk fun i hi ne => by simp [unit, Ne.symm ne]]
  simp [unit]
theorem det_up_congr {M p : Nat} (C : Nat → Vec) {u v : Vec} (h : ∀ k, k < M → u k = v k) : det M (up C p u) = det M (up C p v) :=
  det_congr M fun j hj k hk => by
    unfold up
    split
    · exact h k hk
    · rfl
/-- .. is linear in the vector -/
theorem det_coords {M p : Nat} (hp : p < M) (C : Nat → Vec) (v : Vec) : det M (up C p v) = sumN M fun k => v k * det M (up C p (unit k)) := by
  rw [det_up_congr C (vec_unit M v), det_sum hp C v unit M]
/-- the columns of a basis; the last one is the last unit -/
def Bof (m : Nat) (A : Nat → Vec) (l : List Nat) : Nat → Vec := fun i => if i < m then A (l.getD i 0) else unit m
def T (m : Nat) (A : Nat → Vec) (l : List Nat) (i j : Nat) : Int := det (m + 1) (up (Bof m A l) i (A j))
def bl (m : Nat) (A : Nat → Vec) (l : List Nat) : Int := det (m + 1) (Bof m A l)
section
variable {m : Nat} {A : Nat → Vec} {l : List Nat}
theorem Bof_lt {i : Nat} (h : i < m) : Bof m A l i = A (l.getD i 0) := if_pos h
theorem Bof_m : Bof m A l m = unit m := if_neg (Nat.lt_irrefl m)
theorem T_basis {i : Nat} (h : i < m) : T m A l i (l.getD i 0) = bl m A l := by
  unfold T bl
  rw [← Bof_lt (A := A) (l := l) h, up_get]
theorem T_other {i i' : Nat} (h : i ≤ m) (h' : i' < m) (ne : i ≠ i') : T m A l i (l.getD i' 0) = 0 := by
  unfold T
  refine det_same (p := i) (q := i') (by omega) (by omega) ne _ fun k hk => ?_
  simp only [up, if_true]
  rw [if_neg (Ne.symm ne), Bof_lt h']
/-- what a basis has to be -/
structure Rep (m : Nat) (A : Nat → Vec) (l : List Nat) : Prop where
  pos : 0 < bl m A l
  rep : ∀ j k, k ≤ m → bl m A l * A j k = sumN (m + 1) fun i => T m A l i j * Bof m A l i k
theorem Rep.nodup (R : Rep m A l) {i i' : Nat} (h : i < m) (h' : i' < m) (e : l.getD i 0 = l.getD i' 0) : i = i' := by
  by_cases ne : i = i'
  · exact ne
  · exfalso
    have z : bl m A l = 0 := det_same (p := i) (q := i') (by omega) (by omega) ne _ fun k hk => by rw [Bof_lt h, Bof_lt h', e]
    have := R.pos
    omega
theorem Bof_set {r c : Nat} (hr : r < m) (hl : l.length = m) : Bof m A (l.set r c) = up (Bof m A l) r (A c) := by
  funext i
  simp only [Bof, up]
  by_cases e : i = r
  · subst e
    rw [if_pos hr, if_pos rfl, List.getD_eq_getElem?_getD, List.getElem?_set_self (by omega)]
    rfl
  · rw [if_neg e, List.getD_eq_getElem?_getD, List.getElem?_set_ne (Ne.symm e), ← List.getD_eq_getElem?_getD]
theorem bl_set {r c : Nat} (hr : r < m) (hl : l.length = m) : bl m A (l.set r c) = T m A l r c := by
  unfold bl T
  rw [Bof_set hr hl]
theorem T_set_row {r c : Nat} (hr : r < m) (hl : l.length = m) (j : Nat) : T m A (l.set r c) r j = T m A l r j := by
  unfold T
  rw [Bof_set hr hl, up_up]
/-- a pivot -/
theorem T_set {r c : Nat} (R : Rep m A l) (hr : r < m) (hl : l.length = m) {i : Nat} (hi : i ≤ m) (ne : i ≠ r) (j : Nat) : bl m A l * T m A (l.set r c) i j = T m A l r c * T m A l i j - T m A l i c * T m A l r j := by
  have e0 : bl m A l * T m A (l.set r c) i j = det (m + 1) (up (up (Bof m A l) r (A c)) i fun k => bl m A l * A j k) := by
    have := det_lin (bl m A l) 0 (A j) (A j) (m + 1) i (up (Bof m A l) r (A c)) (by omega)
    simp only [Int.zero_mul, Int.add_zero] at this
    rw [this]
    unfold T
    rw [Bof_set hr hl]
  rw [e0, det_up_congr _ fun k hk => R.rep j k (by omega), det_sum (by omega)]
  have ti : det (m + 1) (up (up (Bof m A l) r (A c)) i (Bof m A l i)) = T m A l r c := by
    rw [up_comm _ (Ne.symm ne), up_get]
    rfl
  have tr : det (m + 1) (up (up (Bof m A l) r (A c)) i (Bof m A l r)) = - T m A l i c := by
    rw [det_xchg (by omega) (by omega) (Ne.symm ne), up_get]
    rfl
  have oth : ∀ q, q < m + 1 → q ≠ i → q ≠ r → T m A l q j * det (m + 1) (up (up (Bof m A l) r (A c)) i (Bof m A l q)) = 0 := fun q hq n1 n2 => by
    rw [det_same (p := i) (q := q) (by omega) hq (Ne.symm n1) _ fun k hk => ?_]
    · simp
    · simp only [up, if_true]
      rw [if_neg n1, if_neg n2]
  rcases Nat.lt_or_gt_of_ne ne with h | h
  · rw [sumN_two (m + 1) i r h (by omega) fun q hq n1 n2 => oth q hq n1 n2, ti, tr]
    grind
  · rw [sumN_two (m + 1) r i h (by omega) fun q hq n1 n2 => oth q hq n2 n1, ti, tr]
    grind
theorem Rep.set {r c : Nat} (R : Rep m A l) (hr : r < m) (hl : l.length = m) (hp : 0 < T m A l r c) : Rep m A (l.set r c) := by
  refine ⟨by rw [bl_set hr hl]; exact hp, fun j k hk => ?_⟩
  rw [bl_set hr hl]
  have hb := R.pos
  refine Int.eq_of_mul_eq_mul_left (Int.ne_of_gt hb) ?_
  rw [← sumN_mul]
  have e1 : (sumN (m + 1) fun i => bl m A l * (T m A (l.set r c) i j * Bof m A (l.set r c) i k)) =
      sumN (m + 1) (fun i => T m A l r c * (T m A l i j * Bof m A l i k) + (-T m A l r j) * (T m A l i c * Bof m A l i k)) + T m A l r j * (bl m A l * A c k) := by
    rw [sumN_split r (m + 1) _ (by omega), sumN_split r (m + 1) (fun i => T m A l r c * (T m A l i j * Bof m A l i k) + (-T m A l r j) * (T m A l i c * Bof m A l i k)) (by omega)]
    have h1 : (sumN (m + 1) fun i => if i = r then 0 else bl m A l * (T m A (l.set r c) i j * Bof m A (l.set r c) i k)) =
        sumN (m + 1) fun i => if i = r then 0 else T m A l r c * (T m A l i j * Bof m A l i k) + (-T m A l r j) * (T m A l i c * Bof m A l i k) := by
      refine sumN_congr _ fun i hi => ?_
      by_cases e : i = r
      · rw [if_pos e, if_pos e]
      · rw [if_neg e, if_neg e]
        have h2 := T_set (c := c) R hr hl (show i ≤ m by omega) e j
        have h3 : Bof m A (l.set r c) i k = Bof m A l i k := by rw [Bof_set hr hl]; simp [up, e]
        rw [h3]
        grind
    rw [h1, T_set_row hr hl, Bof_set hr hl]
    simp only [up, if_true]
    grind
  rw [e1, sumN_lin, ← R.rep j k hk, ← R.rep c k hk]
  grind
/-- the rows by the units' columns -/
theorem T_row {n : Nat} (hu : ∀ k, k < m → A (n + k) = unit k) (j : Nat) : T m A l m j = sumN m (fun k => A j k * T m A l m (n + k)) + A j m * bl m A l := by
  unfold T
  rw [det_coords (by omega), sumN]
  congr 1
  · refine sumN_congr _ fun k hk => ?_
    rw [hu k hk]
  · unfold bl
    rw [← Bof_m (A := A) (l := l), up_get]
/-- one basis' last row of another's columns -/
theorem T_two {l' : List Nat} (R : Rep m A l) (j : Nat) : bl m A l * T m A l' m j = sumN m (fun i => T m A l i j * T m A l' m (l.getD i 0)) + T m A l m j * bl m A l' := by
  have e0 : bl m A l * T m A l' m j = det (m + 1) (up (Bof m A l') m fun k => bl m A l * A j k) := by
    have := det_lin (bl m A l) 0 (A j) (A j) (m + 1) m (Bof m A l') (by omega)
    simp only [Int.zero_mul, Int.add_zero] at this
    rw [this]
    rfl
  rw [e0, det_up_congr _ fun k hk => R.rep j k (by omega), det_sum (by omega), sumN]
  congr 1
  · refine sumN_congr _ fun i hi => ?_
    rw [Bof_lt hi]
    rfl
  · unfold bl
    rw [Bof_m, ← Bof_m (A := A) (l := l'), up_get]
/-- the units are a basis -/
theorem Rep.start {n : Nat} (hu : ∀ k, k < m → A (n + k) = unit k) (hl : ∀ i, i < m → l.getD i 0 = n + i) : bl m A l = 1 ∧ (∀ i j, i ≤ m → T m A l i j = A j i) ∧ Rep m A l := by
  have hB : ∀ i, i ≤ m → Bof m A l i = unit i := fun i hi => by
    by_cases h : i < m
    · rw [Bof_lt h, hl i h, hu i h]
    · rw [show i = m by omega, Bof_m]
  have h1 : bl m A l = 1 := by
    unfold bl
    rw [det_congr (m + 1) (D := unit) fun j hj k hk => by rw [hB j (by omega)], det_unit]
  have h2 : ∀ i j, i ≤ m → T m A l i j = A j i := fun i j hi => by
    unfold T
    rw [det_congr (m + 1) (D := up unit i (A j)) fun q hq k hk => by
      unfold up
      split
      · rfl
      · rw [hB q (by omega)], det_coords (by omega), sumN_one (m + 1) i (by omega) fun k hk ne => ?_]
    · rw [up_get, det_unit, Int.mul_one]
    · rw [det_same (p := i) (q := k) (by omega) hk (Ne.symm ne) _ fun z hz => by simp [up, ne]]
      simp
  refine ⟨h1, h2, by rw [h1]; decide, fun j k hk => ?_⟩
  rw [h1, sumN_congr (m + 1) (g := fun i => A j i * unit i k) fun i hi => by rw [h2 i j (by omega), hB i (by omega)], ← vec_unit (m + 1) (A j) k (by omega), Int.one_mul]
theorem T_bound {B : Nat} (hB : 1 ≤ B) (h : ∀ j k, k ≤ m → (A j k).natAbs ≤ B) (i j : Nat) : (T m A l i j).natAbs ≤ fact (m + 1) * B ^ (m + 1) := by
  refine det_bound B (m + 1) _ fun q hq k hk => ?_
  unfold up Bof
  split
  · exact h j k (by omega)
  · split
    · exact h _ k (by omega)
    · unfold unit
      split <;> simp <;> omega
end
end Sx
end
section -- Bland
/-! Bland: the least column enters, the least row of equal ones leaves: no run goes on for ever. -/
namespace Sx
section
variable {N m : Nat} {A : Nat → Vec}
def EntC (N m : Nat) (A : Nat → Vec) (l : List Nat) (c : Nat) : Prop := c < N ∧ T m A l m c < 0 ∧ ∀ j, j < c → 0 ≤ T m A l m j
def LeaR (N m : Nat) (A : Nat → Vec) (l : List Nat) (c r : Nat) : Prop :=
  r < m ∧ 0 < T m A l r c ∧ ∀ i, i < m → 0 < T m A l i c → T m A l r N * T m A l i c ≤ T m A l i N * T m A l r c ∧ (T m A l r N * T m A l i c = T m A l i N * T m A l r c → l.getD r 0 ≤ l.getD i 0)
structure Good (N m : Nat) (A : Nat → Vec) (l : List Nat) : Prop where
  len : l.length = m
  lt : ∀ i, i < m → l.getD i 0 < N
  rep : Rep m A l
  feas : ∀ i, i < m → 0 ≤ T m A l i N
def Step (N m : Nat) (A : Nat → Vec) (l l' : List Nat) : Prop := ∃ c r, EntC N m A l c ∧ LeaR N m A l c r ∧ l' = l.set r c
theorem Good.out {l : List Nat} {c : Nat} (G : Good N m A l) (E : EntC N m A l c) : ∀ i, i < m → l.getD i 0 ≠ c := fun i hi e => by
  have := T_other (A := A) (l := l) (Nat.le_refl m) hi (Nat.ne_of_gt hi)
  rw [e] at this
  have := E.2.1
  omega
theorem Good.next {l l' : List Nat} (G : Good N m A l) (S : Step N m A l l') : Good N m A l' := by
  obtain ⟨c, r, E, L, rfl⟩ := S
  obtain ⟨hr, hp, hm⟩ := L
  refine ⟨by rw [List.length_set]; exact G.len, fun i hi => ?_, G.rep.set hr G.len hp, fun i hi => ?_⟩
  · by_cases e : i = r
    · subst e
      rw [List.getD_eq_getElem?_getD, List.getElem?_set_self (by rw [G.len]; exact hr)]
      exact E.1
    · rw [List.getD_eq_getElem?_getD, List.getElem?_set_ne (Ne.symm e), ← List.getD_eq_getElem?_getD]
      exact G.lt i hi
  · by_cases e : i = r
    · rw [e, T_set_row hr G.len]
      exact G.feas r hr
    · have h := T_set (c := c) G.rep hr G.len (Nat.le_of_lt hi) e N
      have hb := G.rep.pos
      have f1 := G.feas i hi
      have f2 := G.feas r hr
      have k : 0 ≤ bl m A l * T m A (l.set r c) i N := by
        rw [h]
        by_cases hc : 0 < T m A l i c
        · have := (hm i hi hc).1
          grind
        · have a1 : 0 ≤ T m A l r c * T m A l i N := Int.mul_nonneg (Int.le_of_lt hp) f1
          have a2 : 0 ≤ (-T m A l i c) * T m A l r N := Int.mul_nonneg (by omega) f2
          grind
      by_cases z : 0 ≤ T m A (l.set r c) i N
      · exact z
      · have : bl m A l * T m A (l.set r c) i N < 0 := Int.mul_neg_of_pos_of_neg hb (by omega)
        omega
theorem mem_set {l : List Nat} {r c x : Nat} (hr : r < l.length) (nd : ∀ i i', i < l.length → i' < l.length → l.getD i 0 = l.getD i' 0 → i = i') :
    (∃ i, i < l.length ∧ (l.set r c).getD i 0 = x) ↔ x = c ∨ ((∃ i, i < l.length ∧ l.getD i 0 = x) ∧ l.getD r 0 ≠ x) := by
  have at_ : ∀ i, i < l.length → (l.set r c).getD i 0 = if i = r then c else l.getD i 0 := fun i hi => by
    by_cases e : i = r
    · subst e
      rw [if_pos rfl, List.getD_eq_getElem?_getD, List.getElem?_set_self hr]
      rfl
    · rw [if_neg e, List.getD_eq_getElem?_getD, List.getElem?_set_ne (Ne.symm e), ← List.getD_eq_getElem?_getD]
  constructor
  · rintro ⟨i, hi, h⟩
    rw [at_ i hi] at h
    by_cases e : i = r
    · rw [if_pos e] at h
      exact .inl h.symm
    · rw [if_neg e] at h
      exact .inr ⟨⟨i, hi, h⟩, fun z => e (nd i r hi hr (h.trans z.symm))⟩
  · rintro (h | ⟨⟨i, hi, h⟩, ne⟩)
    · exact ⟨r, hr, by rw [at_ r hr, if_pos rfl, h]⟩
    · refine ⟨i, hi, ?_⟩
      rw [at_ i hi, if_neg fun e => ne (by rw [← e]; exact h)]
      exact h
/-- lists over a range -/
def allL (N : Nat) : Nat → List (List Nat)
  | 0 => [[]]
  | k + 1 => (List.range N).flatMap fun x => (allL N k).map (x :: ·)
theorem mem_allL : ∀ (k : Nat) (l : List Nat), l.length = k → (∀ x ∈ l, x < N) → l ∈ allL N k
  | 0, l, h, _ => by
    rw [List.length_eq_zero_iff.mp h]
    exact List.mem_singleton.mpr rfl
  | k + 1, [], h, _ => by simp at h
  | k + 1, x :: l, h, hx => by
    refine List.mem_flatMap.mpr ⟨x, List.mem_range.mpr (hx x List.mem_cons_self), List.mem_map.mpr ⟨l, ?_, rfl⟩⟩
    exact mem_allL k l (by simpa using h) fun y hy => hx y (List.mem_cons_of_mem _ hy)
theorem nodup_le {α : Type} [DecidableEq α] : ∀ (l D : List α), l.Nodup → (∀ x ∈ l, x ∈ D) → l.length ≤ D.length
  | [], D, _, _ => Nat.zero_le _
  | x :: l, D, nd, h => by
    have n2 := List.nodup_cons.mp nd
    have hx := h x List.mem_cons_self
    have := nodup_le l (D.erase x) n2.2 fun y hy => (List.mem_erase_of_ne (fun e => n2.1 (by rw [← e]; exact hy))).mpr (h y (List.mem_cons_of_mem _ hy))
    rw [List.length_erase_of_mem hx] at this
    have pos : 0 < D.length := List.length_pos_of_mem hx
    rw [List.length_cons]
    omega
theorem repeats {α : Type} [DecidableEq α] (f : Nat → α) (D : List α) (h : ∀ k, f k ∈ D) : ∃ a b, a < b ∧ f a = f b := by
  by_cases e : ∃ a b, a < b ∧ f a = f b
  · exact e
  · exfalso
    have inj : ∀ a b, f a = f b → a = b := fun a b h => by
      rcases Nat.lt_trichotomy a b with l | l | l
      · exact absurd ⟨a, b, l, h⟩ e
      · exact l
      · exact absurd ⟨b, a, l, h.symm⟩ e
    have nd : ((List.range (D.length + 1)).map f).Nodup := by
      have q : ∀ l : List Nat, l.Nodup → (l.map f).Nodup := by
        intro l
        induction l with
        | nil => intro _; exact List.nodup_nil
        | cons x l ih =>
          intro n
          have n2 := List.nodup_cons.mp n
          refine List.nodup_cons.mpr ⟨fun hm => ?_, ih n2.2⟩
          obtain ⟨y, hy, hh⟩ := List.mem_map.mp hm
          exact n2.1 (inj _ _ hh ▸ hy)
      exact q _ List.nodup_range
    have := nodup_le _ D nd fun x hx => by
      obtain ⟨y, _, rfl⟩ := List.mem_map.mp hx
      exact h y
    rw [List.length_map, List.length_range] at this
    omega
theorem no_chain (f : Nat → List Nat) (G : ∀ k, Good N m A (f k)) (St : ∀ k, Step N m A (f k) (f (k + 1))) : False := by
  -- what enters, what leaves
  have ⟨c, hc⟩ := Classical.skolem.mp St
  have ⟨r, hr⟩ := Classical.skolem.mp hc
  have E : ∀ k, EntC N m A (f k) (c k) := fun k => (hr k).1
  have L : ∀ k, LeaR N m A (f k) (c k) (r k) := fun k => (hr k).2.1
  have F : ∀ k, f (k + 1) = (f k).set (r k) (c k) := fun k => (hr k).2.2
  have ndK : ∀ k i i', i < m → i' < m → (f k).getD i 0 = (f k).getD i' 0 → i = i' := fun k i i' h h' e => (G k).rep.nodup h h' e
  -- unique
  have cu : ∀ k k', f k = f k' → c k = c k' := fun k k' e => by
    have e1 := E k
    have e2 := E k'
    rw [← e] at e2
    rcases Nat.lt_trichotomy (c k) (c k') with h | h | h
    · have := e2.2.2 _ h
      have := e1.2.1
      omega
    · exact h
    · have := e1.2.2 _ h
      have := e2.2.1
      omega
  have ru : ∀ k k', f k = f k' → r k = r k' := fun k k' e => by
    have l1 := L k
    have l2 := L k'
    rw [← e, ← cu k k' e] at l2
    have a1 := l1.2.2 _ l2.1 l2.2.1
    have a2 := l2.2.2 _ l1.1 l1.2.1
    have q : T m A (f k) (r k) N * T m A (f k) (r k') (c k) = T m A (f k) (r k') N * T m A (f k) (r k) (c k) := by
      have := a1.1
      have := a2.1
      omega
    have b1 := a1.2 q
    have b2 := a2.2 q.symm
    exact ndK k _ _ l1.1 l2.1 (Nat.le_antisymm b1 b2)
  obtain ⟨a, b, hab, eab⟩ := repeats f (allL N m) fun k => mem_allL m (f k) (G k).len fun x hx => by
    obtain ⟨i, hi, e⟩ := List.getElem_of_mem hx
    have := (G k).lt i (by rw [← (G k).len]; exact hi)
    rw [List.getD_eq_getElem?_getD, List.getElem?_eq_getElem hi] at this
    rw [← e]
    exact this
  obtain ⟨P, rfl⟩ : ∃ P, b = a + P := ⟨b - a, by omega⟩
  have hP : 0 < P := by omega
  have per : ∀ k, f (a + k + P) = f (a + k) := by
    intro k
    induction k with
    | zero => exact eab.symm
    | succ k ih =>
      rw [show a + (k + 1) + P = (a + k + P) + 1 by omega, F, show a + (k + 1) = (a + k) + 1 by omega, F, ih, cu _ _ ih, ru _ _ ih]
  -- basic: stands in the basis
  have mem : ∀ k x, (∃ i, i < m ∧ (f (k + 1)).getD i 0 = x) ↔ x = c k ∨ ((∃ i, i < m ∧ (f k).getD i 0 = x) ∧ (f k).getD (r k) 0 ≠ x) := fun k x => by
    have h := mem_set (l := f k) (r := r k) (c := c k) (x := x) (by rw [(G k).len]; exact (L k).1) fun i i' h h' e => ndK k i i' (by rw [← (G k).len]; exact h) (by rw [← (G k).len]; exact h') e
    rw [(G k).len] at h
    rw [F k]
    exact h
  have leave : ∀ x d k, (∃ i, i < m ∧ (f k).getD i 0 = x) → (¬ ∃ i, i < m ∧ (f (k + d)).getD i 0 = x) → ∃ j, k ≤ j ∧ j < k + d ∧ (f j).getD (r j) 0 = x := by
    intro x d
    induction d with
    | zero => exact fun k h1 h2 => absurd h1 h2
    | succ d ih =>
      intro k h1 h2
      by_cases e : (f k).getD (r k) 0 = x
      · exact ⟨k, Nat.le_refl _, by omega, e⟩
      · obtain ⟨j, j1, j2, j3⟩ := ih (k + 1) ((mem k x).mpr (.inr ⟨h1, e⟩)) (by rw [show k + 1 + d = k + (d + 1) by omega]; exact h2)
        exact ⟨j, by omega, by omega, j3⟩
  have enter : ∀ x d k, (¬ ∃ i, i < m ∧ (f k).getD i 0 = x) → (∃ i, i < m ∧ (f (k + d)).getD i 0 = x) → ∃ j, k ≤ j ∧ j < k + d ∧ c j = x := by
    intro x d
    induction d with
    | zero => exact fun k h1 h2 => absurd h2 h1
    | succ d ih =>
      intro k h1 h2
      by_cases e : c k = x
      · exact ⟨k, Nat.le_refl _, by omega, e⟩
      · obtain ⟨j, j1, j2, j3⟩ := ih (k + 1) (fun z => (mem k x).mp z |>.elim (fun z => e z.symm) fun z => h1 z.1) (by rw [show k + 1 + d = k + (d + 1) by omega]; exact h2)
        exact ⟨j, by omega, by omega, j3⟩
  -- the greatest one that enters
  have top : ∀ d, ∃ k0, k0 ≤ d ∧ ∀ k, k ≤ d → c (a + k) ≤ c (a + k0) := by
    intro d
    induction d with
    | zero => exact ⟨0, Nat.le_refl _, fun k hk => by rw [show k = 0 by omega]; exact Nat.le_refl _⟩
    | succ d ih =>
      obtain ⟨k0, h1, h2⟩ := ih
      by_cases e : c (a + k0) ≤ c (a + (d + 1))
      · refine ⟨d + 1, Nat.le_refl _, fun k hk => ?_⟩
        by_cases z : k = d + 1
        · rw [z]
          exact Nat.le_refl _
        · exact Nat.le_trans (h2 k (by omega)) e
      · refine ⟨k0, by omega, fun k hk => ?_⟩
        by_cases z : k = d + 1
        · rw [z]
          omega
        · exact h2 k (by omega)
  obtain ⟨k0, hk0, hmax⟩ := top P
  have big : ∀ k, c (a + k) ≤ c (a + k0) := by
    intro k
    induction k using Nat.strongRecOn with
    | ind k ih =>
      by_cases h : k ≤ P
      · exact hmax k h
      · have := ih (k - P) (by omega)
        have e := cu _ _ (per (k - P))
        rw [show a + (k - P) + P = a + k by omega] at e
        rw [e]
        exact this
  -- the value goes up, so it stands still
  have inc : ∀ k, T m A (f (k + 1)) m N * bl m A (f k) - T m A (f k) m N * bl m A (f (k + 1)) = (- T m A (f k) m (c k)) * T m A (f k) (r k) N := fun k => by
    have h := T_set (c := c k) (G k).rep (L k).1 (G k).len (Nat.le_refl m) (Nat.ne_of_gt (L k).1) N
    rw [← F k] at h
    have h2 := bl_set (A := A) (c := c k) (L k).1 (G k).len
    rw [← F k] at h2
    rw [h2]
    grind
  have mono : ∀ d k, T m A (f k) m N * bl m A (f (k + d)) ≤ T m A (f (k + d)) m N * bl m A (f k) := by
    intro d
    induction d with
    | zero => exact fun k => Int.le_refl _
    | succ d ih =>
      intro k
      have h1 := ih k
      have h2 := inc (k + d)
      have h3 : 0 ≤ (- T m A (f (k + d)) m (c (k + d))) * T m A (f (k + d)) (r (k + d)) N := Int.mul_nonneg (by have := (E (k + d)).2.1; omega) ((G (k + d)).feas _ (L (k + d)).1)
      have p1 := (G k).rep.pos
      have p2 := (G (k + d)).rep.pos
      have p3 := (G (k + d + 1)).rep.pos
      have h4 : T m A (f (k + d)) m N * bl m A (f (k + d + 1)) ≤ T m A (f (k + d + 1)) m N * bl m A (f (k + d)) := by omega
      rw [show k + (d + 1) = k + d + 1 by omega]
      have a1 := Int.mul_le_mul_of_nonneg_right h1 (Int.le_of_lt p3)
      have a2 := Int.mul_le_mul_of_nonneg_right h4 (Int.le_of_lt p1)
      refine Int.le_of_mul_le_mul_right ?_ p2
      grind
  have still : ∀ k, T m A (f (a + k)) (r (a + k)) N = 0 := fun k => by
    have nn := (G (a + k)).feas _ (L (a + k)).1
    by_cases z : T m A (f (a + k)) (r (a + k)) N = 0
    · exact z
    · exfalso
      have h1 := inc (a + k)
      have h2 : 0 < (- T m A (f (a + k)) m (c (a + k))) * T m A (f (a + k)) (r (a + k)) N := Int.mul_pos (by have := (E (a + k)).2.1; omega) (by omega)
      have h3 := mono (P - 1) (a + k + 1)
      rw [show a + k + 1 + (P - 1) = a + k + P by omega, per k] at h3
      omega
  have zero : ∀ x d k, (¬ ∃ i, i < m ∧ (f (a + k)).getD i 0 = x) → ∀ i, i < m → (f (a + k + d)).getD i 0 = x → T m A (f (a + k + d)) i N = 0 := by
    intro x d
    induction d with
    | zero => exact fun k h i hi e => absurd ⟨i, hi, e⟩ h
    | succ d ih =>
      intro k h i hi e
      have hF := F (a + k + d)
      have s := still (k + d)
      rw [show a + (k + d) = a + k + d by omega] at s
      rw [show a + k + (d + 1) = a + k + d + 1 by omega] at e ⊢
      by_cases er : i = r (a + k + d)
      · rw [hF, er, T_set_row (L (a + k + d)).1 (G (a + k + d)).len]
        exact s
      · have e2 : (f (a + k + d)).getD i 0 = x := by
          rw [hF, List.getD_eq_getElem?_getD, List.getElem?_set_ne (Ne.symm er), ← List.getD_eq_getElem?_getD] at e
          exact e
        have h0 := ih k h i hi e2
        have h1 := T_set (c := c (a + k + d)) (G (a + k + d)).rep (L (a + k + d)).1 (G (a + k + d)).len (Nat.le_of_lt hi) er N
        rw [← hF, h0, s] at h1
        have p := (G (a + k + d)).rep.pos
        have h2 : bl m A (f (a + k + d)) * T m A (f (a + k + d + 1)) i N = 0 := by rw [h1]; grind
        rcases Int.mul_eq_zero.mp h2 with z | z
        · omega
        · exact z
  -- where it leaves
  have ht : ¬ ∃ i, i < m ∧ (f (a + k0)).getD i 0 = c (a + k0) := fun ⟨i, hi, e⟩ => (G _).out (E _) i hi e
  obtain ⟨j, j1, j2, j3⟩ := leave (c (a + k0)) (P - 1) (a + k0 + 1) ((mem (a + k0) _).mpr (.inl rfl)) (by
    rw [show a + k0 + 1 + (P - 1) = a + k0 + P by omega, per k0]
    exact ht)
  obtain ⟨d, rfl⟩ : ∃ d, j = a + k0 + d := ⟨j - (a + k0), by omega⟩
  have bs := big (k0 + d)
  rw [show a + (k0 + d) = a + k0 + d by omega] at bs
  have ne : c (a + k0 + d) ≠ c (a + k0) := fun z => (G _).out (E (a + k0 + d)) (r (a + k0 + d)) (L _).1 (by rw [j3, z])
  have lt : c (a + k0 + d) < c (a + k0) := by omega
  have two := T_two (l' := f (a + k0)) (G (a + k0 + d)).rep (c (a + k0 + d))
  have n1 : 0 ≤ T m A (f (a + k0)) m (c (a + k0 + d)) := (E (a + k0)).2.2 _ lt
  have p1 := (G (a + k0)).rep.pos
  have p2 := (G (a + k0 + d)).rep.pos
  have n2 := (E (a + k0 + d)).2.1
  have n3 : 0 < sumN m fun i => T m A (f (a + k0 + d)) i (c (a + k0 + d)) * T m A (f (a + k0)) m ((f (a + k0 + d)).getD i 0) := by
    have h1 : 0 ≤ bl m A (f (a + k0 + d)) * T m A (f (a + k0)) m (c (a + k0 + d)) := Int.mul_nonneg (Int.le_of_lt p2) n1
    have h2 : T m A (f (a + k0 + d)) m (c (a + k0 + d)) * bl m A (f (a + k0)) < 0 := Int.mul_neg_of_neg_of_pos n2 p1
    omega
  obtain ⟨i, hi, hpos⟩ := sumN_pos m n3
  -- the basic one with that row
  have nb : ¬ ∃ i', i' < m ∧ (f (a + k0)).getD i' 0 = (f (a + k0 + d)).getD i 0 := fun ⟨i', hi', e⟩ => by
    rw [← e, T_other (Nat.le_refl m) hi' (Nat.ne_of_gt hi')] at hpos
    simp at hpos
  obtain ⟨q, q1, q2, q3⟩ := enter _ d (a + k0) nb ⟨i, hi, rfl⟩
  have bq := big (q - a)
  rw [show a + (q - a) = q by omega, q3] at bq
  have Lr := L (a + k0 + d)
  have hne : (f (a + k0 + d)).getD i 0 ≠ c (a + k0) := fun z => by
    have ei := ndK (a + k0 + d) i (r (a + k0 + d)) hi Lr.1 (by rw [z, j3])
    subst ei
    have h1 : T m A (f (a + k0 + d)) (r (a + k0 + d)) (c (a + k0 + d)) * T m A (f (a + k0)) m ((f (a + k0 + d)).getD (r (a + k0 + d)) 0) < 0 := by
      rw [j3]
      exact Int.mul_neg_of_pos_of_neg Lr.2.1 (E (a + k0)).2.1
    omega
  have g1 : 0 ≤ T m A (f (a + k0)) m ((f (a + k0 + d)).getD i 0) := (E (a + k0)).2.2 _ (by omega)
  have g2 : 0 < T m A (f (a + k0 + d)) i (c (a + k0 + d)) := by
    by_cases z : 0 < T m A (f (a + k0 + d)) i (c (a + k0 + d))
    · exact z
    · exfalso
      have : 0 ≤ (- T m A (f (a + k0 + d)) i (c (a + k0 + d))) * T m A (f (a + k0)) m ((f (a + k0 + d)).getD i 0) := Int.mul_nonneg (by omega) g1
      grind
  have z0 := zero _ d k0 nb i hi rfl
  have sr := still (k0 + d)
  rw [show a + (k0 + d) = a + k0 + d by omega] at sr
  have fin := (Lr.2.2 i hi g2).2 (by rw [sr, z0]; grind)
  rw [j3] at fin
  omega
/-- a run goes down a well-founded relation -/
theorem acc_of {α : Type} (R : α → α → Prop) (Q : α → Prop) (hQ : ∀ x y, Q x → R y x → Q y) (h : ∀ f : Nat → α, (∀ k, Q (f k)) → (∀ k, R (f (k + 1)) (f k)) → False) : ∀ x, Q x → Acc R x := by
  intro x hx
  refine Classical.byContradiction fun na => ?_
  have step : ∀ z : {z : α // Q z ∧ ¬ Acc R z}, ∃ y : {y : α // Q y ∧ ¬ Acc R y}, R y.1 z.1 := fun ⟨z, q, n⟩ => by
    refine Classical.byContradiction fun hn => n ⟨z, fun y hy => ?_⟩
    exact Classical.byContradiction fun ny => hn ⟨⟨y, hQ z y q hy, ny⟩, hy⟩
  have ⟨g, hg⟩ := Classical.skolem.mp step
  let s : Nat → {z : α // Q z ∧ ¬ Acc R z} := fun k => Nat.rec ⟨x, hx, na⟩ (fun _ y => g y) k
  exact h (fun k => (s k).1) (fun k => (s k).2.1) fun k => hg (s k)
theorem runs_end : ∀ l, Good N m A l → Acc (fun l' l => Step N m A l l') l :=
  acc_of _ (Good N m A) (fun x y g s => g.next s) fun f G S => no_chain f G S
end
end Sx
end
section -- Ans
/-! Ans: what the last table tells. -/
namespace Sx
section
variable (n m : Nat) (R : Nat → Nat → Int)
def colA (j : Nat) : Vec := fun k => if j < n then (if k < m then R j k else -1) else if j < n + m then unit (j - n) k else (if k < m then 1 else 0)
variable {n m R}
theorem colA_unit : ∀ k, k < m → colA n m R (n + k) = unit k := fun k hk => by
  funext z
  unfold colA
  rw [if_neg (by omega), if_pos (by omega), show n + k - n = k by omega]
theorem colA_row {j k : Nat} (hj : j < n) (hk : k < m) : colA n m R j k = R j k := by
  unfold colA
  rw [if_pos hj, if_pos hk]
theorem colA_obj {j : Nat} (hj : j < n) : colA n m R j m = -1 := by
  unfold colA
  rw [if_pos hj, if_neg (Nat.lt_irrefl m)]
theorem colA_slack {j : Nat} (h1 : n ≤ j) (h2 : j < n + m) : colA n m R j m = 0 ∧ ∀ k, 0 ≤ colA n m R j k := by
  have e : ∀ k, colA n m R j k = unit (j - n) k := fun k => by
    unfold colA
    rw [if_neg (by omega), if_pos h2]
  refine ⟨?_, fun k => ?_⟩
  · rw [e]
    unfold unit
    rw [if_neg (by omega)]
  · rw [e]
    unfold unit
    split <;> decide
theorem good_start {l : List Nat} (hlen : l.length = m) (hl : ∀ i, i < m → l.getD i 0 = n + i) : Good (n + m) m (colA n m R) l ∧ bl m (colA n m R) l = 1 ∧ ∀ i j, i ≤ m → T m (colA n m R) l i j = colA n m R j i := by
  obtain ⟨h1, h2, h3⟩ := Rep.start (A := colA n m R) (n := n) colA_unit hl
  refine ⟨⟨hlen, fun i hi => by rw [hl i hi]; omega, h3, fun i hi => ?_⟩, h1, h2⟩
  rw [h2 i _ (by omega)]
  unfold colA
  rw [if_neg (by omega), if_neg (by omega), if_pos hi]
  decide
theorem opt_ok {l : List Nat} (G : Good (n + m) m (colA n m R) l) (h : ∀ j, j < n + m → 0 ≤ T m (colA n m R) l m j) :
    (∀ k, k < m → 0 ≤ T m (colA n m R) l m (n + k)) ∧ ∀ j, j < n → 0 < sumN m fun k => R j k * T m (colA n m R) l m (n + k) := by
  refine ⟨fun k hk => h _ (by omega), fun j hj => ?_⟩
  have e := T_row (l := l) (A := colA n m R) (n := n) colA_unit j
  rw [colA_obj hj, sumN_congr m (g := fun k => R j k * T m (colA n m R) l m (n + k)) fun k hk => by rw [colA_row hj hk]] at e
  have h1 := h j (by omega)
  have h2 := G.rep.pos
  omega
/-- the weights of a ray, as they are laid -/
def wF (n : Nat) (b : Nat → Nat) (t : Nat → Int) (c : Nat) (be : Int) : Nat → Nat → Int
  | 0 => if c < n then up (fun _ => 0) c be else fun _ => 0
  | i + 1 => if b i < n then up (wF n b t c be i) (b i) (-t i) else wF n b t c be i
theorem sumN_up {n p : Nat} (hp : p < n) (w f : Nat → Int) (v : Int) : sumN n (fun j => up w p v j * f j) = sumN n (fun j => w j * f j) + (v - w p) * f p := by
  rw [sumN_split p n _ hp, sumN_split p n (fun j => w j * f j) hp]
  have e : (sumN n fun i => if i = p then 0 else up w p v i * f i) = sumN n fun i => if i = p then 0 else w i * f i := sumN_congr n fun i hi => by
    by_cases z : i = p
    · rw [if_pos z, if_pos z]
    · rw [if_neg z, if_neg z]
      simp [up, z]
  rw [e]
  have : up w p v p = v := by simp [up]
  rw [this]
  grind
theorem wF_at {b : Nat → Nat} {t : Nat → Int} {c : Nat} {be : Int} : ∀ (i p : Nat), p ≠ c → (∀ i', i' < i → b i' ≠ p) → wF n b t c be i p = 0
  | 0, p, h, _ => by
    unfold wF
    split
    · simp [up, h]
    · rfl
  | i + 1, p, h, h2 => by
    unfold wF
    have ih := wF_at (b := b) (t := t) (be := be) (c := c) i p h fun i' hi => h2 i' (by omega)
    split
    · simp only [up]
      rw [if_neg fun e => h2 i (Nat.lt_succ_self i) e.symm]
      exact ih
    · exact ih
theorem wF_sum {b : Nat → Nat} {t : Nat → Int} {c : Nat} {be : Int} (f : Nat → Int) : ∀ (i : Nat), (∀ i' i'', i' < i → i'' < i → b i' = b i'' → i' = i'') → (∀ i', i' < i → b i' ≠ c) →
    sumN n (fun j => wF n b t c be i j * f j) = (if c < n then be * f c else 0) + sumN i fun i' => if b i' < n then -t i' * f (b i') else 0
  | 0, _, _ => by
    rw [sumN]
    by_cases h : c < n
    · have e : wF n b t c be 0 = up (fun _ => 0) c be := by unfold wF; rw [if_pos h]
      rw [e, sumN_up h, if_pos h, sumN_zero n fun i hi => by simp]
      simp
    · have e : wF n b t c be 0 = fun _ => 0 := by unfold wF; rw [if_neg h]
      rw [e, if_neg h, sumN_zero n fun i hi => by simp]
      rfl
  | i + 1, nd, nc => by
    have ih := wF_sum (b := b) (t := t) (c := c) (be := be) f i (fun i' i'' h h' => nd i' i'' (by omega) (by omega)) fun i' h => nc i' (by omega)
    rw [sumN]
    by_cases h : b i < n
    · have e : wF n b t c be (i + 1) = up (wF n b t c be i) (b i) (-t i) := by rw [wF, if_pos h]
      have z : wF n b t c be i (b i) = 0 := wF_at i (b i) (nc i (Nat.lt_succ_self i)) fun i' hi e => by
        have := nd i' i (by omega) (Nat.lt_succ_self i) e
        omega
      rw [e, sumN_up h, ih, z, if_pos h]
      grind
    · have e : wF n b t c be (i + 1) = wF n b t c be i := by rw [wF, if_neg h]
      rw [e, ih, if_neg h]
      grind
theorem wF_nonneg {b : Nat → Nat} {t : Nat → Int} {c : Nat} {be : Int} (hbe : 0 ≤ be) : ∀ (i : Nat), (∀ i', i' < i → t i' ≤ 0) → ∀ p, 0 ≤ wF n b t c be i p
  | 0, _, p => by
    unfold wF
    split
    · simp only [up]
      split
      · exact hbe
      · exact Int.le_refl 0
    · exact Int.le_refl 0
  | i + 1, h, p => by
    unfold wF
    have ih := wF_nonneg (b := b) (t := t) (c := c) hbe i (fun i' hi => h i' (by omega)) p
    split
    · simp only [up]
      split
      · have := h i (Nat.lt_succ_self i)
        omega
      · exact ih
    · exact ih
theorem wF_bound {b : Nat → Nat} {t : Nat → Int} {c : Nat} {be : Int} {B : Nat} (hbe : be.natAbs ≤ B) : ∀ (i : Nat), (∀ i', i' < i → (t i').natAbs ≤ B) → ∀ p, (wF n b t c be i p).natAbs ≤ B
  | 0, _, p => by
    unfold wF
    split
    · simp only [up]
      split
      · exact hbe
      · simp
    · simp
  | i + 1, h, p => by
    unfold wF
    have ih := wF_bound (b := b) (t := t) (c := c) hbe i (fun i' hi => h i' (by omega)) p
    split
    · simp only [up]
      split
      · have := h i (Nat.lt_succ_self i)
        omega
      · exact ih
    · exact ih
theorem ray_ok {l : List Nat} {c : Nat} (G : Good (n + m) m (colA n m R) l) (E : EntC (n + m) m (colA n m R) l c) (h : ∀ i, i < m → T m (colA n m R) l i c ≤ 0) (w : Nat → Int) (hw : w = wF n (fun i => l.getD i 0) (fun i => T m (colA n m R) l i c) c (bl m (colA n m R) l) m) :
    (∀ k, k < m → sumN n (fun j => w j * R j k) ≤ 0) ∧ 0 < sumN n w := by
  have nd : ∀ i' i'', i' < m → i'' < m → l.getD i' 0 = l.getD i'' 0 → i' = i'' := fun i' i'' h h' e => G.rep.nodup h h' e
  have nc : ∀ i', i' < m → l.getD i' 0 ≠ c := fun i' hi => G.out E i' hi
  have S := fun f => wF_sum (n := n) (b := fun i => l.getD i 0) (t := fun i => T m (colA n m R) l i c) (c := c) (be := bl m (colA n m R) l) f m nd nc
  rw [← hw] at S
  have rep : ∀ k, k ≤ m → bl m (colA n m R) l * colA n m R c k = (sumN m fun i => T m (colA n m R) l i c * colA n m R (l.getD i 0) k) + T m (colA n m R) l m c * unit m k := fun k hk => by
    rw [G.rep.rep c k hk, sumN]
    congr 1
    · exact sumN_congr m fun i hi => by rw [Bof_lt hi]
    · rw [Bof_m]
  have hb := G.rep.pos
  refine ⟨fun k hk => ?_, ?_⟩
  · have r := rep k (by omega)
    have u0 : unit m k = 0 := by unfold unit; rw [if_neg (by omega)]
    rw [u0, Int.mul_zero, Int.add_zero] at r
    rw [S]
    -- what the other columns bring
    have e2 : (sumN m fun i => T m (colA n m R) l i c * colA n m R (l.getD i 0) k) =
        -(sumN m fun i => if l.getD i 0 < n then -T m (colA n m R) l i c * R (l.getD i 0) k else 0) + -(sumN m fun i => if l.getD i 0 < n then 0 else -T m (colA n m R) l i c * colA n m R (l.getD i 0) k) := by
      have : ∀ f g : Nat → Int, -(sumN m f) + -(sumN m g) = sumN m fun i => (-1) * f i + (-1) * g i := fun f g => by
        rw [sumN_lin]
        omega
      rw [this]
      refine sumN_congr m fun i hi => ?_
      by_cases z : l.getD i 0 < n
      · rw [if_pos z, if_pos z, colA_row z hk]
        grind
      · rw [if_neg z, if_neg z]
        grind
    have nn : 0 ≤ sumN m fun i => if l.getD i 0 < n then 0 else -T m (colA n m R) l i c * colA n m R (l.getD i 0) k := sumN_nonneg m fun i hi => by
      by_cases z : l.getD i 0 < n
      · rw [if_pos z]
        exact Int.le_refl 0
      · rw [if_neg z]
        exact Int.mul_nonneg (by have := h i hi; omega) ((colA_slack (by omega) (G.lt i hi)).2 k)
    by_cases hc : c < n
    · rw [if_pos hc]
      rw [colA_row hc hk] at r
      omega
    · rw [if_neg hc]
      have p : 0 ≤ bl m (colA n m R) l * colA n m R c k := Int.mul_nonneg (Int.le_of_lt hb) ((colA_slack (by omega) E.1).2 k)
      omega
  · have r := rep m (Nat.le_refl m)
    have u1 : unit m m = 1 := by unfold unit; rw [if_pos rfl]
    rw [u1, Int.mul_one] at r
    have s1 := S fun _ => 1
    have e0 : sumN n w = sumN n fun j => w j * 1 := sumN_congr n fun j _ => by rw [Int.mul_one]
    rw [e0, s1]
    have e2 : (sumN m fun i => T m (colA n m R) l i c * colA n m R (l.getD i 0) m) = sumN m fun i => if l.getD i 0 < n then -T m (colA n m R) l i c * 1 else 0 := sumN_congr m fun i hi => by
      by_cases z : l.getD i 0 < n
      · rw [if_pos z, colA_obj z]
        grind
      · rw [if_neg z, (colA_slack (by omega) (G.lt i hi)).1, Int.mul_zero]
    rw [e2] at r
    have neg := E.2.1
    by_cases hc : c < n
    · rw [if_pos hc]
      rw [colA_obj hc] at r
      omega
    · rw [if_neg hc]
      rw [(colA_slack (by omega) E.1).1] at r
      omega
theorem colA_bound {B : Nat} (hB : 1 ≤ B) (h : ∀ j, j < n → ∀ k, k < m → (R j k).natAbs ≤ B) : ∀ j k, k ≤ m → (colA n m R j k).natAbs ≤ B := fun j k hk => by
  unfold colA unit
  split
  · rename_i hj
    split
    · rename_i hk
      exact h j hj k hk
    · simpa using hB
  · split
    · split <;> simp <;> omega
    · split <;> simp <;> omega
end
end Sx
end
section -- Eval
/-! Eval: how the evaluator goes, for proofs about terms. -/
namespace Ev
open PySem
/-- data -/
abbrev row (r : List Int) : PV := .tup (r.map .int)
abbrev rows (rs : List (List Int)) : PV := .tup (rs.map row)
abbrev lrow (r : List Int) : PV := .lst (r.map .int)
abbrev lrows (rs : List (List Int)) : PV := .lst (rs.map lrow)
theorem fin_same (M : Mem) (v : PV) : fin M v M = some (v, M) := by
  unfold fin
  split <;> rfl
theorem call_eq {T : Nat → Option Fn} {d f : Nat} {fn : Fn} {args : List PV} {M : Mem} (h : T f = some fn) (hl : args.length = fn.np) : callF T (d + 1) f args M = match evS (callF T d) fn.body (args.map .val ++ List.replicate (fn.ns - fn.np) .non) M with
    | some (.rt v M') => fin M v M'
    | some (.nx _ M') => fin M .non M'
    | none => none := by
  unfold callF
  rw [h]
  simp only
  rw [if_pos hl]
  all_goals
    generalize evS (callF T d) fn.body (args.map .val ++ List.replicate (fn.ns - fn.np) .non) M = z
    rcases z with _ | z
    · rfl
    · cases z <;> rfl
/-- a def without traces: its value -/
theorem call_rt {T : Nat → Option Fn} {D f k : Nat} {fn : Fn} {args : List PV} {M : Mem} {v : PV} (hD : k + 1 ≤ D) (h : T f = some fn) (hl : args.length = fn.np) (hb : ∀ d, k ≤ d → evS (callF T d) fn.body (args.map .val ++ List.replicate (fn.ns - fn.np) .non) M = some (.rt v M)) : callF T D f args M = some (v, M) := by
  obtain ⟨d, rfl⟩ : ∃ d, D = d + 1 := ⟨D - 1, by omega⟩
  rw [call_eq h hl, hb d (by omega)]
  exact fin_same M v
theorem call_nx {T : Nat → Option Fn} {D f k : Nat} {fn : Fn} {args : List PV} {M : Mem} (hD : k + 1 ≤ D) (h : T f = some fn) (hl : args.length = fn.np) (hb : ∀ d, k ≤ d → ∃ ρ, evS (callF T d) fn.body (args.map .val ++ List.replicate (fn.ns - fn.np) .non) M = some (.nx ρ M)) : callF T D f args M = some (.non, M) := by
  obtain ⟨d, rfl⟩ : ∃ d, D = d + 1 := ⟨D - 1, by omega⟩
  obtain ⟨ρ, e⟩ := hb d (by omega)
  rw [call_eq h hl, e]
  exact fin_same M .non
/-! ### the evaluator's rows, with all arguments -/
/-- by a truth value -/
def selB {α : Type} (x : PV) (a b : Option α) : Option α := match x with
  | .bl true => a
  | .bl false => b
  | _ => none
@[simp] theorem selB_bl {α : Type} (c : Bool) (a b : Option α) : selB (.bl c) a b = if c = true then a else b := by cases c <;> rfl
def getS (x : Option Slot) : Option PV := match x with
  | some (.val v) => some v
  | _ => none
@[simp] theorem getS_val (v : PV) : getS (some (.val v)) = some v := (rfl)
def borS (x : Option Slot) (M : Mem) (r : R PV) : R PV := match x with
  | some (.own xs) => some (.lst xs, M)
  | some (.ownD ks vs) => some (.dct ks vs, M)
  | _ => r
@[simp] theorem borS_val (v : PV) (M : Mem) (r : R PV) : borS (some (.val v)) M r = r := (rfl)
@[simp] theorem borS_own (xs : List PV) (M : Mem) (r : R PV) : borS (some (.own xs)) M r = some (.lst xs, M) := (rfl)
@[simp] theorem borS_ownD (ks vs : List PV) (M : Mem) (r : R PV) : borS (some (.ownD ks vs)) M r = some (.dct ks vs, M) := (rfl)
section
variable (cf : CallF) (ρ : Slots) (M : Mem)
@[simp] theorem bor_var (i : Nat) (r : R PV) : bor ρ M (.var i) r = borS ρ[i]? M r := by
  rcases h : ρ[i]? with _ | s
  · simp [bor, borS, h]
  · cases s <;> simp [bor, borS, h]
@[simp] theorem bor_cst (v : PV) (r : R PV) : bor ρ M (.cst v) r = r := (rfl)
@[simp] theorem io_cst (v : PV) : isOwn ρ (.cst v) = false := (rfl)
@[simp] theorem bor_glo (x : Str) (v : PV) (r : R PV) : bor ρ M (.glo x v) r = r := (rfl)
@[simp] theorem io_glo (x : Str) (v : PV) : isOwn ρ (.glo x v) = false := (rfl)
@[simp] theorem bor_bin (o : BOp) (a b : E) (r : R PV) : bor ρ M (.bin o a b) r = r := (rfl)
@[simp] theorem io_bin (o : BOp) (a b : E) : isOwn ρ (.bin o a b) = false := (rfl)
@[simp] theorem bor_neg (a : E) (r : R PV) : bor ρ M (.neg a) r = r := (rfl)
@[simp] theorem io_neg (a : E) : isOwn ρ (.neg a) = false := (rfl)
@[simp] theorem bor_no (a : E) (r : R PV) : bor ρ M (.no a) r = r := (rfl)
@[simp] theorem io_no (a : E) : isOwn ρ (.no a) = false := (rfl)
@[simp] theorem bor_and (a b : E) (r : R PV) : bor ρ M (.and a b) r = r := (rfl)
@[simp] theorem io_and (a b : E) : isOwn ρ (.and a b) = false := (rfl)
@[simp] theorem bor_or (a b : E) (r : R PV) : bor ρ M (.or a b) r = r := (rfl)
@[simp] theorem io_or (a b : E) : isOwn ρ (.or a b) = false := (rfl)
@[simp] theorem bor_cmp (o : COp) (a b : E) (r : R PV) : bor ρ M (.cmp o a b) r = r := (rfl)
@[simp] theorem io_cmp (o : COp) (a b : E) : isOwn ρ (.cmp o a b) = false := (rfl)
@[simp] theorem bor_cmp2 (o p : COp) (a b c : E) (r : R PV) : bor ρ M (.cmp2 o p a b c) r = r := (rfl)
@[simp] theorem io_cmp2 (o p : COp) (a b c : E) : isOwn ρ (.cmp2 o p a b c) = false := (rfl)
@[simp] theorem bor_ite (a b c : E) (r : R PV) : bor ρ M (.ite a b c) r = r := (rfl)
@[simp] theorem io_ite (a b c : E) : isOwn ρ (.ite a b c) = false := (rfl)
@[simp] theorem bor_tup (a : E) (r : R PV) : bor ρ M (.tup a) r = r := (rfl)
@[simp] theorem io_tup (a : E) : isOwn ρ (.tup a) = false := (rfl)
@[simp] theorem bor_call (f : Nat) (a : E) (r : R PV) : bor ρ M (.call f a) r = r := (rfl)
@[simp] theorem io_call (f : Nat) (a : E) : isOwn ρ (.call f a) = false := (rfl)
@[simp] theorem bor_callB (f : Nat) (a : E) (r : R PV) : bor ρ M (.callB f a) r = r := (rfl)
@[simp] theorem io_callB (f : Nat) (a : E) : isOwn ρ (.callB f a) = false := (rfl)
@[simp] theorem bor_meth (c : Nat) (m : Str) (f : Nat) (a b : E) (r : R PV) : bor ρ M (.meth c m f a b) r = r := (rfl)
@[simp] theorem io_meth (c : Nat) (m : Str) (f : Nat) (a b : E) : isOwn ρ (.meth c m f a b) = false := (rfl)
@[simp] theorem bor_make (c f : Nat) (a : E) (r : R PV) : bor ρ M (.make c f a) r = r := (rfl)
@[simp] theorem io_make (c f : Nat) (a : E) : isOwn ρ (.make c f a) = false := (rfl)
@[simp] theorem bor_idx (a b : E) (r : R PV) : bor ρ M (.idx a b) r = r := (rfl)
@[simp] theorem io_idx (a b : E) : isOwn ρ (.idx a b) = false := (rfl)
@[simp] theorem bor_slc (a b c : E) (r : R PV) : bor ρ M (.slc a b c) r = r := (rfl)
@[simp] theorem io_slc (a b c : E) : isOwn ρ (.slc a b c) = false := (rfl)
@[simp] theorem bor_fld (a : E) (f : Str) (r : R PV) : bor ρ M (.fld a f) r = r := (rfl)
@[simp] theorem io_fld (a : E) (f : Str) : isOwn ρ (.fld a f) = false := (rfl)
@[simp] theorem bor_bi (b : Bi) (a : E) (r : R PV) : bor ρ M (.bi b a) r = r := (rfl)
@[simp] theorem io_bi (b : Bi) (a : E) : isOwn ρ (.bi b a) = false := (rfl)
@[simp] theorem bor_isi (a : E) (t : Ty) (r : R PV) : bor ρ M (.isi a t) r = r := (rfl)
@[simp] theorem io_isi (a : E) (t : Ty) : isOwn ρ (.isi a t) = false := (rfl)
@[simp] theorem bor_disp (a : E) (r : R PV) : bor ρ M (.disp a) r = r := (rfl)
@[simp] theorem io_disp (a : E) : isOwn ρ (.disp a) = false := (rfl)
@[simp] theorem bor_comp (a b c d : E) (o : List Nat) (r : R PV) : bor ρ M (.comp a b c d o) r = r := (rfl)
@[simp] theorem io_comp (a b c d : E) (o : List Nat) : isOwn ρ (.comp a b c d o) = false := (rfl)
@[simp] theorem bor_comp2 (a b c d e f : E) (o : List Nat) (r : R PV) : bor ρ M (.comp2 a b c d e f o) r = r := (rfl)
@[simp] theorem io_comp2 (a b c d e f : E) (o : List Nat) : isOwn ρ (.comp2 a b c d e f o) = false := (rfl)
@[simp] theorem bor_rngl (a b : E) (x y : Bool) (r : R PV) : bor ρ M (.rngl a b x y) r = r := (rfl)
@[simp] theorem io_rngl (a b : E) (x y : Bool) : isOwn ρ (.rngl a b x y) = false := (rfl)
@[simp] theorem bor_box (a : E) (r : R PV) : bor ρ M (.box a) r = r := (rfl)
@[simp] theorem io_box (a : E) : isOwn ρ (.box a) = false := (rfl)
@[simp] theorem bor_boxD (k : List Str) (a : E) (r : R PV) : bor ρ M (.boxD k a) r = r := (rfl)
@[simp] theorem io_boxD (k : List Str) (a : E) : isOwn ρ (.boxD k a) = false := (rfl)
def isOwnS : Option Slot → Bool
  | some (.own _) => true
  | some (.ownD _ _) => true
  | _ => false
@[simp] theorem isOwnS_val (v : PV) : isOwnS (some (.val v)) = false := (rfl)
@[simp] theorem isOwnS_own (v : List PV) : isOwnS (some (.own v)) = true := (rfl)
@[simp] theorem io_var (i : Nat) : isOwn ρ (.var i) = isOwnS ρ[i]? := by
  rcases h : ρ[i]? with _ | s
  · simp [isOwn, isOwnS, h]
  · cases s <;> simp [isOwn, isOwnS, h]
@[simp] theorem ito_seq (a : E) : itOwn ρ (.seq a) = isOwn ρ a := (rfl)
@[simp] theorem ito_enum (a : E) : itOwn ρ (.enum a) = isOwn ρ a := (rfl)
@[simp] theorem ito_zip (a b : E) : itOwn ρ (.zip a b) = (isOwn ρ a || isOwn ρ b) := (rfl)
@[simp] theorem ito_rng1 (a : E) : itOwn ρ (.rng1 a) = false := (rfl)
@[simp] theorem ito_rng2 (a b : E) : itOwn ρ (.rng2 a b) = false := (rfl)
@[simp] theorem ev_var (i : Nat) : evE cf (.var i) ρ M = (getS ρ[i]?).map (·, M) := by
  show (slotOf ρ i).map _ = _
  rcases h : ρ[i]? with _ | s
  · simp [slotOf, getS, h]
  · cases s <;> simp [slotOf, getS, h]
@[simp] theorem ev_cst (v : PV) : evE cf (.cst v) ρ M = some (v, M) := (rfl)
@[simp] theorem ev_glo (x : Str) (v : PV) : evE cf (.glo x v) ρ M = some (v, M) := (rfl)
@[simp] theorem ev_bin (op : BOp) (a b : E) : evE cf (.bin op a b) ρ M = bnd (bor ρ M a (evE cf a ρ M)) fun x M1 => bnd (bor ρ M1 b (evE cf b ρ M1)) fun y M2 => (binV op x y).map (·, M2) := (rfl)
def negV : PV → Option PV
  | .int i => some (.int (-i))
  | _ => none
@[simp] theorem negV_int (i : Int) : negV (.int i) = some (.int (-i)) := (rfl)
@[simp] theorem ev_neg (a : E) : evE cf (.neg a) ρ M = bnd (evE cf a ρ M) fun x M1 => (negV x).map (·, M1) := by
  show (bnd (_ : R PV) fun x M1 => match x with
    | .int i => some (PV.int (-i), M1)
    | _ => none) = _
  congr 1
  funext x M1
  cases x <;> rfl
@[simp] theorem ev_no (a : E) : evE cf (.no a) ρ M = bnd (evE cf a ρ M) fun x M1 => selB x (some (.bl false, M1)) (some (.bl true, M1)) := by
  show (bnd (_ : R PV) fun x M1 => match x with
    | .bl b => some (PV.bl (!b), M1)
    | _ => none) = _
  refine congrArg (bnd _) (funext fun x => funext fun M1 => ?_)
  cases x with
  | bl b => cases b <;> rfl
  | _ => rfl
@[simp] theorem ev_and (a b : E) : evE cf (.and a b) ρ M = bnd (evE cf a ρ M) fun x M1 => selB x (evE cf b ρ M1) (some (.bl false, M1)) := by
  show (bnd (_ : R PV) fun x M1 => match x with
    | .bl true => evE cf b ρ M1
    | .bl false => some (.bl false, M1)
    | _ => none) = _
  refine congrArg (bnd _) (funext fun x => funext fun M1 => ?_)
  cases x with
  | bl b => cases b <;> rfl
  | _ => rfl
@[simp] theorem ev_or (a b : E) : evE cf (.or a b) ρ M = bnd (evE cf a ρ M) fun x M1 => selB x (some (.bl true, M1)) (evE cf b ρ M1) := by
  show (bnd (_ : R PV) fun x M1 => match x with
    | .bl true => some (.bl true, M1)
    | .bl false => evE cf b ρ M1
    | _ => none) = _
  refine congrArg (bnd _) (funext fun x => funext fun M1 => ?_)
  cases x with
  | bl b => cases b <;> rfl
  | _ => rfl
@[simp] theorem ev_cmp (op : COp) (a b : E) : evE cf (.cmp op a b) ρ M = bnd (bor ρ M a (evE cf a ρ M)) fun x M1 => bnd (bor ρ M1 b (evE cf b ρ M1)) fun y M2 => (cmpV M2 op x y).map fun r => (.bl r, M2) := (rfl)
@[simp] theorem ev_cmp2 (o1 o2 : COp) (a b c : E) : evE cf (.cmp2 o1 o2 a b c) ρ M = bnd (evE cf a ρ M) fun x M1 => bnd (evE cf b ρ M1) fun y M2 => (cmpV M2 o1 x y).bind fun r => if r = true then bnd (evE cf c ρ M2) fun z M3 => (cmpV M3 o2 y z).map fun r => (.bl r, M3) else some (.bl false, M2) := by
  show (bnd (_ : R PV) fun x M1 => bnd (_ : R PV) fun y M2 => Option.bind _ fun r => match r with
    | true => bnd (evE cf c ρ M2) fun z M3 => (cmpV M3 o2 y z).map fun r => (PV.bl r, M3)
    | false => some (.bl false, M2)) = _
  congr 1
  funext x M1
  congr 1
  funext y M2
  congr 1
  funext r
  cases r <;> rfl
@[simp] theorem ev_ite (c a b : E) : evE cf (.ite c a b) ρ M = bnd (evE cf c ρ M) fun x M1 => selB x (evE cf a ρ M1) (evE cf b ρ M1) := by
  show (bnd (_ : R PV) fun x M1 => match x with
    | .bl true => evE cf a ρ M1
    | .bl false => evE cf b ρ M1
    | _ => none) = _
  refine congrArg (bnd _) (funext fun x => funext fun M1 => ?_)
  cases x with
  | bl b => cases b <;> rfl
  | _ => rfl
@[simp] theorem ev_tup (es : E) : evE cf (.tup es) ρ M = bnd (evL cf es ρ M) fun xs M1 => if xs.length ≤ sizeLine then some (.tup xs, M1) else none := (rfl)
@[simp] theorem ev_disp (es : E) : evE cf (.disp es) ρ M = bnd (evL cf es ρ M) fun xs M1 => if xs.length ≤ sizeLine then some (.lst xs, M1) else none := (rfl)
@[simp] theorem ev_call (f : Nat) (es : E) : evE cf (.call f es) ρ M = bnd (evL cf es ρ M) fun xs M1 => cf f xs M1 := (rfl)
open Classical in
theorem ev_callB (f : Nat) (es : E) : evE cf (.callB f es) ρ M = bnd (evLB cf es ρ M) fun xs M1 => bnd (cf f xs M1) fun v M2 => if noLst 60 v = true ∧ M1.all moNoLst = true ∧ M2 = M1 then some (v, M1) else none := by
  rfl
@[simp] theorem ev_idx (a b : E) : evE cf (.idx a b) ρ M = bnd (bor ρ M a (evE cf a ρ M)) fun x M1 => bnd (evE cf b ρ M1) fun y M2 => (idxV M2 x y).map (·, M2) := (rfl)
@[simp] theorem ev_slc (a lo hi : E) : evE cf (.slc a lo hi) ρ M = bnd (bor ρ M a (evE cf a ρ M)) fun x M1 => bnd (evE cf lo ρ M1) fun l M2 => bnd (evE cf hi ρ M2) fun h M3 => (slcV lo hi x l h).map (·, M3) := (rfl)
@[simp] theorem ev_fld (a : E) (f : Str) : evE cf (.fld a f) ρ M = bnd (evE cf a ρ M) fun x M1 => (fldV M1 f x).map (·, M1) := (rfl)
@[simp] theorem ev_bi (b : Bi) (es : E) : evE cf (.bi b es) ρ M = bnd (evLB cf es ρ M) fun xs M1 => (biV M1 b xs).map (·, M1) := (rfl)
@[simp] theorem ev_isi (a : E) (t : Ty) : evE cf (.isi a t) ρ M = bnd (bor ρ M a (evE cf a ρ M)) fun x M1 => (tyV M1 t x).map fun b => (.bl b, M1) := (rfl)
@[simp] theorem ev_comp (elt it cond tg : E) (own : List Nat) : evE cf (.comp elt it cond tg own) ρ M = bnd (evI cf it ρ M) fun items M1 => (compL tg (evE cf cond) (evE cf elt) (wipeL ρ own) items [] M1).map fun r => (.lst r.1, r.2) := (rfl)
@[simp] theorem ev_boxD (ks : List Str) (es : E) : evE cf (.boxD ks es) ρ M = if ks.Nodup ∧ ks.length ≤ 15 then bnd (evL cf es ρ M) fun xs M1 => if xs.length = ks.length then some (.ref M1.length, M1 ++ [.dct (ks.map .str) xs]) else none else none := (rfl)
@[simp] theorem el_nil : evL cf .nil ρ M = some ([], M) := (rfl)
@[simp] theorem el_cons (a b : E) : evL cf (.cons a b) ρ M = bnd (evE cf a ρ M) fun x M1 => bnd (evL cf b ρ M1) fun xs M2 => some (x :: xs, M2) := (rfl)
@[simp] theorem eb_nil : evLB cf .nil ρ M = some ([], M) := (rfl)
@[simp] theorem eb_cons (a b : E) : evLB cf (.cons a b) ρ M = bnd (bor ρ M a (evE cf a ρ M)) fun x M1 => bnd (evLB cf b ρ M1) fun xs M2 => some (x :: xs, M2) := (rfl)
def rng1V : PV → Option (List PV)
  | .int j => if smallI j then some (rangeV 0 j) else none
  | _ => none
@[simp] theorem rng1V_int (j : Int) : rng1V (.int j) = if smallI j then some (rangeV 0 j) else none := (rfl)
@[simp] theorem ei_rng1 (a : E) : evI cf (.rng1 a) ρ M = bnd (evE cf a ρ M) fun x M1 => (rng1V x).map (·, M1) := by
  show (bnd (_ : R PV) fun x M1 => match x with
    | .int j => if smallI j = true then some (rangeV 0 j, M1) else none
    | _ => none) = _
  congr 1
  funext x M1
  cases x with
  | int j =>
    rw [rng1V_int]
    by_cases h : smallI j = true
    · simp [h]
    · simp [h]
  | _ => rfl
def itemsV : PV → Option (List PV)
  | .lst xs => some xs
  | .tup xs => some xs
  | _ => none
@[simp] theorem itemsV_lst (xs : List PV) : itemsV (.lst xs) = some xs := (rfl)
@[simp] theorem itemsV_tup (xs : List PV) : itemsV (.tup xs) = some xs := (rfl)
@[simp] theorem ei_enum (a : E) : evI cf (.enum a) ρ M = bnd (bor ρ M a (evE cf a ρ M)) fun x M1 => (itemsV x).map fun xs => (pairs 0 xs, M1) := by
  show (bnd (_ : R PV) fun x M1 => match x with
    | .lst xs => some (pairs 0 xs, M1)
    | .tup xs => some (pairs 0 xs, M1)
    | _ => none) = _
  congr 1
  funext x M1
  cases x <;> rfl
@[simp] theorem ei_seq (a : E) : evI cf (.seq a) ρ M = bnd (bor ρ M a (evE cf a ρ M)) fun x M1 => (itemsV x).map (·, M1) := by
  show (bnd (_ : R PV) fun x M1 => match x with
    | .lst xs => some (xs, M1)
    | .tup xs => some (xs, M1)
    | _ => none) = _
  congr 1
  funext x M1
  cases x <;> rfl
@[simp] theorem ei_zip (a b : E) : evI cf (.zip a b) ρ M = bnd (bor ρ M a (evE cf a ρ M)) fun x M1 => bnd (bor ρ M1 b (evE cf b ρ M1)) fun y M2 => (itemsV x).bind fun xs => (itemsV y).map fun ys => (zipV xs ys, M2) := by
  show (bnd (_ : R PV) fun x M1 => bnd (_ : R PV) fun y M2 => match x, y with
    | .lst xs, .lst ys => some (zipV xs ys, M2)
    | .tup xs, .lst ys => some (zipV xs ys, M2)
    | .lst xs, .tup ys => some (zipV xs ys, M2)
    | .tup xs, .tup ys => some (zipV xs ys, M2)
    | _, _ => none) = _
  congr 1
  funext x M1
  congr 1
  funext y M2
  cases x <;> cases y <;> rfl
/-! statements -/
@[simp] theorem es_asg (i : Nat) (e : E) : evS cf (.asg i e) ρ M = bnd (evE cf e ρ M) fun v M1 => some (.nx (ρ.set i (.val v)) M1) := (rfl)
def ownV : PV → Option Slot
  | .lst xs => some (.own xs)
  | _ => none
@[simp] theorem ownV_lst (xs : List PV) : ownV (.lst xs) = some (.own xs) := (rfl)
@[simp] theorem es_own (i : Nat) (e : E) : evS cf (.own i e) ρ M = if fresh e = true then bnd (evE cf e ρ M) fun v M1 => (ownV v).map fun s => .nx (ρ.set i s) M1 else none := by
  show (if fresh e = true then bnd (_ : R PV) fun v M1 => (match v with
      | .lst xs => some (Out.nx (ρ.set i (.own xs)) M1)
      | _ => none) else none) = _
  congr 2
  funext x M1
  cases x <;> rfl
@[simp] theorem es_ownD (i : Nat) : evS cf (.ownD i) ρ M = some (.nx (ρ.set i (.ownD [] [])) M) := (rfl)
def frzS : Option Slot → Option Slot
  | some (.own xs) => some (.val (.lst xs))
  | some (.ownD ks vs) => some (.val (.dct ks vs))
  | some (.val v) => some (.val v)
  | _ => none
@[simp] theorem frzS_own (xs : List PV) : frzS (some (.own xs)) = some (.val (.lst xs)) := (rfl)
@[simp] theorem frzS_ownD (ks vs : List PV) : frzS (some (.ownD ks vs)) = some (.val (.dct ks vs)) := (rfl)
@[simp] theorem frzS_val (v : PV) : frzS (some (.val v)) = some (.val v) := (rfl)
@[simp] theorem es_frz (i : Nat) : evS cf (.frz i) ρ M = (frzS ρ[i]?).map fun s => .nx (ρ.set i s) M := by
  show (match ρ[i]? with
    | some (.own xs) => some (Out.nx (ρ.set i (.val (.lst xs))) M)
    | some (.ownD ks vs) => some (.nx (ρ.set i (.val (.dct ks vs))) M)
    | some (.val v) => some (.nx ρ M)
    | _ => none) = _
  rcases h : ρ[i]? with _ | s
  · rfl
  · cases s with
    | val v =>
      have : ρ.set i (.val v) = ρ := by
        have hl := (List.getElem?_eq_some_iff.mp h).1
        have e := (List.getElem?_eq_some_iff.mp h).2
        rw [← e]
        exact List.set_getElem_self hl
      simp [this]
    | _ => rfl
@[simp] theorem es_par (is : List (Nat × Bool)) (es : E) : evS cf (.par is es) ρ M = if freshAll is es = true then bnd (evL cf es ρ M) fun vs M1 => (setPar ρ is vs).map (.nx · M1) else none := (rfl)
def tupV : PV → Option (List PV)
  | .tup xs => some xs
  | _ => none
@[simp] theorem tupV_tup (xs : List PV) : tupV (.tup xs) = some xs := (rfl)
@[simp] theorem es_multi (ts e : E) : evS cf (.multi ts e) ρ M = bnd (evE cf e ρ M) fun v M1 => (tupV v).bind fun xs => (asgMany cf ts xs ρ M1).map fun r => .nx r.1 r.2 := by
  show (bnd (_ : R PV) fun v M1 => match v with
    | .tup xs => (asgMany cf ts xs ρ M1).map fun r => Out.nx r.1 r.2
    | _ => none) = _
  congr 1
  funext x M1
  cases x <;> rfl
@[simp] theorem es_set (t e : E) : evS cf (.set t e) ρ M = bnd (evE cf e ρ M) fun v M1 => (asgT cf v t ρ M1).map fun r => .nx r.1 r.2 := (rfl)
def appS (s : Option Slot) (v : PV) : Option Slot := match s with
  | some (.own xs) => if xs.length < sizeLine then some (.own (xs ++ [v])) else none
  | _ => none
@[simp] theorem appS_own (xs : List PV) (v : PV) : appS (some (.own xs)) v = if xs.length < sizeLine then some (.own (xs ++ [v])) else none := (rfl)
theorem es_app (i : Nat) (e : E) {xs : List PV} (h : ρ[i]? = some (.own xs)) : evS cf (.app i e) ρ M = bnd (evE cf e ρ M) fun v M1 => if xs.length < sizeLine then some (.nx (ρ.set i (.own (xs ++ [v]))) M1) else none := by
  show (match ρ[i]? with
    | some (.own xs) => bnd (evE cf e ρ M) fun v M1 => if xs.length < sizeLine then some (Out.nx (ρ.set i (.own (xs ++ [v]))) M1) else none
    | _ => none) = _
  rw [h]
@[simp] theorem es_ex (e : E) : evS cf (.ex e) ρ M = bnd (evE cf e ρ M) fun _ M1 => some (.nx ρ M1) := (rfl)
@[simp] theorem es_ite (c : E) (a b : S) : evS cf (.ite c a b) ρ M = bnd (evE cf c ρ M) fun x M1 => selB x (evS cf a ρ M1) (evS cf b ρ M1) := by
  show (bnd (_ : R PV) fun x M1 => match x with
    | .bl true => evS cf a ρ M1
    | .bl false => evS cf b ρ M1
    | _ => none) = _
  refine congrArg (bnd _) (funext fun x => funext fun M1 => ?_)
  cases x with
  | bl b => cases b <;> rfl
  | _ => rfl
@[simp] theorem es_for (tg it : E) (b : S) : evS cf (.for tg it b) ρ M = if itOwn ρ it = true then none else bnd (evI cf it ρ M) fun items M1 => forL tg (evS cf b) items ρ M1 := (rfl)
@[simp] theorem es_whl (c : E) (b : S) : evS cf (.whl c b) ρ M = loopV (evE cf c) (evS cf b) ρ M := (rfl)
@[simp] theorem es_ret (e : E) : evS cf (.ret e) ρ M = bnd (evE cf e ρ M) fun v M1 => some (.rt v M1) := (rfl)
@[simp] theorem es_retN : evS cf .retN ρ M = some (.rt .non M) := (rfl)
@[simp] theorem es_rai : evS cf .rai ρ M = none := (rfl)
@[simp] theorem es_nil : evS cf .nil ρ M = some (.nx ρ M) := (rfl)
/-- one behind another -/
def thenS (o : Option Out) (k : Slots → Mem → Option Out) : Option Out := match o with
  | some (.nx ρ M) => k ρ M
  | r => r
@[simp] theorem thenS_nx (ρ : Slots) (M : Mem) (k : Slots → Mem → Option Out) : thenS (some (.nx ρ M)) k = k ρ M := (rfl)
@[simp] theorem thenS_rt (v : PV) (M : Mem) (k : Slots → Mem → Option Out) : thenS (some (.rt v M)) k = some (.rt v M) := (rfl)
@[simp] theorem thenS_none (k : Slots → Mem → Option Out) : thenS none k = none := (rfl)
@[simp] theorem es_cons (a b : S) : evS cf (.cons a b) ρ M = thenS (evS cf a ρ M) (evS cf b) := by
  show (match evS cf a ρ M with
    | some (.nx ρ1 M1) => evS cf b ρ1 M1
    | r => r) = _
  unfold thenS
  rcases evS cf a ρ M with _ | o
  · rfl
  · cases o <;> rfl
@[simp] theorem thenS_ite (c : Prop) [Decidable c] (a b : Option Out) (k : Slots → Mem → Option Out) : thenS (if c then a else b) k = if c then thenS a k else thenS b k := by
  split <;> rfl
@[simp] theorem forL_nil (tg : E) (body : Slots → Mem → Option Out) : forL tg body [] ρ M = some (.nx ρ M) := (rfl)
@[simp] theorem forL_cons (tg : E) (body : Slots → Mem → Option Out) (x : PV) (xs : List PV) : forL tg body (x :: xs) ρ M = (setTg tg x ρ).bind fun ρ1 => thenS (body ρ1 M) (forL tg body xs) := by
  show ((setTg tg x ρ).bind fun ρ1 => match body ρ1 M with
    | some (.nx ρ2 M2) => forL tg body xs ρ2 M2
    | r => r) = _
  refine congrArg (Option.bind _) (funext fun ρ1 => ?_)
  unfold thenS
  rcases body ρ1 M with _ | o
  · rfl
  · cases o <;> rfl
/-! values -/
@[simp] theorem st_var (i : Nat) (v : PV) : setTg (.var i) v ρ = some (ρ.set i (.val v)) := (rfl)
@[simp] theorem st_tup (es : E) (vs : List PV) : setTg (.tup es) (.tup vs) ρ = setTgs es vs ρ := (rfl)
@[simp] theorem sts_nil : setTgs .nil [] ρ = some ρ := (rfl)
@[simp] theorem sts_cons (a b : E) (v : PV) (vs : List PV) : setTgs (.cons a b) (v :: vs) ρ = (setTg a v ρ).bind fun ρ1 => setTgs b vs ρ1 := (rfl)
@[simp] theorem bv_add (i j : Int) : binV .add (.int i) (.int j) = some (.int (i + j)) := (rfl)
@[simp] theorem bv_sub (i j : Int) : binV .sub (.int i) (.int j) = some (.int (i - j)) := (rfl)
@[simp] theorem bv_mul (i j : Int) : binV .mul (.int i) (.int j) = if mulOk i j = true then some (.int (i * j)) else none := (rfl)
@[simp] theorem bv_fdiv (i j : Int) : binV .fdiv (.int i) (.int j) = if 0 < j ∧ j.natAbs.log2 < 9000 then some (.int (i / j)) else none := (rfl)
@[simp] theorem bv_mod (i j : Int) : binV .mod (.int i) (.int j) = if 0 < j then some (.int (i % j)) else none := (rfl)
@[simp] theorem bv_pow (i j : Int) : binV .pow (.int i) (.int j) = if 0 ≤ j ∧ j ≤ 1000000 ∧ i.natAbs < 2 ^ 64 then some (.int (i ^ j.toNat)) else none := (rfl)
@[simp] theorem bv_addL (xs ys : List PV) : binV .add (.lst xs) (.lst ys) = if xs.length + ys.length ≤ sizeLine then some (.lst (xs ++ ys)) else none := (rfl)
@[simp] theorem bv_addS (xs ys : List PV) : binV .add (.scr xs) (.lst ys) = if xs.length + ys.length ≤ sizeLine then some (.lst (xs ++ ys)) else none := (rfl)
@[simp] theorem bv_mulL (xs : List PV) (k : Int) : binV .mul (.lst xs) (.int k) = if k.natAbs.log2 < 63 ∧ xs.length * k.toNat ≤ sizeLine then some (.lst (List.replicate k.toNat xs).flatten) else none := (rfl)
@[simp] theorem cv_lt (i j : Int) : cmpV M .lt (.int i) (.int j) = some (decide (i < j)) := (rfl)
@[simp] theorem cv_le (i j : Int) : cmpV M .le (.int i) (.int j) = some (decide (i ≤ j)) := (rfl)
@[simp] theorem cv_gt (i j : Int) : cmpV M .gt (.int i) (.int j) = some (decide (j < i)) := (rfl)
@[simp] theorem cv_ge (i j : Int) : cmpV M .ge (.int i) (.int j) = some (decide (j ≤ i)) := (rfl)
@[simp] theorem cv_eqI (i j : Int) : cmpV M .eq (.int i) (.int j) = some (decide (i = j)) := by
  simp [cmpV, scal, eqv, toD, PyData.eqv]
  by_cases h : i = j <;> simp [h]
@[simp] theorem cv_neI (i j : Int) : cmpV M .ne (.int i) (.int j) = some (!decide (i = j)) := by
  simp [cmpV, scal, eqv, toD, PyData.eqv]
  by_cases h : i = j <;> simp [h]
@[simp] theorem cv_isN (a : PV) : cmpV M .is a .non = some (isNon a) := (rfl)
@[simp] theorem cv_isnotN (a : PV) : cmpV M .isnot a .non = some (!isNon a) := (rfl)
@[simp] theorem cv_in (a b : PV) : cmpV M .isin a b = inV M a b := (rfl)
@[simp] theorem cv_notin (a b : PV) : cmpV M .notin a b = (inV M a b).map (!·) := (rfl)
@[simp] theorem isNon_int (i : Int) : isNon (.int i) = false := (rfl)
@[simp] theorem isNon_non : isNon .non = true := (rfl)
@[simp] theorem isNon_bl (b : Bool) : isNon (.bl b) = false := (rfl)
@[simp] theorem isNon_tup (xs : List PV) : isNon (.tup xs) = false := (rfl)
@[simp] theorem isNon_lst (xs : List PV) : isNon (.lst xs) = false := (rfl)
@[simp] theorem iv_tup (xs : List PV) (i : Int) : idxV M (.tup xs) (.int i) = at? xs i := (rfl)
@[simp] theorem iv_lst (xs : List PV) (i : Int) : idxV M (.lst xs) (.int i) = at? xs i := (rfl)
@[simp] theorem bi_lenT (xs : List PV) : biV M .len [.tup xs] = some (.int xs.length) := (rfl)
@[simp] theorem bi_lenL (xs : List PV) : biV M .len [.lst xs] = some (.int xs.length) := (rfl)
@[simp] theorem bi_sum (xs : List PV) : biV M .sum [.lst xs] = (ints? xs).map fun ns => .int ns.sum := (rfl)
@[simp] theorem bi_max (xs : List PV) : biV M .max [.lst xs] = (ints? xs).bind fun ns => (maxL ns).map .int := (rfl)
@[simp] theorem bi_min (xs : List PV) : biV M .min [.lst xs] = (ints? xs).bind fun ns => (minL ns).map .int := (rfl)
@[simp] theorem bi_max2 (i j : Int) : biV M .max2 [.int i, .int j] = some (.int (if j > i then j else i)) := (rfl)
@[simp] theorem bi_min2 (i j : Int) : biV M .min2 [.int i, .int j] = some (.int (if j < i then j else i)) := (rfl)
@[simp] theorem bi_all (xs : List PV) : biV M .all [.lst xs] = (bools? xs).map fun bs => .bl (bs.all id) := (rfl)
@[simp] theorem bi_any (xs : List PV) : biV M .any [.lst xs] = (bools? xs).map fun bs => .bl (bs.any id) := (rfl)
@[simp] theorem bi_tupL (xs : List PV) : biV M .tupOf [.lst xs] = some (.tup xs) := (rfl)
@[simp] theorem bi_tupT (xs : List PV) : biV M .tupOf [.tup xs] = some (.tup xs) := (rfl)
@[simp] theorem bi_listL (xs : List PV) : biV M .listOf [.lst xs] = some (.lst xs) := (rfl)
@[simp] theorem bi_listT (xs : List PV) : biV M .listOf [.tup xs] = some (.lst xs) := (rfl)
@[simp] theorem bi_intB (b : Bool) : biV M .intOf [.bl b] = some (.int (if b then 1 else 0)) := (rfl)
@[simp] theorem bi_intI (i : Int) : biV M .intOf [.int i] = some (.int i) := (rfl)
@[simp] theorem bi_repr (x : PV) : biV M .reprOf [x] = if isD 60 x && ((toD x).showable && decide ((toD x).shown.length ≤ sizeLine)) then some (.str (toD x).shown) else none := (rfl)
@[simp] theorem ty_int (t : Ty) (i : Int) : tyV M t (.int i) = some (t == .int) := (rfl)
@[simp] theorem ty_bl (t : Ty) (b : Bool) : tyV M t (.bl b) = some (t == .bool || t == .int) := (rfl)
@[simp] theorem ty_str (t : Ty) (s : Str) : tyV M t (.str s) = some (t == .str) := (rfl)
@[simp] theorem ty_tup (t : Ty) (xs : List PV) : tyV M t (.tup xs) = some (t == .tup) := (rfl)
@[simp] theorem ty_lst (t : Ty) (xs : List PV) : tyV M t (.lst xs) = some (t == .lst) := (rfl)
@[simp] theorem ty_non (t : Ty) : tyV M t .non = some false := (rfl)
@[simp] theorem wipe_nil : wipeL ρ [] = ρ := (rfl)
@[simp] theorem wipe_cons (v : Nat) (vs : List Nat) : wipeL ρ (v :: vs) = (wipeL ρ vs).set v .non := (rfl)
@[simp] theorem sp_nil : setPar ρ [] [] = some ρ := (rfl)
@[simp] theorem sp_val (i : Nat) (is : List (Nat × Bool)) (v : PV) (vs : List PV) : setPar ρ ((i, false) :: is) (v :: vs) = setPar (ρ.set i (.val v)) is vs := (rfl)
@[simp] theorem sp_own (i : Nat) (is : List (Nat × Bool)) (xs : List PV) (vs : List PV) : setPar ρ ((i, true) :: is) (.lst xs :: vs) = setPar (ρ.set i (.own xs)) is vs := (rfl)
@[simp] theorem am_nil : asgMany cf .nil [] ρ M = some (ρ, M) := (rfl)
@[simp] theorem am_cons (t ts : E) (v : PV) (vs : List PV) : asgMany cf (.cons t ts) (v :: vs) ρ M = (asgT cf v t ρ M).bind fun r => asgMany cf ts vs r.1 r.2 := (rfl)
@[simp] theorem asg_var (v : PV) (i : Nat) : asgT cf v (.var i) ρ M = some (ρ.set i (.val v), M) := (rfl)
theorem asg_val (v : PV) (i : Nat) (k : E) {x : PV} (h : ρ[i]? = some (.val x)) : asgT cf v (.idx (.var i) k) ρ M = bnd (evE cf k ρ M) fun kv M1 => (setItemV M1 x kv v).map (ρ, ·) := by
  show (match ρ[i]? with
    | some (.val x) => bnd (evE cf k ρ M) fun kv M1 => (setItemV M1 x kv v).map (ρ, ·)
    | _ => bnd (evE cf k ρ M) fun kv M1 => (setSlotV ρ i kv v).map (·, M1)) = _
  rw [h]
theorem asg_own (v : PV) (i : Nat) (k : E) {xs : List PV} (h : ρ[i]? = some (.own xs)) : asgT cf v (.idx (.var i) k) ρ M = bnd (evE cf k ρ M) fun kv M1 => ((lset xs kv v).map fun ys => ρ.set i (.own ys)).map (·, M1) := by
  show (match ρ[i]? with
    | some (.val x) => bnd (evE cf k ρ M) fun kv M1 => (setItemV M1 x kv v).map (ρ, ·)
    | _ => bnd (evE cf k ρ M) fun kv M1 => (setSlotV ρ i kv v).map (·, M1)) = _
  rw [h]
  show (bnd (evE cf k ρ M) fun kv M1 => (setSlotV ρ i kv v).map (·, M1)) = _
  refine congrArg (bnd _) (funext fun kv => funext fun M1 => ?_)
  unfold setSlotV
  rw [h]
end
@[simp] theorem isC_fresh1 (a b c d : E) (o : List Nat) : fresh (.comp a b c d o) = true := (rfl)
@[simp] theorem fresh_disp (a : E) : fresh (.disp a) = true := (rfl)
@[simp] theorem fresh_add (a b : E) : fresh (.bin .add a b) = true := (rfl)
@[simp] theorem fresh_mul (a b : E) : fresh (.bin .mul a b) = true := (rfl)
@[simp] theorem fresh_slc (a b c : E) : fresh (.slc a b c) = true := (rfl)
@[simp] theorem fresh_list (a : E) : fresh (.bi .listOf a) = true := (rfl)
@[simp] theorem fresh_rngl (a b : E) (x : Bool) : fresh (.rngl a b x false) = true := (rfl)
/-! ### comprehensions without traces -/
theorem compL_all {α : Type} {tg : E} {cond elt : Slots → Mem → R PV} {ρ : Slots} {M : Mem} (enc f : α → PV) (st : α → Slots) : ∀ (xs : List α) (acc : List PV), (∀ x ∈ xs, setTg tg (enc x) ρ = some (st x) ∧ cond (st x) M = some (.bl true, M) ∧ elt (st x) M = some (f x, M)) → acc.length + xs.length ≤ sizeLine →
    compL tg cond elt ρ (xs.map enc) acc M = some (acc ++ xs.map f, M)
  | [], acc, _, _ => by simp [compL]
  | x :: xs, acc, h, hl => by
    obtain ⟨h1, h2, h3⟩ := h x List.mem_cons_self
    rw [List.length_cons] at hl
    rw [List.map_cons, compL, h1]
    simp only [Option.bind_some, h2, h3, bnd_some]
    rw [if_pos (by omega), compL_all enc f st xs (acc ++ [f x]) (fun y hy => h y (List.mem_cons_of_mem _ hy)) (by rw [List.length_append]; simp; omega)]
    simp
/-- .. with a test -/
theorem compL_some {α : Type} {tg : E} {cond elt : Slots → Mem → R PV} {ρ : Slots} {M : Mem} (enc f : α → PV) (p : α → Bool) (st : α → Slots) : ∀ (xs : List α) (acc : List PV), (∀ x ∈ xs, setTg tg (enc x) ρ = some (st x) ∧ cond (st x) M = some (.bl (p x), M) ∧ (p x = true → elt (st x) M = some (f x, M))) → acc.length + xs.length ≤ sizeLine →
    compL tg cond elt ρ (xs.map enc) acc M = some (acc ++ (xs.filter p).map f, M)
  | [], acc, _, _ => by simp [compL]
  | x :: xs, acc, h, hl => by
    obtain ⟨h1, h2, h3⟩ := h x List.mem_cons_self
    rw [List.length_cons] at hl
    rw [List.map_cons, compL, h1]
    simp only [Option.bind_some, h2, bnd_some]
    cases e : p x with
    | true =>
      simp only [h3 e, bnd_some]
      rw [if_pos (by omega), compL_some enc f p st xs (acc ++ [f x]) (fun y hy => h y (List.mem_cons_of_mem _ hy)) (by rw [List.length_append]; simp; omega), List.filter_cons_of_pos e]
      simp
    | false =>
      simp only
      rw [compL_some enc f p st xs acc (fun y hy => h y (List.mem_cons_of_mem _ hy)) (by omega), List.filter_cons_of_neg (by simp [e])]
theorem ints_map (xs : List Int) : ints? (xs.map .int) = some xs := by
  induction xs with
  | nil => rfl
  | cons x xs ih => simp [ints?, ih]
theorem bools_map (xs : List Bool) : bools? (xs.map .bl) = some xs := by
  induction xs with
  | nil => rfl
  | cons x xs ih => simp [bools?, ih]
theorem bools_mapf {α : Type} (p : α → Bool) (xs : List α) : bools? (xs.map fun x => .bl (p x)) = some (xs.map p) := by
  rw [← bools_map, List.map_map]
  rfl
theorem ints_mapf {α : Type} (p : α → Int) (xs : List α) : ints? (xs.map fun x => .int (p x)) = some (xs.map p) := by
  rw [← ints_map, List.map_map]
  rfl
theorem zip_map {α β : Type} (f : α → PV) (g : β → PV) (xs : List α) (ys : List β) : zipV (xs.map f) (ys.map g) = (xs.zip ys).map fun p => .tup [f p.1, g p.2] := by
  unfold zipV
  rw [List.zip_map, List.map_map]
  rfl
theorem pairs_map {α : Type} (f : α → PV) : ∀ (xs : List α) (n : Nat), pairs n (xs.map f) = (xs.zipIdx n).map fun p => .tup [.int p.2, f p.1]
  | [], _ => rfl
  | x :: xs, n => by
    rw [List.map_cons, pairs, pairs_map f xs (n + 1)]
    rfl
theorem sizeLine_eq : sizeLine = 16777216 := by decide
end Ev
end
section -- EvalF
/-! EvalF: rows and tables as functions. -/
namespace Ev
open PySem Sx
abbrev mk {α : Type} (n : Nat) (f : Nat → α) : List α := (List.range n).map f
abbrev mkR (n : Nat) (f : Nat → Int) : List PV := mk n fun j => .int (f j)
/-- a row, a greatest of sums: tuples; a row, a table: lists -/
abbrev rowT (n : Nat) (f : Nat → Int) : PV := .tup (mkR n f)
abbrev rowL (n : Nat) (f : Nat → Int) : PV := .lst (mkR n f)
abbrev highT (n m : Nat) (h : Nat → Nat → Int) : PV := .tup (mk n fun j => rowT m (h j))
abbrev tabL (n m : Nat) (t : Nat → Nat → Int) : PV := .lst (mk n fun i => rowL m (t i))
@[simp] theorem szl1 : 1 ≤ sizeLine := by rw [Ev.sizeLine_eq]; decide
@[simp] theorem szl2 : 2 ≤ sizeLine := by rw [Ev.sizeLine_eq]; decide
@[simp] theorem szl3 : 3 ≤ sizeLine := by rw [Ev.sizeLine_eq]; decide
@[simp] theorem szl4 : 4 ≤ sizeLine := by rw [Ev.sizeLine_eq]; decide
@[simp] theorem szl5 : 5 ≤ sizeLine := by rw [Ev.sizeLine_eq]; decide
@[simp] theorem szl6 : 6 ≤ sizeLine := by rw [Ev.sizeLine_eq]; decide
@[simp] theorem szl7 : 7 ≤ sizeLine := by rw [Ev.sizeLine_eq]; decide
@[simp] theorem szl8 : 8 ≤ sizeLine := by rw [Ev.sizeLine_eq]; decide
@[simp] theorem szl9 : 9 ≤ sizeLine := by rw [Ev.sizeLine_eq]; decide
@[simp] theorem szl10 : 10 ≤ sizeLine := by rw [Ev.sizeLine_eq]; decide
@[simp] theorem szl11 : 11 ≤ sizeLine := by rw [Ev.sizeLine_eq]; decide
@[simp] theorem szl12 : 12 ≤ sizeLine := by rw [Ev.sizeLine_eq]; decide
@[simp] theorem szl13 : 13 ≤ sizeLine := by rw [Ev.sizeLine_eq]; decide
@[simp] theorem szl14 : 14 ≤ sizeLine := by rw [Ev.sizeLine_eq]; decide
@[simp] theorem szl15 : 15 ≤ sizeLine := by rw [Ev.sizeLine_eq]; decide
@[simp] theorem szl16 : 16 ≤ sizeLine := by rw [Ev.sizeLine_eq]; decide
@[simp] theorem szl17 : 17 ≤ sizeLine := by rw [Ev.sizeLine_eq]; decide
@[simp] theorem szl18 : 18 ≤ sizeLine := by rw [Ev.sizeLine_eq]; decide
@[simp] theorem szl19 : 19 ≤ sizeLine := by rw [Ev.sizeLine_eq]; decide
@[simp] theorem szl20 : 20 ≤ sizeLine := by rw [Ev.sizeLine_eq]; decide
@[simp] theorem szl21 : 21 ≤ sizeLine := by rw [Ev.sizeLine_eq]; decide
@[simp] theorem szl22 : 22 ≤ sizeLine := by rw [Ev.sizeLine_eq]; decide
@[simp] theorem szl23 : 23 ≤ sizeLine := by rw [Ev.sizeLine_eq]; decide
@[simp] theorem szl24 : 24 ≤ sizeLine := by rw [Ev.sizeLine_eq]; decide
@[simp] theorem szl25 : 25 ≤ sizeLine := by rw [Ev.sizeLine_eq]; decide
@[simp] theorem szl26 : 26 ≤ sizeLine := by rw [Ev.sizeLine_eq]; decide
@[simp] theorem szl27 : 27 ≤ sizeLine := by rw [Ev.sizeLine_eq]; decide
@[simp] theorem szl28 : 28 ≤ sizeLine := by rw [Ev.sizeLine_eq]; decide
@[simp] theorem szl29 : 29 ≤ sizeLine := by rw [Ev.sizeLine_eq]; decide
@[simp] theorem szl30 : 30 ≤ sizeLine := by rw [Ev.sizeLine_eq]; decide
@[simp] theorem szl31 : 31 ≤ sizeLine := by rw [Ev.sizeLine_eq]; decide
@[simp] theorem szl32 : 32 ≤ sizeLine := by rw [Ev.sizeLine_eq]; decide
theorem mk_len {α : Type} (n : Nat) (f : Nat → α) : (mk n f).length = n := by simp
theorem mk_congr {α : Type} {n : Nat} {f g : Nat → α} (h : ∀ i, i < n → f i = g i) : mk n f = mk n g := by
  refine List.map_congr_left fun i hi => h i (List.mem_range.mp hi)
theorem at_nat {α : Type} {xs : List α} {i : Nat} (h : i < xs.length) : at? xs (i : Int) = xs[i]? := by
  unfold at? L2.atI L2.ixN
  rw [if_pos (by omega), if_pos (by omega)]
  simp
theorem at_mk {α : Type} {n i : Nat} {f : Nat → α} (h : i < n) : at? (mk n f) (i : Int) = some (f i) := by
  rw [at_nat (by simpa using h)]
  simp [h]
theorem at_last {α : Type} {n : Nat} {f : Nat → α} : at? (mk (n + 1) f) (-1) = some (f n) := by
  have h : (mk (n + 1) f).length = n + 1 := by simp
  unfold at? L2.atI L2.ixN
  rw [if_neg (by omega), if_pos (by rw [h]; omega), h, Option.bind_some, show (-1 + ((n + 1 : Nat) : Int)).toNat = n by omega]
  simp
@[simp] theorem at_zero {α : Type} (x : α) (xs : List α) : at? (x :: xs) 0 = some x := by
  have := at_nat (xs := x :: xs) (i := 0) (by simp)
  simpa using this
@[simp] theorem at_one {α : Type} (x y : α) (xs : List α) : at? (x :: y :: xs) 1 = some y := by
  have := at_nat (xs := x :: y :: xs) (i := 1) (by simp)
  simpa using this
theorem range_nat (n : Nat) : rangeV 0 (n : Int) = mk n fun i => .int (i : Int) := by
  unfold rangeV
  rw [show ((n : Int) - 0).toNat = n by omega]
  refine List.map_congr_left fun i _ => ?_
  simp
theorem pairs_mk (f : Nat → PV) : ∀ (n s : Nat), pairs s ((List.range' s n).map f) = (List.range' s n).map fun i => .tup [.int (i : Int), f i]
  | 0, s => rfl
  | n + 1, s => by
    rw [List.range'_succ, List.map_cons, List.map_cons, pairs, pairs_mk f n (s + 1)]
theorem pairs_range (n : Nat) (f : Nat → PV) : pairs 0 (mk n f) = mk n fun i => .tup [.int (i : Int), f i] := by
  unfold mk
  rw [List.range_eq_range']
  exact pairs_mk f n 0
theorem zip_mk (n : Nat) (f g : Nat → PV) : zipV (mk n f) (mk n g) = mk n fun i => .tup [f i, g i] := by
  unfold zipV mk
  rw [List.zip_map', List.map_map]
  rfl
theorem sum_mk (n : Nat) (f : Nat → Int) : (mk n f).sum = sumN n f := by
  induction n with
  | zero => rfl
  | succ n ih =>
    unfold mk at ih ⊢
    rw [List.range_succ, List.map_append, List.sum_append, ih, sumN]
    simp
theorem ints_mk (n : Nat) (f : Nat → Int) : ints? (mkR n f) = some (mk n f) := ints_mapf f _
theorem bools_mk (n : Nat) (f : Nat → Bool) : bools? (mk n fun i => .bl (f i)) = some (mk n f) := bools_mapf f _
theorem all_mk (n : Nat) (f : Nat → Bool) : (mk n f).all id = true ↔ ∀ i, i < n → f i = true := by
  simp [mk]
theorem log2_lt {n k : Nat} (h : n < 2 ^ k) (hk : 0 < k) : n.log2 < k := by
  by_cases e : n = 0
  · subst e
    simpa using hk
  · exact (Nat.log2_lt e).mpr h
theorem smallI_nat {n : Nat} (h : n < 2 ^ 62) : smallI (n : Int) = true := by
  unfold smallI
  rw [decide_eq_true_eq, Int.natAbs_natCast]
  exact log2_lt h (by decide)
/-- a comprehension over numbers -/
theorem comp_mk {n : Nat} {tg : E} {cond elt : Slots → Mem → R PV} {ρ : Slots} {M : Mem} (enc f : Nat → PV) (st : Nat → Slots) (h : ∀ i, i < n → setTg tg (enc i) ρ = some (st i) ∧ cond (st i) M = some (.bl true, M) ∧ elt (st i) M = some (f i, M)) (hn : n ≤ sizeLine) :
    compL tg cond elt ρ (mk n enc) [] M = some (mk n f, M) := by
  have := compL_all (tg := tg) (cond := cond) (elt := elt) (ρ := ρ) (M := M) enc f st (List.range n) [] (fun i hi => h i (List.mem_range.mp hi)) (by simpa using hn)
  simpa using this
/-- a loop without traces -/
theorem for_mk {tg : E} {body : Slots → Mem → Option Out} {M : Mem} (enc : Nat → PV) (st : Nat → Slots) : ∀ (n s : Nat), (∀ i, s ≤ i → i < s + n → ∃ ρ1, setTg tg (enc i) (st i) = some ρ1 ∧ body ρ1 M = some (.nx (st (i + 1)) M)) →
    forL tg body ((List.range' s n).map enc) (st s) M = some (.nx (st (s + n)) M)
  | 0, s, _ => rfl
  | n + 1, s, h => by
    obtain ⟨ρ1, h1, h2⟩ := h s (Nat.le_refl _) (by omega)
    rw [List.range'_succ, List.map_cons, forL_cons, h1, Option.bind_some, h2, thenS_nx, for_mk enc st n (s + 1) fun i hi h3 => h i (by omega) (by omega)]
    rw [show s + 1 + n = s + (n + 1) by omega]
theorem for_mk0 {tg : E} {body : Slots → Mem → Option Out} {M : Mem} {n : Nat} (enc : Nat → PV) (st : Nat → Slots) (h : ∀ i, i < n → ∃ ρ1, setTg tg (enc i) (st i) = some ρ1 ∧ body ρ1 M = some (.nx (st (i + 1)) M)) :
    forL tg body (mk n enc) (st 0) M = some (.nx (st n) M) := by
  have := for_mk (tg := tg) (body := body) (M := M) enc st n 0 fun i _ hi => h i (by omega)
  rw [Nat.zero_add] at this
  unfold mk
  rw [List.range_eq_range']
  exact this
/-- .. that returns at the k-th turn -/
theorem for_rt {tg : E} {body : Slots → Mem → Option Out} {M : Mem} {n : Nat} (enc : Nat → PV) (st : Nat → Slots) {k : Nat} {v : PV} (hk : k < n) (h : ∀ i, i < k → ∃ ρ1, setTg tg (enc i) (st i) = some ρ1 ∧ body ρ1 M = some (.nx (st (i + 1)) M))
    (hr : ∃ ρ1, setTg tg (enc k) (st k) = some ρ1 ∧ body ρ1 M = some (.rt v M)) : forL tg body (mk n enc) (st 0) M = some (.rt v M) := by
  have aux : ∀ (d s : Nat), s + d = k → forL tg body ((List.range' s (n - s)).map enc) (st s) M = some (.rt v M) := by
    intro d
    induction d with
    | zero =>
      intro s hs
      have : s = k := by omega
      subst this
      obtain ⟨ρ1, h1, h2⟩ := hr
      rw [show n - s = (n - s - 1) + 1 by omega, List.range'_succ, List.map_cons, forL_cons, h1, Option.bind_some, h2, thenS_rt]
    | succ d ih =>
      intro s hs
      obtain ⟨ρ1, h1, h2⟩ := h s (by omega)
      rw [show n - s = (n - (s + 1)) + 1 by omega, List.range'_succ, List.map_cons, forL_cons, h1, Option.bind_some, h2, thenS_nx]
      exact ih (s + 1) (by omega)
  have := aux k 0 (by omega)
  unfold mk
  rw [List.range_eq_range']
  exact this
theorem mulOk_l {i j : Int} (h : i.natAbs < 2 ^ 64) : mulOk i j = true := by
  unfold mulOk
  simp only [Bool.or_eq_true, decide_eq_true_eq]
  left; left
  exact log2_lt h (by decide)
/-- numbers of a size that products may have -/
def Small (i : Int) : Prop := i.natAbs.log2 < 400000
theorem mulOk_big {i j : Int} (hi : Small i) (hj : Small j) : mulOk i j = true := by
  unfold mulOk
  simp only [Bool.or_eq_true, decide_eq_true_eq]
  right
  unfold Small at hi hj
  omega
theorem small_of {i : Int} {k : Nat} (h : i.natAbs < 2 ^ k) (hk : k ≤ 400000) (h0 : 0 < k) : Small i := by
  unfold Small
  by_cases e : i.natAbs = 0
  · rw [e]
    simp
  · have := (Nat.log2_lt e).mpr h
    omega
end Ev
end
section -- P3
namespace K02
open PySem Ev Sx
abbrev Tn := tnOf es
theorem is_integer_int {D : Nat} (h : 1 ≤ D) (i : Int) (M : Mem) : callF Tn D 1 [.int i] M = some (.bl true, M) := by
  refine call_rt (fn := ⟨1, 1, t1⟩) (k := 0) h rfl rfl fun d _ => ?_
  simp [t1]
theorem is_whole_int {D : Nat} (h : 2 ≤ D) (i a b : Int) (M : Mem) : callF Tn D 2 [.int i, .int a, .int b] M = some (.bl (decide (a ≤ i ∧ i ≤ b)), M) := by
  refine call_rt (fn := ⟨3, 3, t2⟩) (k := 1) h rfl rfl fun d hd => ?_
  simp [t2, is_integer_int hd]
  by_cases h : a ≤ i <;> simp [h]
theorem need_names_ok {D : Nat} (h : 3 ≤ D) (i : Int) (h1 : 1 ≤ i) (h2 : i ≤ 6) (M : Mem) : callF Tn D 3 [.int i] M = some (.non, M) := by
  refine call_nx (fn := ⟨1, 1, t3⟩) (k := 2) h rfl rfl fun d hd => ⟨[.val (.int i)], ?_⟩
  simp [t3, is_whole_int hd, h1, h2]
def inB (a : Int) (b : Option Int) (x : Int) : Bool := decide (a ≤ x) && (match b with
  | none => true
  | some b => decide (x ≤ b))
def optI : Option Int → PV
  | none => .non
  | some b => .int b
theorem are_whole_ok {D n : Nat} (h : 2 ≤ D) (q : Nat → Int) (k a : Int) (b : Option Int) (M : Mem) (hz : n ≤ 1000) : ∃ c, callF Tn D 4 [rowT n q, .int k, .int a, optI b] M = some (.bl c, M) ∧ (c = true ↔ (n : Int) = k ∧ ∀ i, i < n → inB a b (q i) = true) := by
  by_cases e : (n : Int) = k
  · refine ⟨(mk n fun i => inB a b (q i)).all id, ?_, by rw [all_mk]; simp [e]⟩
    refine call_rt (fn := ⟨4, 5, t4⟩) (k := 1) h rfl rfl fun d hd => ?_
    have c := comp_mk (n := n) (tg := .var 4) (cond := evE (callF Tn d) (.cst (.bl true))) (elt := evE (callF Tn d) (.and (.call 1 (.cons (.var 4) .nil)) (.and (.cmp .ge (.var 4) (.var 2)) (.or (.cmp .is (.var 3) (.cst .non)) (.cmp .le (.var 4) (.var 3)))))) (ρ := [.val (rowT n q), .val (.int k), .val (.int a), .val (optI b), .non]) (M := M)
      (fun i => .int (q i)) (fun i => .bl (inB a b (q i))) (fun i => [.val (rowT n q), .val (.int k), .val (.int a), .val (optI b), .val (.int (q i))]) (fun i hi => by
        cases b with
        | none => by_cases z : a ≤ q i <;> simp [is_integer_int hd, inB, optI, z]
        | some b => by_cases z : a ≤ q i <;> simp [is_integer_int hd, inB, optI, z]) (by
        rw [Ev.sizeLine_eq]
        omega)
    simp [t4, e, c, bools_mapf]
  · refine ⟨false, ?_, by simp [e]⟩
    refine call_rt (fn := ⟨4, 5, t4⟩) (k := 1) h rfl rfl fun d hd => ?_
    simp [t4, e]
def ItemOk (x : Int) : Prop := 0 ≤ x ∧ x ≤ 1000000
theorem inB_item {x : Int} : inB 0 (some 1000000) x = true ↔ ItemOk x := by
  simp [inB, ItemOk]
theorem need_sum_ok {D n : Nat} (h : 3 ≤ D) (hz : n ≤ 1000) (q : Nat → Int) (hq : ∀ i, i < n → ItemOk (q i)) (M : Mem) : callF Tn D 5 [.int n, rowT n q] M = some (.non, M) := by
  refine call_nx (fn := ⟨2, 2, t5⟩) (k := 2) h rfl rfl fun d hd => ⟨[.val (.int n), .val (rowT n q)], ?_⟩
  obtain ⟨c, e, hc⟩ := are_whole_ok hd q n 0 (some 1000000) M hz
  have : c = true := hc.mpr ⟨rfl, fun i hi => inB_item.mpr (hq i hi)⟩
  subst this
  simp only [optI] at e
  simp [t5, e]
theorem need_high_ok {D n m : Nat} (h : 4 ≤ D) (h1 : 1 ≤ n) (h2 : n ≤ 60) (hz : m ≤ 1000) (H : Nat → Nat → Int) (hH : ∀ j, j < n → ∀ i, i < m → ItemOk (H j i)) (M : Mem) : callF Tn D 7 [.int m, highT n m H] M = some (.non, M) := by
  refine call_nx (fn := ⟨2, 2, t7⟩) (k := 3) h rfl rfl fun d hd => ⟨[.val (.int m), .val (highT n m H)], ?_⟩
  have e : callF Tn d 6 [.int m, highT n m H] M = some (.bl true, M) := by
    refine call_rt (fn := ⟨2, 3, t6⟩) (k := 2) hd rfl rfl fun d hd => ?_
    have c := comp_mk (n := n) (tg := .var 2) (cond := evE (callF Tn d) (.cst (.bl true))) (elt := evE (callF Tn d) (.call 4 (.cons (.var 2) (.cons (.var 0) (.cons (.cst (.int (0))) (.cons (.glo "MOST_ITEM" (.int (1000000))) .nil)))))) (ρ := [.val (.int m), .val (highT n m H), .non]) (M := M)
      (fun j => rowT m (H j)) (fun j => .bl true) (fun j => [.val (.int m), .val (highT n m H), .val (rowT m (H j))]) (fun j hj => by
        obtain ⟨c, e, hc⟩ := are_whole_ok hd (H j) m 0 (some 1000000) M hz
        have : c = true := hc.mpr ⟨rfl, fun i hi => inB_item.mpr (hH j hj i hi)⟩
        subst this
        simp only [optI] at e
        simp [e]) (by
        rw [Ev.sizeLine_eq]
        omega)
    have c2 : bools? (mk n fun j => PV.bl true) = some (mk n fun _ => true) := bools_mapf _ _
    have g1 : (1 : Int) ≤ n := by omega
    have g2 : (n : Int) ≤ 60 := by omega
    simp [t6, c, c2, g1, g2]
  simp [t7, e]
theorem product_ok {D n : Nat} (h : 1 ≤ D) (q y : Nat → Int) (M : Mem) (hq : ∀ i, i < n → (q i).natAbs < 2 ^ 64) (hz : n ≤ 1000) : callF Tn D 29 [rowT n q, rowT n y] M = some (.int (sumN n fun i => q i * y i), M) := by
  refine call_rt (fn := ⟨2, 4, t29⟩) (k := 0) h rfl rfl fun d _ => ?_
  have c := comp_mk (n := n) (tg := .tup (.cons (.var 2) (.cons (.var 3) .nil))) (cond := evE (callF Tn d) (.cst (.bl true))) (elt := evE (callF Tn d) (.bin .mul (.var 2) (.var 3))) (ρ := [.val (rowT n q), .val (rowT n y), .non, .non]) (M := M)
    (fun i => PV.tup [.int (q i), .int (y i)]) (fun i => .int (q i * y i)) (fun i => [.val (rowT n q), .val (rowT n y), .val (.int (q i)), .val (.int (y i))]) (fun i hi => by
      simp [mulOk_l (hq i hi)]) (by
      rw [Ev.sizeLine_eq]
      omega)
  have s := sum_mk n fun i => q i * y i
  simp [t29, zip_mk, c, ints_mapf] at s ⊢
  exact s
theorem less_ok {D n : Nat} (h : 1 ≤ D) (q y : Nat → Int) (M : Mem) (hz : n ≤ 1000) : callF Tn D 14 [rowT n q, rowT n y] M = some (rowL n fun i => q i - y i, M) := by
  refine call_rt (fn := ⟨2, 4, t14⟩) (k := 0) h rfl rfl fun d _ => ?_
  have c := comp_mk (n := n) (tg := .tup (.cons (.var 2) (.cons (.var 3) .nil))) (cond := evE (callF Tn d) (.cst (.bl true))) (elt := evE (callF Tn d) (.bin .sub (.var 2) (.var 3))) (ρ := [.val (rowT n q), .val (rowT n y), .non, .non]) (M := M)
    (fun i => PV.tup [.int (q i), .int (y i)]) (fun i => .int (q i - y i)) (fun i => [.val (rowT n q), .val (rowT n y), .val (.int (q i)), .val (.int (y i))]) (fun i hi => by simp) (by
      rw [Ev.sizeLine_eq]
      omega)
  simp [t14, zip_mk, c]
end K02
end
section -- P4
namespace K02
open PySem Ev Sx
theorem sl_but_last (n : Nat) (f : Nat → PV) : sl (mk (n + 1) f) none (some (-1)) = mk n f := by
  have h : (mk (n + 1) f).length = n + 1 := by simp
  unfold sl
  rw [h]
  simp only [HT.sIx]
  simp
  rw [show (-1 + ((n : Int) + 1)).toNat = n by omega]
  unfold mk
  rw [List.range_succ, List.map_append, List.take_append_of_le_length (by simp), List.take_of_length_le (by simp)]
/-- the first below 0 -/
def entV (n : Nat) (f : Nat → Int) : PV := match (List.range n).find? fun j => decide (f j < 0) with
  | some j => .int (j : Int)
  | none => .non
theorem find_range {n : Nat} {p : Nat → Bool} {k : Nat} (h : (List.range n).find? p = some k) : k < n ∧ p k = true ∧ ∀ i, i < k → p i = false := by
  have h1 := List.find?_some h
  have h2 := List.mem_of_find?_eq_some h
  refine ⟨List.mem_range.mp h2, h1, fun i hi => ?_⟩
  obtain ⟨_, as, bs, e, hn⟩ := List.find?_eq_some_iff_append.mp h
  have hl : as.length = k := by
    have e1 := congrArg (fun l : List Nat => l[as.length]?) e
    simp only [List.getElem?_append_right (Nat.le_refl _), Nat.sub_self, List.getElem?_cons_zero] at e1
    have := List.getElem?_eq_some_iff.mp e1
    obtain ⟨q1, q2⟩ := this
    simpa using q2
  have hi2 : i ∈ as := by
    have e1 := congrArg (fun l : List Nat => l[i]?) e
    have hin : i < (List.range n).length := by
      rw [e]
      simp
      omega
    have : (List.range n)[i]? = some i := by
      rw [List.getElem?_eq_getElem hin]
      simp
    simp only [this] at e1
    rw [List.getElem?_append_left (by omega)] at e1
    exact List.mem_of_getElem? e1.symm
  have := hn i hi2
  simpa using this
theorem entering_ok {D n : Nat} (h : 1 ≤ D) (f : Nat → Int) (M : Mem) : callF Tn D 8 [rowL (n + 1) f] M = some (entV n f, M) := by
  refine call_rt (fn := ⟨1, 3, t8⟩) (k := 0) h rfl rfl fun d _ => ?_
  simp [t8, slcV, boundE, slcO, sl_but_last, pairs_range]
  let st : Nat → Slots := fun i => match i with
    | 0 => [.val (rowL (n + 1) f), .non, .non]
    | i + 1 => [.val (rowL (n + 1) f), .val (.int (i : Int)), .val (.int (f i))]
  have stx : ∀ i, ∃ a b, st i = [.val (rowL (n + 1) f), a, b] := fun i => by
    cases i <;> exact ⟨_, _, rfl⟩
  have turn : ∀ i, f i ≥ 0 → ∃ ρ1, setTg (.tup (.cons (.var 1) (.cons (.var 2) .nil))) (.tup [.int (i : Int), .int (f i)]) (st i) = some ρ1 ∧ evS (callF Tn d) ((S.ite (E.cmp COp.lt (E.var 2) (E.cst (PV.int 0))) ((S.ret (E.var 1)).cons S.nil) S.nil).cons S.nil) ρ1 M = some (.nx (st (i + 1)) M) := fun i hi => by
    obtain ⟨a, b, e⟩ := stx i
    refine ⟨st (i + 1), by rw [e]; simp [st], ?_⟩
    have : ¬ f i < 0 := by omega
    simp [st, this]
  cases q : (List.range n).find? fun j => decide (f j < 0) with
  | none =>
    have hn : ∀ i, i < n → 0 ≤ f i := fun i hi => by
      have := List.find?_eq_none.mp q i (List.mem_range.mpr hi)
      simpa using this
    have := for_mk0 (tg := .tup (.cons (.var 1) (.cons (.var 2) .nil))) (body := evS (callF Tn d) ((S.ite (E.cmp COp.lt (E.var 2) (E.cst (PV.int 0))) ((S.ret (E.var 1)).cons S.nil) S.nil).cons S.nil)) (M := M) (n := n) (fun i => .tup [.int (i : Int), .int (f i)]) st fun i hi => turn i (hn i hi)
    rw [show [Slot.val (rowL (n + 1) f), Slot.non, Slot.non] = st 0 from rfl, this]
    simp [entV, q]
  | some k =>
    obtain ⟨h1, h2, h3⟩ := find_range q
    have h2 : f k < 0 := by simpa using h2
    have := for_rt (tg := .tup (.cons (.var 1) (.cons (.var 2) .nil))) (body := evS (callF Tn d) ((S.ite (E.cmp COp.lt (E.var 2) (E.cst (PV.int 0))) ((S.ret (E.var 1)).cons S.nil) S.nil).cons S.nil)) (M := M) (n := n) (fun i => .tup [.int (i : Int), .int (f i)]) st (v := .int (k : Int)) h1 (fun i hi => turn i (by have := h3 i hi; simpa using this)) (by
      obtain ⟨a, b, e⟩ := stx k
      refine ⟨st (k + 1), by rw [e]; simp [st], ?_⟩
      simp [st, h2])
    rw [show [Slot.val (rowL (n + 1) f), Slot.non, Slot.non] = st 0 from rfl, this]
    simp [entV, q]
section
variable {m N : Nat} (t : Nat → Nat → Int) (b : Nat → Nat) (c : Nat)
def sooner (N : Nat) (i r : Nat) : Bool := decide (t i N * t r c < t r N * t i c) || (decide (t i N * t r c = t r N * t i c) && decide (b i < b r))
def bestF (N : Nat) : Nat → Option Nat
  | 0 => none
  | k + 1 => match bestF N k with
    | none => if 0 < t k c then some k else none
    | some r => if 0 < t k c ∧ sooner t b c N k r = true then some k else some r
theorem bestF_lt : ∀ {k r : Nat}, bestF t b c N k = some r → r < k ∧ 0 < t r c
  | 0, r, h => by cases h
  | k + 1, r, h => by
    unfold bestF at h
    split at h
    · split at h
      · cases h
        exact ⟨Nat.lt_succ_self _, by assumption⟩
      · cases h
    · rename_i r' e
      obtain ⟨h1, h2⟩ := bestF_lt e
      split at h
      · rename_i hh
        cases h
        exact ⟨Nat.lt_succ_self _, hh.1⟩
      · cases h
        exact ⟨by omega, h2⟩
def optN : Option Nat → PV
  | none => .non
  | some k => .int (k : Int)
abbrev basL (m : Nat) (b : Nat → Nat) : PV := .lst (mk m fun i => .int (b i : Int))
variable {t b c}
theorem is_sooner_ok {D : Nat} (h : 1 ≤ D) {i r : Nat} (hi : i < m) (hr : r < m) (hc : c < N + 1) (hb : ∀ i j, Small (t i j)) (M : Mem) :
    callF Tn D 9 [tabL (m + 1) (N + 1) t, basL m b, .int (i : Int), .int (r : Int), .int (c : Int)] M = some (.bl (sooner t b c N i r), M) := by
  refine call_rt (fn := ⟨5, 7, t9⟩) (k := 0) h rfl rfl fun d _ => ?_
  have e1 : ∀ k, k < m → at? (mk (m + 1) fun i => rowL (N + 1) (t i)) (k : Int) = some (rowL (N + 1) (t k)) := fun k hk => at_mk (by omega)
  have e2 : ∀ k, at? (mkR (N + 1) (t k)) (-1) = some (.int (t k N)) := fun k => at_last
  have e3 : ∀ k, at? (mkR (N + 1) (t k)) (c : Int) = some (.int (t k c)) := fun k => at_mk hc
  have e4 : ∀ k, k < m → at? (mk m fun i => PV.int (b i : Int)) (k : Int) = some (.int (b k : Int)) := fun k hk => at_mk hk
  have m1 := mulOk_big (hb i N) (hb r c)
  have m2 := mulOk_big (hb r N) (hb i c)
  simp [t9, freshAll, e1 i hi, e1 r hr, e2, e3, e4 i hi, e4 r hr, m1, m2, sooner]
  by_cases q : t i N * t r c < t r N * t i c
  · simp [q]
  · simp [q]
    by_cases q2 : t i N * t r c = t r N * t i c
    · simp [q2]
    · simp [q2]
theorem leaving_ok {D : Nat} (h : 2 ≤ D) (hc : c < N + 1) (hb : ∀ i j, Small (t i j)) (hm : m < 1000) (M : Mem) :
    callF Tn D 10 [tabL (m + 1) (N + 1) t, basL m b, .int (c : Int)] M = some (optN (bestF t b c N m), M) := by
  refine call_rt (fn := ⟨3, 5, t10⟩) (k := 1) h rfl rfl fun d hd => ?_
  have sm := smallI_nat (n := m) (by omega)
  simp [t10, sm, range_nat]
  let st : Nat → Slots := fun i => [.val (tabL (m + 1) (N + 1) t), .val (basL m b), .val (.int (c : Int)), .val (optN (bestF t b c N i)), match i with
    | 0 => .non
    | i + 1 => .val (.int (i : Int))]
  have := for_mk0 (tg := .var 4) (body := evS (callF Tn d) (.cons (.ite (.and (.cmp .gt (.idx (.idx (.var 0) (.var 4)) (.var 2)) (.cst (.int (0)))) (.or (.cmp .is (.var 3) (.cst .non)) (.call 9 (.cons (.var 0) (.cons (.var 1) (.cons (.var 4) (.cons (.var 3) (.cons (.var 2) .nil)))))))) (.cons (.asg 3 (.var 4)) .nil) .nil) .nil)) (M := M) (n := m) (fun i => .int (i : Int)) st fun i hi => by
    have e1 : at? (mk (m + 1) fun i => rowL (N + 1) (t i)) (i : Int) = some (rowL (N + 1) (t i)) := at_mk (by omega)
    have e3 : at? (mkR (N + 1) (t i)) (c : Int) = some (.int (t i c)) := at_mk hc
    refine ⟨[.val (tabL (m + 1) (N + 1) t), .val (basL m b), .val (.int (c : Int)), .val (optN (bestF t b c N i)), .val (.int (i : Int))], by simp [st], ?_⟩
    by_cases p : 0 < t i c
    · cases q : bestF t b c N i with
      | none => simp [e1, e3, p, optN, st, bestF, q]
      | some r =>
        have s := is_sooner_ok (b := b) hd hi (by have := (bestF_lt t b c q).1; omega) hc hb M (t := t) (r := r)
        simp [e1, e3, p, optN, st, bestF, q, s]
        by_cases z : sooner t b c N i r = true <;> simp [z, optN]
    · simp [e1, e3, p, st, bestF]
      cases bestF t b c N i <;> rfl
  rw [show [Slot.val (tabL (m + 1) (N + 1) t), Slot.val (basL m b), Slot.val (PV.int (c : Int)), Slot.val PV.non, Slot.non] = st 0 from rfl, this]
  simp [st]
end
end K02
end
section -- P5
namespace K02
open PySem Ev Sx
section
variable {m N : Nat} {t : Nat → Nat → Int} {b : Nat → Nat} {c r : Nat} {be : Int}
/-- a table behind a pivot -/
def pivF (t : Nat → Nat → Int) (r c : Nat) (be : Int) (k : Nat) : Nat → Int := if k = r then t r else fun j => (t k j * t r c - t k c * t r j) / be
def facS (t : Nat → Nat → Int) (r c : Nat) : Nat → Slot
  | 0 => .non
  | i + 1 => if i = r then facS t r c i else .val (.int (t i c))
theorem pivoted_ok {D : Nat} (h : 1 ≤ D) (hr : r < m + 1) (hc : c < N + 1) (hb : ∀ i j, Small (t i j)) (hbe : 0 < be) (hbe2 : be.natAbs.log2 < 9000) (hm : m < 1000) (hN : N < 1000) (M : Mem) :
    callF Tn D 11 [tabL (m + 1) (N + 1) t, .int (r : Int), .int (c : Int), .int be] M = some (tabL (m + 1) (N + 1) (pivF t r c be), M) := by
  refine call_rt (fn := ⟨4, 11, t11⟩) (k := 0) h rfl rfl fun d hd => ?_
  have e1 : ∀ i, i < m + 1 → at? (mk (m + 1) fun i => rowL (N + 1) (t i)) (i : Int) = some (rowL (N + 1) (t i)) := fun i hi => at_mk hi
  have e3 : ∀ i, at? (mkR (N + 1) (t i)) (c : Int) = some (.int (t i c)) := fun i => at_mk hc
  simp [t11, e1 r hr, e3, pairs_range]
  let st : Nat → Slots := fun i => [.val (tabL (m + 1) (N + 1) t), .val (.int (r : Int)), .val (.int (c : Int)), .val (.int be), .val (.int (t r c)), .own (mk i fun k => rowL (N + 1) (pivF t r c be k)), (match i with
    | 0 => .non
    | i + 1 => .val (.int (i : Int))), (match i with
    | 0 => .non
    | i + 1 => .val (rowL (N + 1) (t i))), facS t r c i, .non, .non]
  have snoc : ∀ (i : Nat) (f : Nat → PV), mk i f ++ [f i] = mk (i + 1) f := fun i f => by
    unfold mk
    rw [List.range_succ, List.map_append]
    rfl
  have := for_mk0 (tg := .tup (.cons (.var 6) (.cons (.var 7) .nil))) (body := evS (callF Tn d) (.cons (.ite (.cmp .eq (.var 6) (.var 1)) (.cons (.app 5 (.var 7)) .nil) (.cons (.asg 8 (.idx (.var 7) (.var 2))) (.cons (.app 5 (.comp (.bin .fdiv (.bin .sub (.bin .mul (.var 9) (.var 4)) (.bin .mul (.var 8) (.var 10))) (.var 3)) (.zip (.var 7) (.idx (.var 0) (.var 1))) (.cst (.bl true)) (.tup (.cons (.var 9) (.cons (.var 10) .nil))) [9, 10])) .nil))) .nil)) (M := M) (n := m + 1) (fun i => .tup [.int (i : Int), rowL (N + 1) (t i)]) st fun i hi => by
    refine ⟨[.val (tabL (m + 1) (N + 1) t), .val (.int (r : Int)), .val (.int (c : Int)), .val (.int be), .val (.int (t r c)), .own (mk i fun k => rowL (N + 1) (pivF t r c be k)), .val (.int (i : Int)), .val (rowL (N + 1) (t i)), facS t r c i, .non, .non], by simp [st], ?_⟩
    have sz : (mk i fun k => rowL (N + 1) (pivF t r c be k)).length < sizeLine := by rw [mk_len, Ev.sizeLine_eq]; omega
    by_cases p : i = r
    · subst p
      have e : pivF t i c be i = t i := by simp [pivF]
      have e2 := (snoc i fun k => rowL (N + 1) (pivF t i c be k)).symm
      rw [e] at e2
      simp [es_app]
      refine ⟨by rw [Ev.sizeLine_eq]; omega, ?_⟩
      show _ = [Slot.val _, .val _, .val _, .val _, .val _, .own (mk (i + 1) fun k => rowL (N + 1) (pivF t i c be k)), .val _, .val _, facS t i c (i + 1), .non, .non]
      rw [e2]
      simp [facS]
    · have cm := comp_mk (n := N + 1) (tg := .tup (.cons (.var 9) (.cons (.var 10) .nil))) (cond := evE (callF Tn d) (.cst (.bl true))) (elt := evE (callF Tn d) (.bin .fdiv (.bin .sub (.bin .mul (.var 9) (.var 4)) (.bin .mul (.var 8) (.var 10))) (.var 3))) (ρ := [.val (tabL (m + 1) (N + 1) t), .val (.int (r : Int)), .val (.int (c : Int)), .val (.int be), .val (.int (t r c)), .own (mk i fun k => rowL (N + 1) (pivF t r c be k)), .val (.int (i : Int)), .val (rowL (N + 1) (t i)), .val (.int (t i c)), .non, .non]) (M := M)
        (fun j => PV.tup [.int (t i j), .int (t r j)]) (fun j => .int ((t i j * t r c - t i c * t r j) / be)) (fun j => [.val (tabL (m + 1) (N + 1) t), .val (.int (r : Int)), .val (.int (c : Int)), .val (.int be), .val (.int (t r c)), .own (mk i fun k => rowL (N + 1) (pivF t r c be k)), .val (.int (i : Int)), .val (rowL (N + 1) (t i)), .val (.int (t i c)), .val (.int (t i j)), .val (.int (t r j))]) (fun j hj => by
          simp [mulOk_big (hb i j) (hb r c), mulOk_big (hb i c) (hb r j), hbe, hbe2]) (by rw [Ev.sizeLine_eq]; omega)
      have np : ¬ (i : Int) = (r : Int) := by omega
      have e : pivF t r c be i = fun j => (t i j * t r c - t i c * t r j) / be := by simp [pivF, p]
      have e2 := (snoc i fun k => rowL (N + 1) (pivF t r c be k)).symm
      rw [e] at e2
      simp [e3, np, es_app, e1 r hr, zip_mk, cm]
      refine ⟨by rw [Ev.sizeLine_eq]; omega, ?_⟩
      show _ = [Slot.val _, .val _, .val _, .val _, .val _, .own (mk (i + 1) fun k => rowL (N + 1) (pivF t r c be k)), .val _, .val _, facS t r c (i + 1), .non, .non]
      rw [e2]
      simp [facS, p]
  rw [show [Slot.val (tabL (m + 1) (N + 1) t), Slot.val (PV.int (r : Int)), Slot.val (PV.int (c : Int)), Slot.val (PV.int be), Slot.val (PV.int (t r c)), Slot.own [], Slot.non, Slot.non, Slot.non, Slot.non, Slot.non] = st 0 from rfl, this]
  simp [st]
end
end K02
end
section -- P6
namespace K02
open PySem Ev Sx
section
variable {t : Nat → Nat → Int} {b : Nat → Nat} {c N : Nat}
theorem best_some : ∀ {k r : Nat}, bestF t b c N k = some r → ∀ i, i < k → 0 < t i c → t r N * t i c ≤ t i N * t r c ∧ (t r N * t i c = t i N * t r c → b r ≤ b i)
  | 0, r, h, i, hi, _ => by omega
  | k + 1, r, h, i, hi, hp => by
    unfold bestF at h
    split at h
    · rename_i e
      split at h
      · cases h
        by_cases z : i = k
        · subst z
          exact ⟨Int.le_refl _, fun _ => Nat.le_refl _⟩
        · exfalso
          have : ∀ k, bestF t b c N k = none → ∀ i, i < k → ¬ 0 < t i c := by
            intro k
            induction k with
            | zero => exact fun _ i hi => by omega
            | succ k ih =>
              intro h i hi
              unfold bestF at h
              split at h
              · rename_i e
                split at h
                · cases h
                · rename_i np
                  by_cases z : i = k
                  · rw [z]
                    exact np
                  · exact ih e i (by omega)
              · split at h <;> cases h
          exact this k e i (by omega) hp
      · cases h
    · rename_i r' e
      have ih := best_some e
      obtain ⟨l1, l2⟩ := bestF_lt t b c e
      split at h
      · rename_i hh
        cases h
        obtain ⟨pk, sk⟩ := hh
        unfold sooner at sk
        simp only [Bool.or_eq_true, Bool.and_eq_true, decide_eq_true_eq] at sk
        by_cases z : i = k
        · subst z
          exact ⟨Int.le_refl _, fun _ => Nat.le_refl _⟩
        · obtain ⟨a1, a2⟩ := ih i (by omega) hp
          have s1 : t k N * t r' c ≤ t r' N * t k c := by omega
          have b1 := Int.mul_le_mul_of_nonneg_right s1 (Int.le_of_lt hp)
          have b2 := Int.mul_le_mul_of_nonneg_right a1 (Int.le_of_lt pk)
          have c1 : (t k N * t i c) * t r' c ≤ (t i N * t k c) * t r' c := by grind
          refine ⟨Int.le_of_mul_le_mul_right c1 l2, fun eq => ?_⟩
          have hQ : t r' N * t i c * t k c = t r' N * t k c * t i c := by grind
          have hP : t k N * t i c * t r' c = t k N * t r' c * t i c := by grind
          have hS : t i N * t k c * t r' c = t i N * t r' c * t k c := by grind
          have hE : (t k N * t i c) * t r' c = (t i N * t k c) * t r' c := by rw [eq]
          have d1 : t k N * t r' c * t i c = t r' N * t k c * t i c := by omega
          have d2 : t k N * t r' c = t r' N * t k c := Int.eq_of_mul_eq_mul_right (Int.ne_of_gt hp) d1
          have d3 : t r' N * t i c = t i N * t r' c := by
            have q : t r' N * t i c * t k c = t i N * t r' c * t k c := by omega
            exact Int.eq_of_mul_eq_mul_right (Int.ne_of_gt pk) q
          have := a2 d3
          rcases sk with sk | sk
          · omega
          · omega
      · rename_i hh
        cases h
        by_cases z : i = k
        · subst z
          have ns : ¬ sooner t b c N i r = true := fun q => hh ⟨hp, q⟩
          unfold sooner at ns
          simp only [Bool.or_eq_true, Bool.and_eq_true, decide_eq_true_eq] at ns
          have n1 : ¬ t i N * t r c < t r N * t i c := fun q => ns (.inl q)
          refine ⟨by omega, fun eq => ?_⟩
          have n2 : ¬ b i < b r := fun q => ns (.inr ⟨eq.symm, q⟩)
          omega
        · exact ih i (by omega) hp
theorem best_none : ∀ {k : Nat}, bestF t b c N k = none → ∀ i, i < k → t i c ≤ 0
  | 0, _, i, hi => by omega
  | k + 1, h, i, hi => by
    unfold bestF at h
    split at h
    · rename_i e
      split at h
      · cases h
      · rename_i np
        by_cases z : i = k
        · rw [z]
          omega
        · exact best_none e i (by omega)
    · split at h <;> cases h
end
theorem lset_mk {n c : Nat} (hc : c < n) (f : Nat → Int) (v : Int) : lset (mkR n f) (.int (c : Int)) (.int v) = some (mkR n (up f c v)) := by
  show Option.map (fun j => (mkR n f).set j (.int v)) (L2.ixN (mkR n f).length (c : Int)) = _
  unfold L2.ixN
  rw [mk_len, if_pos (by omega), if_pos (by omega), Option.map_some, Int.toNat_natCast]
  congr 1
  refine List.ext_getElem? fun i => ?_
  by_cases e : i = c
  · subst e
    rw [List.getElem?_set_self (by simpa using hc)]
    simp [hc, up]
  · rw [List.getElem?_set_ne (Ne.symm e)]
    by_cases hi : i < n <;> simp [up, e, hi]
theorem ray_of_ok {D n m N : Nat} {t : Nat → Nat → Int} {b : Nat → Nat} {c : Nat} {be : Int} (h : 1 ≤ D) (hc : c < N + 1) (hn : n < 1000) (hm : m < 1000) (M : Mem) :
    callF Tn D 12 [tabL (m + 1) (N + 1) t, basL m b, .int (c : Int), .int be, .int (n : Int)] M = some (rowT n (wF n b (fun i => t i c) c be m), M) := by
  refine call_rt (fn := ⟨5, 8, t12⟩) (k := 0) h rfl rfl fun d hd => ?_
  have rep : ∀ k : Nat, (List.replicate k [PV.int 0]).flatten = mkR k fun _ => 0 := by
    intro k
    rw [List.flatten_replicate_singleton]
    simp [mk, List.map_const']
  have lg : n.log2 < 63 := log2_lt (by omega) (by decide)
  have sz : n ≤ sizeLine := by rw [Ev.sizeLine_eq]; omega
  have e1 : ∀ i, i < m → at? (mk (m + 1) fun i => rowL (N + 1) (t i)) (i : Int) = some (rowL (N + 1) (t i)) := fun i hi => at_mk (by omega)
  have e3 : ∀ i, at? (mkR (N + 1) (t i)) (c : Int) = some (.int (t i c)) := fun i => at_mk hc
  let st : Nat → Slots := fun i => [.val (tabL (m + 1) (N + 1) t), .val (basL m b), .val (.int (c : Int)), .val (.int be), .val (.int (n : Int)), .own (mkR n (wF n b (fun i => t i c) c be i)), (match i with
    | 0 => .non
    | i + 1 => .val (.int (i : Int))), (match i with
    | 0 => .non
    | i + 1 => .val (.int (b i : Int)))]
  have loop := for_mk0 (tg := .tup (.cons (.var 6) (.cons (.var 7) .nil))) (body := evS (callF Tn d) (.cons (.ite (.cmp .lt (.var 7) (.var 4)) (.cons (.set (.idx (.var 5) (.var 7)) (.neg (.idx (.idx (.var 0) (.var 6)) (.var 2)))) .nil) .nil) .nil)) (M := M) (n := m) (fun i => .tup [.int (i : Int), .int (b i : Int)]) st fun i hi => by
    refine ⟨[.val (tabL (m + 1) (N + 1) t), .val (basL m b), .val (.int (c : Int)), .val (.int be), .val (.int (n : Int)), .own (mkR n (wF n b (fun i => t i c) c be i)), .val (.int (i : Int)), .val (.int (b i : Int))], by simp [st], ?_⟩
    by_cases q : b i < n
    · have q2 : (b i : Int) < (n : Int) := by omega
      have ow := asg_own (callF Tn d) [.val (tabL (m + 1) (N + 1) t), .val (basL m b), .val (.int (c : Int)), .val (.int be), .val (.int (n : Int)), .own (mkR n (wF n b (fun i => t i c) c be i)), .val (.int (i : Int)), .val (.int (b i : Int))] M (.int (- t i c)) 5 (.var 7) (xs := mkR n (wF n b (fun i => t i c) c be i)) rfl
      simp [q2, e1 i hi, e3, ow, lset_mk q]
      show _ = [Slot.val _, .val _, .val _, .val _, .val _, .own (mkR n (wF n b (fun i => t i c) c be (i + 1))), .val _, .val _]
      rw [wF, if_pos q]
    · have q2 : ¬ (b i : Int) < (n : Int) := by omega
      simp [q2]
      show _ = [Slot.val _, .val _, .val _, .val _, .val _, .own (mkR n (wF n b (fun i => t i c) c be (i + 1))), .val _, .val _]
      rw [wF, if_neg q]
  have s0 : ∀ f : Nat → Int, wF n b (fun i => t i c) c be 0 = f → forL (.tup (.cons (.var 6) (.cons (.var 7) .nil))) (evS (callF Tn d) (.cons (.ite (.cmp .lt (.var 7) (.var 4)) (.cons (.set (.idx (.var 5) (.var 7)) (.neg (.idx (.idx (.var 0) (.var 6)) (.var 2)))) .nil) .nil) .nil)) (mk m fun i => .tup [.int (i : Int), .int (b i : Int)]) [.val (tabL (m + 1) (N + 1) t), .val (basL m b), .val (.int (c : Int)), .val (.int be), .val (.int (n : Int)), .own (mkR n f), .non, .non] M = some (.nx (st m) M) := fun f hf => by
    rw [← hf]
    exact loop
  by_cases q : c < n
  · have q2 : (c : Int) < (n : Int) := by omega
    have ow := asg_own (callF Tn d) [.val (tabL (m + 1) (N + 1) t), .val (basL m b), .val (.int (c : Int)), .val (.int be), .val (.int (n : Int)), .own (mkR n fun _ => 0), .non, .non] M (.int be) 5 (.var 2) (xs := mkR n fun _ => 0) rfl
    have s := s0 (up (fun _ => 0) c be) (by rw [wF, if_pos q])
    simp [t12, lg, sz, rep, q2, ow, lset_mk q, pairs_range, s]
    rfl
  · have q2 : ¬ (c : Int) < (n : Int) := by omega
    have s := s0 (fun _ => 0) (by rw [wF, if_neg q])
    simp [t12, lg, sz, rep, q2, pairs_range, s]
    rfl
end K02
end
section -- P7
namespace K02
open PySem Ev Sx
theorem mk_app {α : Type} (a b : Nat) (f g : Nat → α) : mk a f ++ mk b g = mk (a + b) fun j => if j < a then f j else g (j - a) := by
  refine List.ext_getElem? fun i => ?_
  by_cases h : i < a
  · rw [List.getElem?_append_left (by simpa using h)]
    simp [h, show i < a + b by omega]
  · rw [List.getElem?_append_right (by simpa using h)]
    by_cases h2 : i - a < b
    · simp [h, h2, show i < a + b by omega]
    · simp [h2, show ¬ i < a + b by omega]
theorem mk_one {α : Type} (x : α) : [x] = mk 1 fun _ => x := rfl
theorem rep_mk {α : Type} (x : α) (k : Nat) : (List.replicate k [x]).flatten = mk k fun _ => x := by
  rw [List.flatten_replicate_singleton]
  simp [mk, List.map_const']
section
variable {n m : Nat} {R : Nat → Nat → Int}
abbrev Tt (n m : Nat) (R : Nat → Nat → Int) (l : List Nat) : Nat → Nat → Int := T m (colA n m R) l
abbrev tabV (n m : Nat) (R : Nat → Nat → Int) (l : List Nat) : List PV := mk (m + 1) fun i => rowL (n + m + 1) (Tt n m R l i)
abbrev basV (m : Nat) (l : List Nat) : List PV := mk m fun i => .int (l.getD i 0 : Int)
def loopC : E := .cmp .isnot (.var 7) (.cst .non)
def loopB : S := match t13 with
  | .cons _ (.cons _ (.cons _ (.cons _ (.cons _ (.cons _ (.cons (.whl _ b) _)))))) => b
  | s => s
/-- the slots at the loop's head -/
def headS (n m : Nat) (R : Nat → Nat → Int) (l : List Nat) (s3 a4 a8 a9 : Slot) : Slots := [.val (tabL n m R), .val (.int (m : Int)), .val (.int (n : Int)), s3, a4, .own (basV m l), .val (.int (bl m (colA n m R) l)), .val (entV (n + m) (Tt n m R l m)), a8, a9, .non, .non]
theorem pivot_tab {l : List Nat} {c r : Nat} (G : Good (n + m) m (colA n m R) l) (hr : r < m) : (mk (m + 1) fun i => rowL (n + m + 1) (pivF (Tt n m R l) r c (bl m (colA n m R) l) i)) = tabV n m R (l.set r c) := by
  refine mk_congr fun i hi => ?_
  show PV.lst _ = PV.lst _
  congr 1
  refine mk_congr fun j hj => ?_
  congr 1
  unfold pivF
  by_cases e : i = r
  · rw [if_pos e, e]
    exact (T_set_row hr G.len j).symm
  · rw [if_neg e]
    have h := T_set (c := c) G.rep hr G.len (show i ≤ m by omega) e j
    have hb := G.rep.pos
    have : Tt n m R l i j * Tt n m R l r c - Tt n m R l i c * Tt n m R l r j = bl m (colA n m R) l * T m (colA n m R) (l.set r c) i j := by
      rw [h]
      show T m (colA n m R) l i j * T m (colA n m R) l r c - T m (colA n m R) l i c * T m (colA n m R) l r j = _
      grind
    rw [this]
    exact Int.mul_ediv_cancel_left _ (Int.ne_of_gt hb)
end
end K02
end
section -- P8
namespace Ev
open PySem Sx
theorem range_nat2 (a k : Nat) : rangeV (a : Int) ((a : Int) + (k : Int)) = mk k fun i => .int ((a + i : Nat) : Int) := by
  unfold rangeV
  rw [show ((a : Int) + (k : Int) - a).toNat = k by omega]
  refine List.map_congr_left fun i _ => ?_
  simp
theorem ev_rngl_nat (cf : CallF) (ρ : Slots) (M M1 M2 : Mem) (a b : E) (i k : Nat) (h1 : evE cf a ρ M = some (.int (i : Int), M1)) (h2 : evE cf b ρ M1 = some (.int ((i : Int) + (k : Int)), M2)) (hs : i + k < 1000) :
    evE cf (.rngl a b false false) ρ M = some (.lst (mk k fun j => .int ((i + j : Nat) : Int)), M2) := by
  show (bnd (evE cf a ρ M) fun x M1 => bnd (evE cf b ρ M1) fun y M2 => match x, y with
    | .int i, .int j => if smallI i && smallI j && decide ((j - i).toNat ≤ sizeLine) && (!false || decide (i = 0)) then some (if false then PV.tup (rangeV i j) else PV.lst (rangeV i j), M2) else none
    | _, _ => (none : R PV)) = _
  rw [h1]
  simp only [bnd_some]
  rw [h2]
  simp only [bnd_some]
  have s1 := smallI_nat (n := i) (by omega)
  have s2 : smallI ((i : Int) + (k : Int)) = true := by
    have := smallI_nat (n := i + k) (by omega)
    rwa [Int.natCast_add] at this
  have s3 : ((i : Int) + (k : Int) - (i : Int)).toNat ≤ sizeLine := by rw [Ev.sizeLine_eq]; omega
  rw [s1, s2, decide_eq_true s3, range_nat2]
  rfl
theorem noLst_ints (d n : Nat) (f : Nat → Int) : noLst (d + 1) (rowT n f) = true := by
  show (mkR n f).all (noLst d) = true
  rw [List.all_eq_true]
  intro x hx
  obtain ⟨i, _, rfl⟩ := List.mem_map.mp hx
  cases d <;> rfl
end Ev
namespace K02
open PySem Ev Sx
open Classical
section
variable {n m : Nat} {R : Nat → Nat → Int}
def facB (m : Nat) : Nat := fact (m + 1) * 1000000 ^ (m + 1)
def RowsOk (n m : Nat) (R : Nat → Nat → Int) : Prop := ∀ j, j < n → ∀ k, k < m → (R j k).natAbs ≤ 1000000
theorem Tt_bound (h : RowsOk n m R) (l : List Nat) (i j : Nat) : (Tt n m R l i j).natAbs ≤ facB m := T_bound (by decide) (colA_bound (by decide) h) i j
theorem facB_lt (hm : m ≤ 6) : facB m < 2 ^ 160 := by
  have : m = 0 ∨ m = 1 ∨ m = 2 ∨ m = 3 ∨ m = 4 ∨ m = 5 ∨ m = 6 := by omega
  rcases this with rfl | rfl | rfl | rfl | rfl | rfl | rfl <;> decide
theorem Tt_small (h : RowsOk n m R) (hm : m ≤ 6) (l : List Nat) (i j : Nat) : Small (Tt n m R l i j) :=
  small_of (k := 160) (Nat.lt_of_le_of_lt (Tt_bound h l i j) (facB_lt hm)) (by decide) (by decide)
theorem bl_bound (h : RowsOk n m R) (h1 : 1 ≤ m) (l : List Nat) : (bl m (colA n m R) l).natAbs ≤ facB m := by
  rw [← T_basis (A := colA n m R) (l := l) (i := 0) (by omega)]
  exact Tt_bound h l 0 _
def RayP (n m : Nat) (R : Nat → Nat → Int) (w : Nat → Int) : Prop := (∀ j, 0 ≤ w j) ∧ 0 < sumN n w ∧ (∀ k, k < m → sumN n (fun j => w j * R j k) ≤ 0) ∧ ∀ j, (w j).natAbs ≤ facB m
def OptP (n m : Nat) (R : Nat → Nat → Int) (y : Nat → Int) : Prop := (∀ k, k < m → 0 ≤ y k) ∧ (∀ j, j < n → 0 < sumN m fun k => R j k * y k) ∧ ∀ k, (y k).natAbs ≤ facB m
theorem ent_some {N : Nat} {f : Nat → Int} {v : PV} (h : entV N f = v) : (v = .non ∧ ∀ j, j < N → 0 ≤ f j) ∨ ∃ c : Nat, v = .int (c : Int) ∧ c < N ∧ f c < 0 ∧ ∀ j, j < c → 0 ≤ f j := by
  unfold entV at h
  cases q : (List.range N).find? fun j => decide (f j < 0) with
  | none =>
    rw [q] at h
    refine .inl ⟨h.symm, fun j hj => ?_⟩
    have := List.find?_eq_none.mp q j (List.mem_range.mpr hj)
    simpa using this
  | some c =>
    rw [q] at h
    obtain ⟨h1, h2, h3⟩ := find_range q
    refine .inr ⟨c, h.symm, h1, by simpa using h2, fun j hj => ?_⟩
    simpa using h3 j hj
theorem bas_set {l : List Nat} {r c : Nat} (hr : r < l.length) : (mk l.length fun i => PV.int (l.getD i 0 : Int)).set r (.int (c : Int)) = mk l.length fun i => .int ((l.set r c).getD i 0 : Int) := by
  refine List.ext_getElem? fun i => ?_
  by_cases e : i = r
  · subst e
    rw [List.getElem?_set_self (by simpa using hr)]
    simp [hr]
  · rw [List.getElem?_set_ne (Ne.symm e)]
    by_cases hi : i < l.length <;> simp [hi, List.getElem?_set, Ne.symm e]
theorem body_ok {d : Nat} (hd : 3 ≤ d) {l : List Nat} (G : Good (n + m) m (colA n m R) l) (hR : RowsOk n m R) (h1 : 1 ≤ m) (hm : m ≤ 6) (hn : n ≤ 100) (s3 a4 a8 a9 : Slot) (hs : s3 = .own (tabV n m R l) ∨ s3 = .val (.lst (tabV n m R l))) (M : Mem) (hM : M.all moNoLst = true) {c : Nat} (hc : entV (n + m) (Tt n m R l m) = .int (c : Int)) (E : EntC (n + m) m (colA n m R) l c) :
    (∃ w, evS (callF Tn d) loopB (headS n m R l s3 a4 a8 a9) M = some (.rt (.tup [rowT n w, .non]) M) ∧ RayP n m R w) ∨
    ∃ r, LeaR (n + m) m (colA n m R) l c r ∧ ∃ s3' a8' a9', s3' = .val (.lst (tabV n m R (l.set r c))) ∧ evS (callF Tn d) loopB (headS n m R l s3 a4 a8 a9) M = some (.nx (headS n m R (l.set r c) s3' a4 a8' a9') M) := by
  have hcN : c < n + m + 1 := by have := E.1; omega
  have sm := Tt_small hR hm l
  have hM2 : ∀ x, x ∈ M → moNoLst x = true := List.all_eq_true.mp hM
  have L := leaving_ok (D := d) (t := Tt n m R l) (b := fun i => l.getD i 0) (N := n + m) (m := m) (c := c) (by omega) hcN sm (by omega) M
  have s0 : ∀ b, evS (callF Tn d) (.cons (.frz 3) b) (headS n m R l s3 a4 a8 a9) M = evS (callF Tn d) b (headS n m R l (.val (.lst (tabV n m R l))) a4 a8 a9) M := fun b => by
    rcases hs with rfl | rfl <;> simp [headS]
  have evL : evLB (callF Tn d) (.cons (.var 3) (.cons (.var 5) (.cons (.var 7) .nil))) (headS n m R l (.val (.lst (tabV n m R l))) a4 a8 a9) M = some ([tabL (m + 1) (n + m + 1) (Tt n m R l), basL m (fun i => l.getD i 0), .int (c : Int)], M) := by
    simp [headS, hc]
  cases q : bestF (Tt n m R l) (fun i => l.getD i 0) c (n + m) m with
  | none =>
    left
    have hn2 := best_none q
    refine ⟨wF n (fun i => l.getD i 0) (fun i => Tt n m R l i c) c (bl m (colA n m R) l) m, ?_, wF_nonneg (Int.le_of_lt G.rep.pos) m hn2, (ray_ok G E hn2 _ rfl).2, (ray_ok G E hn2 _ rfl).1, fun j => wF_bound (bl_bound hR h1 l) m (fun i hi => Tt_bound hR l i c) j⟩
    have Ray := ray_of_ok (D := d) (n := n) (t := Tt n m R l) (b := fun i => l.getD i 0) (N := n + m) (m := m) (c := c) (be := bl m (colA n m R) l) (by omega) hcN (by omega) (by omega) M
    show evS (callF Tn d) (.cons (.frz 3) _) _ M = _
    rw [s0]
    have nl : (List.range n).all (noLst 59 ∘ fun j => PV.int (wF n (fun i => l.getD i 0) (fun i => Tt n m R l i c) c (bl m (colA n m R) l) m j)) = true := List.all_eq_true.mpr fun _ _ => rfl
    rw [q] at L
    simp only [optN] at L
    simp [-List.getD_eq_getElem?_getD, -List.all_eq_true, ev_callB, headS, hc, L, hM, noLst, nl, Ray]
  | some r =>
    right
    obtain ⟨l1, l2⟩ := bestF_lt _ _ _ q
    refine ⟨r, ⟨l1, l2, fun i hi hp => best_some q i hi hp⟩, .val (.lst (tabV n m R (l.set r c))), .val (.int (r : Int)), .val (.int (Tt n m R l r c)), rfl, ?_⟩
    show evS (callF Tn d) (.cons (.frz 3) _) _ M = _
    rw [s0]
    rw [q] at L
    simp only [optN] at L
    have e1 : ∀ i, i < m + 1 → at? (mk (m + 1) fun i => rowL (n + m + 1) (Tt n m R l i)) (i : Int) = some (rowL (n + m + 1) (Tt n m R l i)) := fun i hi => at_mk hi
    have e3 : ∀ i, at? (mkR (n + m + 1) (Tt n m R l i)) (c : Int) = some (.int (Tt n m R l i c)) := fun i => at_mk hcN
    have P := pivoted_ok (D := d) (t := Tt n m R l) (N := n + m) (m := m) (c := c) (r := r) (be := bl m (colA n m R) l) (by omega) (by omega) hcN sm G.rep.pos (by
      have : (bl m (colA n m R) l).natAbs.log2 < 160 := log2_lt (Nat.lt_of_le_of_lt (bl_bound hR h1 l) (facB_lt hm)) (by decide)
      omega) (by omega) (by omega) M
    rw [show tabL (m + 1) (n + m + 1) (pivF (Tt n m R l) r c (bl m (colA n m R) l)) = .lst (tabV n m R (l.set r c)) by rw [← pivot_tab G l1]] at P
    have En := entering_ok (D := d) (n := n + m) (by omega) (Tt n m R (l.set r c) m) M
    have al : at? (tabV n m R (l.set r c)) (-1) = some (rowL (n + m + 1) (Tt n m R (l.set r c) m)) := at_last
    have ow : ∀ a6, asgT (callF Tn d) (.int (c : Int)) (.idx (.var 5) (.var 8)) [.val (tabL n m R), .val (.int (m : Int)), .val (.int (n : Int)), .val (.lst (tabV n m R (l.set r c))), a4, .own (basV m l), .val (.int (bl m (colA n m R) l)), .val (.int (c : Int)), .val (.int (r : Int)), a6, .non, .non] M = some ([.val (tabL n m R), .val (.int (m : Int)), .val (.int (n : Int)), .val (.lst (tabV n m R (l.set r c))), a4, .own (basV m (l.set r c)), .val (.int (bl m (colA n m R) l)), .val (.int (c : Int)), .val (.int (r : Int)), a6, .non, .non], M)   := fun a6 => by
      have ow := asg_own (callF Tn d) [.val (tabL n m R), .val (.int (m : Int)), .val (.int (n : Int)), .val (.lst (tabV n m R (l.set r c))), a4, .own (basV m l), .val (.int (bl m (colA n m R) l)), .val (.int (c : Int)), .val (.int (r : Int)), a6, .non, .non] M (.int (c : Int)) 5 (.var 8) (xs := basV m l) rfl
      have ls : lset (basV m l) (.int (r : Int)) (.int (c : Int)) = some (basV m (l.set r c)) := by
        have := lset_mk l1 (fun i => (l.getD i 0 : Int)) (c : Int)
        rw [show basV m l = mkR m fun i => (l.getD i 0 : Int) from rfl, this]
        congr 1
        refine mk_congr fun i hi => ?_
        congr 1
        by_cases e : i = r
        · subst e
          simp [up, List.getElem?_set, G.len, hi]
        · simp only [up, if_neg e]
          rw [List.getD_eq_getElem?_getD, List.getD_eq_getElem?_getD, List.getElem?_set_ne (Ne.symm e)]
      simp [-List.getD_eq_getElem?_getD, ow, ls]
    have bs := bl_set (A := colA n m R) (c := c) l1 G.len
    simp [-List.getD_eq_getElem?_getD, -List.all_eq_true, ev_callB, headS, hc, L, hM, noLst, e1 r (by omega), e3, P, ow, En, al]
    exact bs.symm
end
end K02
end
section -- P9
namespace K02
open PySem Ev Sx
open Classical
section
variable {n m : Nat} {R : Nat → Nat → Int}
theorem loop_ok {d : Nat} (hd : 3 ≤ d) (hR : RowsOk n m R) (h1 : 1 ≤ m) (hm : m ≤ 6) (hn : n ≤ 100) (M : Mem) (hM : M.all moNoLst = true) (a4 : Slot) : ∀ l, Good (n + m) m (colA n m R) l → ∀ s3 a8 a9, (s3 = .own (tabV n m R l) ∨ s3 = .val (.lst (tabV n m R l))) →
    (∃ w, loopV (evE (callF Tn d) loopC) (evS (callF Tn d) loopB) (headS n m R l s3 a4 a8 a9) M = some (.rt (.tup [rowT n w, .non]) M) ∧ RayP n m R w) ∨
    ∃ l' s3' a8' a9', Good (n + m) m (colA n m R) l' ∧ (∀ j, j < n + m → 0 ≤ Tt n m R l' m j) ∧ (s3' = .own (tabV n m R l') ∨ s3' = .val (.lst (tabV n m R l'))) ∧ loopV (evE (callF Tn d) loopC) (evS (callF Tn d) loopB) (headS n m R l s3 a4 a8 a9) M = some (.nx (headS n m R l' s3' a4 a8' a9') M) := by
  intro l G
  have acc := runs_end l G
  induction acc with
  | intro l _ ih =>
    intro s3 a8 a9 hs
    have cond : ∀ v, entV (n + m) (Tt n m R l m) = v → evE (callF Tn d) loopC (headS n m R l s3 a4 a8 a9) M = some (.bl (!isNon v), M) := fun v hv => by
      simp [loopC, headS, hv]
    rw [loopV.eq_def]
    rcases ent_some (f := Tt n m R l m) (N := n + m) rfl with ⟨hv, hj⟩ | ⟨c, hv, hc1, hc2, hc3⟩
    · right
      refine ⟨l, s3, a8, a9, G, hj, hs, ?_⟩
      rw [cond _ hv]
      rfl
    · rw [cond _ hv]
      rcases body_ok hd G hR h1 hm hn s3 a4 a8 a9 hs M hM hv ⟨hc1, hc2, hc3⟩ with ⟨w, e, hw⟩ | ⟨r, L, s3', a8', a9', hs3, e⟩
      · left
        refine ⟨w, ?_, hw⟩
        simp only [isNon_int, Bool.not_false]
        rw [e]
      · have S : Step (n + m) m (colA n m R) l (l.set r c) := ⟨c, r, ⟨hc1, hc2, hc3⟩, L, rfl⟩
        simp only [isNon_int, Bool.not_false]
        rw [e]
        exact ih _ S (G.next S) s3' a8' a9' (.inr hs3)
theorem sl_mid (a k b : Nat) (f : Nat → PV) : sl (mk (a + k + b) f) (some (a : Int)) (some ((a : Int) + (k : Int))) = mk k fun i => f (a + i) := by
  have h : (mk (a + k + b) f).length = a + k + b := by simp
  unfold sl
  rw [h]
  rw [show ((a : Int) + (k : Int)) = ((a + k : Nat) : Int) by omega, HT.sIx_nat, HT.sIx_nat, Nat.min_eq_left (by omega), Nat.min_eq_left (by omega), Nat.add_sub_cancel_left]
  refine List.ext_getElem? fun i => ?_
  by_cases hi : i < k
  · rw [List.getElem?_take_of_lt hi, List.getElem?_drop]
    simp [hi, show a + i < a + k + b by omega]
  · rw [List.getElem?_eq_none (by rw [List.length_take]; omega)]
    simp [hi]
def tl13 : S := match t13 with
  | .cons _ (.cons _ (.cons _ (.cons _ (.cons _ (.cons _ (.cons _ k)))))) => k
  | s => s
theorem first_row (k : Nat) (hk : k < m) : (mk n fun j => PV.int (R j k)) ++ (mk m fun i => PV.int (if (k : Int) = (i : Int) then 1 else 0)) ++ [PV.int 1] = mkR (n + m + 1) fun j => colA n m R j k := by
  rw [mk_one, mk_app, mk_app]
  refine mk_congr fun j hj => ?_
  unfold colA unit
  dsimp only
  by_cases h : j < n + m
  · rw [if_pos h]
    by_cases h2 : j < n
    · rw [if_pos h2, if_pos h2, if_pos hk]
    · rw [if_neg h2, if_neg h2, if_pos h]
      congr 1
      by_cases e : k = j - n
      · rw [if_pos (by omega)]
        simp [e]
      · rw [if_neg (by omega)]
        simp [e]
  · rw [if_neg h, if_neg (by omega), if_neg h, if_pos hk]
theorem last_row : (mk n fun _ => PV.int (-1)) ++ (mk m fun _ => PV.int 0) ++ [PV.int 0] = mkR (n + m + 1) fun j => colA n m R j m := by
  rw [mk_one, mk_app, mk_app]
  refine mk_congr fun j hj => ?_
  unfold colA unit
  dsimp only
  by_cases h : j < n + m
  · rw [if_pos h]
    by_cases h2 : j < n
    · rw [if_pos h2, if_pos h2, if_neg (Nat.lt_irrefl m)]
    · rw [if_neg h2, if_neg h2, if_pos h, if_neg (by omega)]
  · rw [if_neg h, if_neg (by omega), if_neg h, if_neg (Nat.lt_irrefl m)]
theorem decided_ok {D : Nat} (h : 4 ≤ D) (hR : RowsOk n m R) (h1 : 1 ≤ m) (hm : m ≤ 6) (hn : n ≤ 100) (M : Mem) (hM : M.all moNoLst = true) :
    (∃ w, callF Tn D 13 [tabL n m R, .int (m : Int)] M = some (.tup [rowT n w, .non], M) ∧ RayP n m R w) ∨
    ∃ y, callF Tn D 13 [tabL n m R, .int (m : Int)] M = some (.tup [.non, rowT m y], M) ∧ OptP n m R y := by
  obtain ⟨l0, hl0⟩ : ∃ l0 : List Nat, l0 = mk m fun i => n + i := ⟨_, rfl⟩
  have len0 : l0.length = m := by rw [hl0]; simp
  have at0 : ∀ i, i < m → l0.getD i 0 = n + i := fun i hi => by rw [hl0]; simp [hi]
  obtain ⟨G0, b0, t0⟩ := good_start (n := n) (m := m) (R := R) len0 at0
  have tab0 : ∀ i, i ≤ m → (rowL (n + m + 1) fun j => colA n m R j i) = rowL (n + m + 1) (Tt n m R l0 i) := fun i hi => by
    show PV.lst _ = PV.lst _
    congr 1
    exact mk_congr fun j _ => by rw [show Tt n m R l0 i j = colA n m R j i from t0 i j hi]
  have pre : ∀ d, 3 ≤ d → ∃ a4, evS (callF Tn d) t13 [.val (tabL n m R), .val (.int (m : Int)), .non, .non, .non, .non, .non, .non, .non, .non, .non, .non] M = thenS (loopV (evE (callF Tn d) loopC) (evS (callF Tn d) loopB) (headS n m R l0 (.own (tabV n m R l0)) a4 .non .non) M) (evS (callF Tn d) tl13) := fun d hd => by
    let num : Nat → Slot := fun i => match i with
      | 0 => .non
      | i + 1 => .val (.int (i : Int))
    let st : Nat → Slots := fun i => [.val (tabL n m R), .val (.int (m : Int)), .val (.int (n : Int)), .own (mk i fun k => rowL (n + m + 1) (Tt n m R l0 k)), num i, .non, .non, .non, .non, .non, .non, .non]
    have snoc : ∀ (i : Nat) (f : Nat → PV), mk i f ++ [f i] = mk (i + 1) f := fun i f => by
      unfold mk
      rw [List.range_succ, List.map_append]
      rfl
    have smm := smallI_nat (n := m) (by omega)
    have loop := for_mk0 (tg := .var 4) (body := evS (callF Tn d) (match t13 with
      | .cons _ (.cons _ (.cons (.for _ _ b) _)) => b
      | s => s)) (M := M) (n := m) (fun i => .int (i : Int)) st fun i hi => by
      refine ⟨[.val (tabL n m R), .val (.int (m : Int)), .val (.int (n : Int)), .own (mk i fun k => rowL (n + m + 1) (Tt n m R l0 k)), .val (.int (i : Int)), .non, .non, .non, .non, .non, .non, .non], by simp [st], ?_⟩
      have sz : (mk i fun k => rowL (n + m + 1) (Tt n m R l0 k)).length < sizeLine := by rw [mk_len, Ev.sizeLine_eq]; omega
      have c1 := comp_mk (n := n) (tg := .var 10) (cond := evE (callF Tn d) (.cst (.bl true))) (elt := evE (callF Tn d) (.idx (.var 10) (.var 4))) (ρ := [.val (tabL n m R), .val (.int (m : Int)), .val (.int (n : Int)), .own (mk i fun k => rowL (n + m + 1) (Tt n m R l0 k)), .val (.int (i : Int)), .non, .non, .non, .non, .non, .non, .non]) (M := M)
        (fun j => rowL m (R j)) (fun j => .int (R j i)) (fun j => [.val (tabL n m R), .val (.int (m : Int)), .val (.int (n : Int)), .own (mk i fun k => rowL (n + m + 1) (Tt n m R l0 k)), .val (.int (i : Int)), .non, .non, .non, .non, .non, .val (rowL m (R j)), .non]) (fun j hj => by
          have : at? (mkR m (R j)) (i : Int) = some (.int (R j i)) := at_mk hi
          simp [this]) (by rw [Ev.sizeLine_eq]; omega)
      have c2 := comp_mk (n := m) (tg := .var 11) (cond := evE (callF Tn d) (.cst (.bl true))) (elt := evE (callF Tn d) (.bi .intOf (.cons (.cmp .eq (.var 4) (.var 11)) .nil))) (ρ := [.val (tabL n m R), .val (.int (m : Int)), .val (.int (n : Int)), .own (mk i fun k => rowL (n + m + 1) (Tt n m R l0 k)), .val (.int (i : Int)), .non, .non, .non, .non, .non, .non, .non]) (M := M)
        (fun j => .int (j : Int)) (fun j => .int (if (i : Int) = (j : Int) then 1 else 0)) (fun j => [.val (tabL n m R), .val (.int (m : Int)), .val (.int (n : Int)), .own (mk i fun k => rowL (n + m + 1) (Tt n m R l0 k)), .val (.int (i : Int)), .non, .non, .non, .non, .non, .non, .val (.int (j : Int))]) (fun j hj => by
          simp) (by rw [Ev.sizeLine_eq]; omega)
      have fr := congrArg PV.lst (first_row (R := R) (n := n) i hi)
      have tr := tab0 i (by omega)
      have e2 := (snoc i fun k => rowL (n + m + 1) (Tt n m R l0 k)).symm
      rw [← tr] at e2
      have z1 : n + m ≤ sizeLine := by rw [Ev.sizeLine_eq]; omega
      have z2 : n + m + 1 ≤ sizeLine := by rw [Ev.sizeLine_eq]; omega
      simp only [t13]
      simp [es_app, c1, c2, smm, range_nat, z1, z2, st]
      refine ⟨by rw [Ev.sizeLine_eq]; omega, ?_, rfl⟩
      rw [e2, ← show PV.lst _ = rowL (n + m + 1) fun j => colA n m R j i from fr, List.append_assoc]
    refine ⟨num m, ?_⟩
    have lg : (n.log2 < 63) := log2_lt (by omega) (by decide)
    have lg2 : (m.log2 < 63) := log2_lt (by omega) (by decide)
    have z0 : m < sizeLine := by rw [Ev.sizeLine_eq]; omega
    have zn : n ≤ sizeLine := by rw [Ev.sizeLine_eq]; omega
    have z1 : n + m ≤ sizeLine := by rw [Ev.sizeLine_eq]; omega
    have z2 : n + m + 1 ≤ sizeLine := by rw [Ev.sizeLine_eq]; omega
    have lr := congrArg PV.lst (last_row (n := n) (m := m) (R := R))
    rw [List.append_assoc] at lr
    have tr := tab0 m (Nat.le_refl m)
    have e2 := (snoc m fun k => rowL (n + m + 1) (Tt n m R l0 k)).symm
    have ap : ∀ e, evS (callF Tn d) (.app 3 e) (st m) M = bnd (evE (callF Tn d) e (st m) M) fun v M1 => if (mk m fun k => rowL (n + m + 1) (Tt n m R l0 k)).length < sizeLine then some (.nx ((st m).set 3 (.own ((mk m fun k => rowL (n + m + 1) (Tt n m R l0 k)) ++ [v]))) M1) else none := fun e => es_app (callF Tn d) (st m) M 3 e rfl
    have row : evE (callF Tn d) (.bin .add (.bin .add (.bin .mul (.disp (.cons (.neg (.cst (.int (1)))) .nil)) (.var 2)) (.bin .mul (.disp (.cons (.cst (.int (0))) .nil)) (.var 1))) (.disp (.cons (.cst (.int (0))) .nil))) (st m) M = some (rowL (n + m + 1) (Tt n m R l0 m), M) := by
      rw [← tr, ← show PV.lst _ = rowL (n + m + 1) fun j => colA n m R j m from lr]
      simp [st, lg, lg2, rep_mk, zn, Nat.le_of_lt z0, z1, z2]
      try simp [mk, List.map_const']
    have rg : evE (callF Tn d) (.rngl (.var 2) (.bin .add (.var 2) (.var 1)) false false) ((st m).set 3 (.own (tabV n m R l0))) M = some (.lst (basV m l0), M) := by
      rw [ev_rngl_nat _ _ M M M _ _ n m (by simp [st]) (by simp [st]) (by omega)]
      refine congrArg (fun z => some (PV.lst z, M)) ?_
      exact mk_congr fun i hi => by rw [at0 i hi]
    have En := entering_ok (D := d) (n := n + m) (by omega) (Tt n m R l0 m) M
    have al : at? (tabV n m R l0) (-1) = some (rowL (n + m + 1) (Tt n m R l0 m)) := at_last
    have loop2 : ∀ b, b = evS (callF Tn d) (match t13 with
      | .cons _ (.cons _ (.cons (.for _ _ b) _)) => b
      | s => s) → forL (.var 4) b (mk m fun i => PV.int (i : Int)) [.val (tabL n m R), .val (.int (m : Int)), .val (.int (n : Int)), .own [], .non, .non, .non, .non, .non, .non, .non, .non] M = some (.nx (st m) M) := fun b hb => by
      rw [hb]
      exact loop
    simp only [t13]
    simp [smm, range_nat]
    refine Eq.trans (congrArg (fun z => thenS z _) (loop2 _ rfl)) ?_
    have es : (mk m fun k => rowL (n + m + 1) (Tt n m R l0 k)) ++ [rowL (n + m + 1) (Tt n m R l0 m)] = tabV n m R l0 := snoc m _
    simp [ap, row, z0, es, rg, freshAll]
    simp [st, En, al]
    show _ = thenS (loopV _ _ [.val _, .val _, .val _, .own _, num m, .own _, .val (.int (bl m (colA n m R) l0)), .val (entV (n + m) (Tt n m R l0 m)), .non, .non, .non, .non] M) _
    rw [b0]
    rfl
  have fini : ∀ d l' s3' a4 a8' a9', (s3' = .own (tabV n m R l') ∨ s3' = .val (.lst (tabV n m R l'))) → evS (callF Tn d) tl13 (headS n m R l' s3' a4 a8' a9') M = some (.rt (.tup [.non, rowT m fun k => Tt n m R l' m (n + k)]) M) := fun d l' s3' a4 a8' a9' hs => by
    have al : at? (tabV n m R l') (-1) = some (rowL (n + m + 1) (Tt n m R l' m)) := at_last
    have sm := sl_mid n m 1 fun j => PV.int (Tt n m R l' m j)
    rcases hs with rfl | rfl <;> simp [tl13, t13, headS, al, slcV, boundE, slcO, sm]
  have fit : ∀ {v : PV}, (∀ d, 3 ≤ d → evS (callF Tn d) t13 [.val (tabL n m R), .val (.int (m : Int)), .non, .non, .non, .non, .non, .non, .non, .non, .non, .non] M = some (.rt v M)) → callF Tn D 13 [tabL n m R, .int (m : Int)] M = some (v, M) := fun {v} hv =>
    call_rt (fn := ⟨2, 12, t13⟩) (k := 3) h rfl rfl fun d hd => hv d hd
  obtain ⟨d, rfl⟩ : ∃ d, D = d + 1 := ⟨D - 1, by omega⟩
  have fit1 : ∀ {v : PV}, evS (callF Tn d) t13 [.val (tabL n m R), .val (.int (m : Int)), .non, .non, .non, .non, .non, .non, .non, .non, .non, .non] M = some (.rt v M) → callF Tn (d + 1) 13 [tabL n m R, .int (m : Int)] M = some (v, M) := fun {v} hv => by
    rw [call_eq (fn := ⟨2, 12, t13⟩) rfl rfl]
    show (match evS (callF Tn d) t13 [.val (tabL n m R), .val (.int (m : Int)), .non, .non, .non, .non, .non, .non, .non, .non, .non, .non] M with
      | some (.rt v M1) => fin M v M1
      | some (.nx _ M1) => fin M .non M1
      | none => none) = _
    rw [hv]
    exact fin_same M v
  obtain ⟨a4, pe⟩ := pre d (by omega)
  rcases loop_ok (d := d) (by omega) hR h1 hm hn M hM a4 l0 G0 (.own (tabV n m R l0)) .non .non (.inl rfl) with ⟨w, e, hw⟩ | ⟨l', s3', a8', a9', G', hj, hs, e⟩
  · left
    refine ⟨w, fit1 ?_, hw⟩
    rw [pe, e]
    rfl
  · right
    refine ⟨fun k => Tt n m R l' m (n + k), fit1 ?_, (opt_ok G' hj).1, (opt_ok G' hj).2, fun k => Tt_bound hR l' m _⟩
    rw [pe, e]
    exact fini d l' s3' a4 a8' a9' hs
end
end K02
end
section -- P10
namespace K02
open PySem Ev Sx
open Classical
def CovW (n m : Nat) (q : Nat → Int) (H : Nat → Nat → Int) (w : Nat → Int) : Prop := (∀ j, j < n → 0 ≤ w j) ∧ 0 < sumN n w ∧ (∀ k, k < m → q k * sumN n w ≤ sumN n fun j => H j k * w j) ∧ ∀ j, (w j).natAbs < 2 ^ 160
def CovY (n m : Nat) (q : Nat → Int) (H : Nat → Nat → Int) (y : Nat → Int) : Prop := (∀ k, k < m → 0 ≤ y k) ∧ (∀ j, j < n → (sumN m fun k => H j k * y k) < sumN m fun k => q k * y k) ∧ ∀ k, (y k).natAbs < 2 ^ 160
section
variable {n m : Nat} {q : Nat → Int} {H : Nat → Nat → Int}
theorem cov_of_ray {w : Nat → Int} (hm : m ≤ 6) (h : RayP n m (fun j k => q k - H j k) w) : CovW n m q H w := by
  obtain ⟨h1, h2, h3, h4⟩ := h
  refine ⟨fun j _ => h1 j, h2, fun k hk => ?_, fun j => Nat.lt_of_le_of_lt (h4 j) (facB_lt hm)⟩
  have := h3 k hk
  rw [sumN_congr n (g := fun j => q k * w j + (-1) * (H j k * w j)) fun j _ => by grind, sumN_lin] at this
  omega
theorem cov_of_opt {y : Nat → Int} (hm : m ≤ 6) (h : OptP n m (fun j k => q k - H j k) y) : CovY n m q H y := by
  obtain ⟨h1, h2, h4⟩ := h
  refine ⟨h1, fun j hj => ?_, fun j => Nat.lt_of_le_of_lt (h4 j) (facB_lt hm)⟩
  have := h2 j hj
  rw [sumN_congr m (g := fun k => 1 * (q k * y k) + (-1) * (H j k * y k)) fun j _ => by grind, sumN_lin] at this
  omega
/-- what is covered is worth no more -/
theorem cov_dual {w y : Nat → Int} (h : CovW n m q H w) (hy : ∀ k, k < m → 0 ≤ y k) : ∃ j, j < n ∧ (sumN m fun k => q k * y k) ≤ sumN m fun k => H j k * y k := by
  refine Classical.byContradiction fun hn => ?_
  have hn : ∀ j, j < n → (sumN m fun k => H j k * y k) < sumN m fun k => q k * y k := fun j hj => by
    by_cases e : (sumN m fun k => q k * y k) ≤ sumN m fun k => H j k * y k
    · exact absurd ⟨j, hj, e⟩ hn
    · omega
  obtain ⟨h1, h2, h3, _⟩ := h
  obtain ⟨j0, hj0, p0⟩ := sumN_pos n h2
  -- both ways round
  have e1 : (sumN n fun j => w j * ((sumN m fun k => q k * y k) - sumN m fun k => H j k * y k)) = sumN m fun k => y k * (q k * sumN n w - sumN n fun j => H j k * w j) := by
    have l : ∀ j, w j * ((sumN m fun k => q k * y k) - sumN m fun k => H j k * y k) = sumN m fun k => w j * (q k - H j k) * y k := fun j => by
      rw [sumN_congr m (f := fun k => w j * (q k - H j k) * y k) (g := fun k => w j * (q k * y k) + (-w j) * (H j k * y k)) fun k _ => by grind, sumN_lin]
      grind
    rw [sumN_congr n fun j _ => l j, sumN_comm]
    refine sumN_congr m fun k _ => ?_
    rw [sumN_congr n (g := fun j => (y k * q k) * w j + (- y k) * (H j k * w j)) fun j _ => by grind, sumN_lin]
    grind
  have p1 : 0 < sumN n fun j => w j * ((sumN m fun k => q k * y k) - sumN m fun k => H j k * y k) := by
    rw [sumN_split j0 n _ hj0]
    have a1 : 0 ≤ sumN n fun i => if i = j0 then 0 else w i * ((sumN m fun k => q k * y k) - sumN m fun k => H i k * y k) := sumN_nonneg n fun i hi => by
      by_cases e : i = j0
      · rw [if_pos e]
        exact Int.le_refl 0
      · rw [if_neg e]
        exact Int.mul_nonneg (h1 i hi) (by have := hn i hi; omega)
    have a2 : 0 < w j0 * ((sumN m fun k => q k * y k) - sumN m fun k => H j0 k * y k) := Int.mul_pos p0 (by have := hn j0 hj0; omega)
    omega
  have p2 : 0 ≤ sumN m fun k => y k * ((sumN n fun j => H j k * w j) - q k * sumN n w) := sumN_nonneg m fun k hk => Int.mul_nonneg (hy k hk) (by have := h3 k hk; omega)
  have e3 : (sumN m fun k => y k * ((sumN n fun j => H j k * w j) - q k * sumN n w)) = - sumN m fun k => y k * (q k * sumN n w - sumN n fun j => H j k * w j) := by
    rw [sumN_congr m (g := fun k => (-1) * (y k * (q k * sumN n w - sumN n fun j => H j k * w j))) fun k _ => by grind, sumN_mul]
    omega
  omega
theorem cov_not {w y : Nat → Int} (h : CovW n m q H w) (h' : CovY n m q H y) : False := by
  obtain ⟨j, hj, e⟩ := cov_dual h h'.1
  have := h'.2.1 j hj
  omega
def InOk (n m : Nat) (q : Nat → Int) (H : Nat → Nat → Int) : Prop := 1 ≤ n ∧ n ≤ 9 ∧ 1 ≤ m ∧ m ≤ 6 ∧ (∀ k, k < m → ItemOk (q k)) ∧ ∀ j, j < n → ∀ k, k < m → ItemOk (H j k)
theorem cover_in_ok {D : Nat} (h : 5 ≤ D) (I : InOk n m q H) (M : Mem) (hM : M.all moNoLst = true) :
    (∃ w, callF Tn D 15 [rowT m q, highT n m H] M = some (.tup [rowT n w, .non], M) ∧ CovW n m q H w) ∨
    ∃ y, callF Tn D 15 [rowT m q, highT n m H] M = some (.tup [.non, rowT m y], M) ∧ CovY n m q H y := by
  obtain ⟨n1, n2, m1, m2, hq, hH⟩ := I
  obtain ⟨d, rfl⟩ : ∃ d, D = d + 1 := ⟨D - 1, by omega⟩
  have fit1 : ∀ {v : PV}, evS (callF Tn d) t15 [.val (rowT m q), .val (highT n m H), .non, .non, .non, .non, .non] M = some (.rt v M) → callF Tn (d + 1) 15 [rowT m q, highT n m H] M = some (v, M) := fun {v} hv => by
    rw [call_eq (fn := ⟨2, 7, t15⟩) rfl rfl]
    show (match evS (callF Tn d) t15 [.val (rowT m q), .val (highT n m H), .non, .non, .non, .non, .non] M with
      | some (.rt v M1) => Ev.fin M v M1
      | some (.nx _ M1) => Ev.fin M .non M1
      | none => none) = _
    rw [hv]
    exact fin_same M v
  let up_ : Nat → Bool := fun j => (List.range m).all fun k => decide (q k ≤ H j k)
  let st : Nat → Slots := fun i => match i with
    | 0 => [.val (rowT m q), .val (highT n m H), .non, .non, .non, .non, .non]
    | i + 1 => [.val (rowT m q), .val (highT n m H), .val (.int (i : Int)), .val (rowT m (H i)), .non, .non, .non]
  have stx : ∀ i : Nat, ∃ a b, st i = [.val (rowT m q), .val (highT n m H), a, b, .non, .non, .non] := fun i => by
    cases i <;> exact ⟨_, _, rfl⟩
  let body : S := match t15 with
    | .cons (.for _ _ b) _ => b
    | s => s
  have snd : ∀ i : Nat, ∃ ρ1, setTg (.tup (.cons (.var 2) (.cons (.var 3) .nil))) (.tup [.int (i : Int), rowT m (H i)]) (st i) = some ρ1 ∧ ρ1 = st (i + 1) := fun i => by
    obtain ⟨a, b, e⟩ := stx i
    refine ⟨st (i + 1), by rw [e]; simp [st], rfl⟩
  have cm : ∀ i : Nat, compL (.tup (.cons (.var 4) (.cons (.var 5) .nil))) (evE (callF Tn d) (.cst (.bl true))) (evE (callF Tn d) (.cmp .le (.var 4) (.var 5))) [.val (rowT m q), .val (highT n m H), .val (.int (i : Int)), .val (rowT m (H i)), .non, .non, .non] (mk m fun k => PV.tup [.int (q k), .int (H i k)]) [] M = some (mk m fun k => .bl (decide (q k ≤ H i k)), M) := fun i =>
    comp_mk (n := m) _ _ (fun k => [.val (rowT m q), .val (highT n m H), .val (.int (i : Int)), .val (rowT m (H i)), .val (.int (q k)), .val (.int (H i k)), .non]) (fun k hk => by simp) (by rw [Ev.sizeLine_eq]; omega)
  have cnd : ∀ i : Nat, evE (callF Tn d) (.bi .all (.cons (.comp (.cmp .le (.var 4) (.var 5)) (.zip (.var 0) (.var 3)) (.cst (.bl true)) (.tup (.cons (.var 4) (.cons (.var 5) .nil))) [4, 5]) .nil)) (st (i + 1)) M = some (.bl (up_ i), M) := fun i => by
    simp [-List.all_map, st, zip_mk, cm, bools_mk]
    simp [up_]
  have turn : ∀ i : Nat, up_ i = false → ∃ ρ1, setTg (.tup (.cons (.var 2) (.cons (.var 3) .nil))) (.tup [.int (i : Int), rowT m (H i)]) (st i) = some ρ1 ∧ evS (callF Tn d) body ρ1 M = some (.nx (st (i + 1)) M) := fun i hi => by
    obtain ⟨ρ1, h1, h2⟩ := snd i
    refine ⟨ρ1, h1, ?_⟩
    rw [h2]
    simp only [body, t15]
    rw [es_cons, es_ite, cnd i, hi]
    rfl
  have enumr : pairs 0 (mk n fun j => rowT m (H j)) = mk n fun i => .tup [.int (i : Int), rowT m (H i)] := pairs_range n _
  have last : ∀ a b, evS (callF Tn d) (match t15 with
    | .cons _ k => k
    | s => s) [.val (rowT m q), .val (highT n m H), a, b, .non, .non, .non] M = bnd (callF Tn d 13 [tabL n m (fun j k => q k - H j k), .int (m : Int)] M) fun v M1 => some (.rt v M1) := fun a b => by
    have c := comp_mk (n := n) (tg := .var 3) (cond := evE (callF Tn d) (.cst (.bl true))) (elt := evE (callF Tn d) (.call 14 (.cons (.var 0) (.cons (.var 3) .nil)))) (ρ := [.val (rowT m q), .val (highT n m H), a, .non, .non, .non, .non]) (M := M)
      (fun j => rowT m (H j)) (fun j => rowL m fun k => q k - H j k) (fun j => [.val (rowT m q), .val (highT n m H), a, .val (rowT m (H j)), .non, .non, .non]) (fun j hj => by
        have := less_ok (D := d) (by omega) q (H j) M (n := m) (by omega)
        simp [this]) (by rw [Ev.sizeLine_eq]; omega)
    simp only [t15]
    simp [c]
    cases callF Tn d 13 [PV.lst (mk n fun j => rowL m fun k => q k - H j k), PV.int ↑m] M <;> rfl
  cases f : (List.range n).find? up_ with
  | none =>
    have hn : ∀ i, i < n → up_ i = false := fun i hi => by
      have := List.find?_eq_none.mp f i (List.mem_range.mpr hi)
      simpa using this
    have loop := for_mk0 (M := M) (n := n) (fun i => .tup [.int (i : Int), rowT m (H i)]) st fun i hi => turn i (hn i hi)
    obtain ⟨a, b, e⟩ := stx n
    rw [e] at loop
    have pre : evS (callF Tn d) t15 [.val (rowT m q), .val (highT n m H), .non, .non, .non, .non, .non] M = bnd (callF Tn d 13 [tabL n m (fun j k => q k - H j k), .int (m : Int)] M) fun v M1 => some (.rt v M1) := by
      rw [← last a b]
      simp only [t15]
      rw [es_cons]
      refine Eq.trans (congrArg (fun z => thenS z _) (?_ : _ = some (.nx [.val (rowT m q), .val (highT n m H), a, b, .non, .non, .non] M))) rfl
      simp [enumr]
      exact loop
    have hR : RowsOk n m (fun j k => q k - H j k) := fun j hj k hk => by
      obtain ⟨a1, a2⟩ := hq k hk
      obtain ⟨a3, a4⟩ := hH j hj k hk
      show (q k - H j k).natAbs ≤ 1000000
      omega
    rcases decided_ok (D := d) (by omega) hR m1 m2 (by omega) M hM with ⟨w, e, hw⟩ | ⟨y, e, hy⟩
    · exact .inl ⟨w, fit1 (by rw [pre, e]; rfl), cov_of_ray m2 hw⟩
    · exact .inr ⟨y, fit1 (by rw [pre, e]; rfl), cov_of_opt m2 hy⟩
  | some i =>
    obtain ⟨h1, h2, h3⟩ := find_range f
    left
    refine ⟨fun j => if (i : Int) = (j : Int) then 1 else 0, fit1 ?_, ?_⟩
    · have loop := for_rt (M := M) (n := n) (tg := .tup (.cons (.var 2) (.cons (.var 3) .nil))) (body := evS (callF Tn d) body) (fun i => .tup [.int (i : Int), rowT m (H i)]) st (v := .tup [rowT n fun j => if (i : Int) = (j : Int) then 1 else 0, .non]) h1 (fun i' hi => turn i' (h3 i' hi)) (by
        obtain ⟨ρ1, h1, h2'⟩ := snd i
        refine ⟨ρ1, h1, ?_⟩
        rw [h2']
        simp only [up_] at h2
        have smm := smallI_nat (n := n) (by omega)
        have c2 := comp_mk (n := n) (tg := .var 6) (cond := evE (callF Tn d) (.cst (.bl true))) (elt := evE (callF Tn d) (.bi .intOf (.cons (.cmp .eq (.var 2) (.var 6)) .nil))) (ρ := [.val (rowT m q), .val (highT n m H), .val (.int (i : Int)), .val (rowT m (H i)), .non, .non, .non]) (M := M)
          (fun j => .int (j : Int)) (fun j => .int (if (i : Int) = (j : Int) then 1 else 0)) (fun j => [.val (rowT m q), .val (highT n m H), .val (.int (i : Int)), .val (rowT m (H i)), .non, .non, .val (.int (j : Int))]) (fun j hj => by
          simp) (by rw [Ev.sizeLine_eq]; omega)
        simp only [body, t15]
        rw [es_cons, es_ite, cnd i, show up_ i = true from h2]
        simp [st, smm, range_nat, c2])
      simp only [t15]
      rw [es_cons]
      refine Eq.trans (congrArg (fun z => thenS z _) (?_ : _ = some (.rt (.tup [rowT n fun j => if (i : Int) = (j : Int) then 1 else 0, .non]) M))) rfl
      simp [enumr]
      exact loop
    · have s1 : ∀ f : Nat → Int, (sumN n fun j => f j * (if (i : Int) = (j : Int) then 1 else 0)) = f i := fun f => by
        rw [sumN_one n i h1 fun j hj ne => by rw [if_neg (by omega), Int.mul_zero]]
        simp
      have s2 : (sumN n fun j => if (i : Int) = (j : Int) then 1 else 0) = 1 := by
        rw [sumN_one n i h1 fun j hj ne => if_neg (by omega)]
        simp
      refine ⟨fun j hj => by dsimp only; split <;> decide, by rw [s2]; decide, fun k hk => ?_, fun j => by dsimp only; split <;> decide⟩
      rw [s2, s1 fun j => H j k]
      simp only [up_] at h2
      have := List.all_eq_true.mp h2 k (List.mem_range.mpr hk)
      simp at this
      omega
end
end K02
end
section -- P11
namespace Ev
open PySem Sx
theorem max_fold : ∀ (xs : List Int) (a : Int), a ≤ xs.foldl (fun a b => if b > a then b else a) a ∧ (∀ x ∈ xs, x ≤ xs.foldl (fun a b => if b > a then b else a) a) ∧ (xs.foldl (fun a b => if b > a then b else a) a = a ∨ xs.foldl (fun a b => if b > a then b else a) a ∈ xs)
  | [], a => ⟨Int.le_refl a, (fun _ h => nomatch h), .inl rfl⟩
  | x :: xs, a => by
    rw [List.foldl_cons]
    by_cases e : x > a
    · obtain ⟨h1, h2, h3⟩ := max_fold xs x
      rw [if_pos e]
      refine ⟨by omega, fun y hy => ?_, .inr ?_⟩
      · rcases List.mem_cons.mp hy with rfl | hy
        · exact h1
        · exact h2 y hy
      · rcases h3 with h3 | h3
        · rw [h3]
          exact List.mem_cons_self
        · exact List.mem_cons_of_mem _ h3
    · obtain ⟨h1, h2, h3⟩ := max_fold xs a
      rw [if_neg e]
      refine ⟨h1, fun y hy => ?_, ?_⟩
      · rcases List.mem_cons.mp hy with rfl | hy
        · omega
        · exact h2 y hy
      · rcases h3 with h3 | h3
        · exact .inl h3
        · exact .inr (List.mem_cons_of_mem _ h3)
theorem max_mk {n : Nat} (f : Nat → Int) (h : 1 ≤ n) : ∃ x, maxL (mk n f) = some x ∧ (∀ j, j < n → f j ≤ x) ∧ ∃ j, j < n ∧ f j = x := by
  obtain ⟨n, rfl⟩ : ∃ k, n = k + 1 := ⟨n - 1, by omega⟩
  have e : mk (n + 1) f = f 0 :: mk n fun i => f (i + 1) := by
    simp [mk, List.range_succ_eq_map]
  obtain ⟨h1, h2, h3⟩ := max_fold (mk n fun i => f (i + 1)) (f 0)
  refine ⟨_, by rw [e]; rfl, fun j hj => ?_, ?_⟩
  · cases j with
    | zero => exact h1
    | succ j => exact h2 _ (List.mem_map.mpr ⟨j, List.mem_range.mpr (by omega), rfl⟩)
  · rcases h3 with h3 | h3
    · exact ⟨0, by omega, h3.symm⟩
    · obtain ⟨j, hj, e⟩ := List.mem_map.mp h3
      exact ⟨j + 1, by have := List.mem_range.mp hj; omega, e⟩
theorem cv_eqS (M : Mem) (a b : Str) (ha : PyData.strOk a = true) (hb : PyData.strOk b = true) : cmpV M .eq (.str a) (.str b) = some (a == b) := by
  show (if (scal (.str a) || isD 60 (.str a)) && (scal (.str b) || isD 60 (.str b)) then some (eqv (.str a) (.str b)) else none) = _
  rw [show scal (.str a) = true from ha, show scal (.str b) = true from hb]
  rfl
theorem cv_neS (M : Mem) (a b : Str) (ha : PyData.strOk a = true) (hb : PyData.strOk b = true) : cmpV M .ne (.str a) (.str b) = some (!(a == b)) := by
  show (if (scal (.str a) || isD 60 (.str a)) && (scal (.str b) || isD 60 (.str b)) then some (!eqv (.str a) (.str b)) else none) = _
  rw [show scal (.str a) = true from ha, show scal (.str b) = true from hb]
  rfl
theorem okW : PyData.strOk ("weights" : Str) = true := by decide +kernel
theorem okL : PyData.strOk ("lags" : Str) = true := by decide +kernel
theorem neWL : (("weights" : Str) == ("lags" : Str)) = false := by decide +kernel
theorem neLW : (("lags" : Str) == ("weights" : Str)) = false := by decide +kernel
@[simp] theorem sWW (M : Mem) : cmpV M .eq (.str "weights") (.str "weights") = some true := by rw [cv_eqS M _ _ okW okW]; simp
@[simp] theorem sLL (M : Mem) : cmpV M .eq (.str "lags") (.str "lags") = some true := by rw [cv_eqS M _ _ okL okL]; simp
@[simp] theorem sWL (M : Mem) : cmpV M .eq (.str "weights") (.str "lags") = some false := by rw [cv_eqS M _ _ okW okL, neWL]
@[simp] theorem sLW (M : Mem) : cmpV M .eq (.str "lags") (.str "weights") = some false := by rw [cv_eqS M _ _ okL okW, neLW]
@[simp] theorem nWW (M : Mem) : cmpV M .ne (.str "weights") (.str "weights") = some false := by rw [cv_neS M _ _ okW okW]; simp
@[simp] theorem nLL (M : Mem) : cmpV M .ne (.str "lags") (.str "lags") = some false := by rw [cv_neS M _ _ okL okL]; simp
theorem in_forms (M : Mem) {a : Str} (ha : a = "weights" ∨ a = "lags") : inV M (.str a) (.tup [.str "weights", .str "lags"]) = some true := by
  show (if flat (.str a) && [PV.str "weights", .str "lags"].all flat then some ([PV.str "weights", .str "lags"].any fun k => eqv k (.str a)) else none) = _
  rcases ha with rfl | rfl
  · show some ((("weights" : Str) == ("weights" : Str)) || ((("lags" : Str) == ("weights" : Str)) || false)) = _
    simp
  · show some ((("weights" : Str) == ("lags" : Str)) || ((("lags" : Str) == ("lags" : Str)) || false)) = _
    simp
theorem mulOk_r {i j : Int} (h : j.natAbs < 2 ^ 64) : mulOk i j = true := by
  unfold mulOk
  simp only [Bool.or_eq_true, decide_eq_true_eq]
  left; right
  exact log2_lt h (by decide)
end Ev
namespace K02
open PySem Ev Sx
open Classical
section
variable {n m : Nat} {q : Nat → Int} {H : Nat → Nat → Int}
theorem small_item {x : Int} (h : ItemOk x) : x.natAbs < 2 ^ 64 := by
  obtain ⟨a, b⟩ := h
  omega
theorem cover_paper_ok {D : Nat} (h : 6 ≤ D) (I : InOk n m q H) (M : Mem) (hM : M.all moNoLst = true) :
    (∃ w, callF Tn D 22 [.int (m : Int), rowT m q, highT n m H] M = some (.tup [.str "weights", rowT n w], M) ∧ CovW n m q H w) ∨
    ∃ y, callF Tn D 22 [.int (m : Int), rowT m q, highT n m H] M = some (.tup [.str "lags", rowT m y], M) ∧ CovY n m q H y := by
  obtain ⟨n1, n2, m1, m2, hq, hH⟩ := id I
  obtain ⟨d, rfl⟩ : ∃ d, D = d + 1 := ⟨D - 1, by omega⟩
  have c1 := need_names_ok (D := d) (by omega) (m : Int) (by omega) (by omega) M
  have c2 := need_sum_ok (D := d) (n := m) (by omega) (by omega) q hq M
  have c3 := need_high_ok (D := d) (n := n) (m := m) (by omega) n1 (by omega) (by omega) H hH M
  rcases cover_in_ok (D := d) (by omega) I M hM with ⟨w, e, hw⟩ | ⟨y, e, hy⟩
  · refine .inl ⟨w, ?_, hw⟩
    rw [call_eq (fn := ⟨3, 5, t22⟩) rfl rfl]
    simp [t22, c1, c2, c3, e, fin_same]
  · refine .inr ⟨y, ?_, hy⟩
    rw [call_eq (fn := ⟨3, 5, t22⟩) rfl rfl]
    simp [t22, c1, c2, c3, e, fin_same]
theorem is_covered_ok {D : Nat} (h : 6 ≤ D) (I : InOk n m q H) (M : Mem) (hM : M.all moNoLst = true) :
    (callF Tn D 16 [.int (m : Int), rowT m q, highT n m H] M = some (.bl true, M) ∧ ∃ w, CovW n m q H w) ∨
    (callF Tn D 16 [.int (m : Int), rowT m q, highT n m H] M = some (.bl false, M) ∧ ∃ y, CovY n m q H y) := by
  obtain ⟨n1, n2, m1, m2, hq, hH⟩ := id I
  obtain ⟨d, rfl⟩ : ∃ d, D = d + 1 := ⟨D - 1, by omega⟩
  have c1 := need_names_ok (D := d) (by omega) (m : Int) (by omega) (by omega) M
  have c2 := need_sum_ok (D := d) (n := m) (by omega) (by omega) q hq M
  have c3 := need_high_ok (D := d) (n := n) (m := m) (by omega) n1 (by omega) (by omega) H hH M
  rcases cover_in_ok (D := d) (by omega) I M hM with ⟨w, e, hw⟩ | ⟨y, e, hy⟩
  · refine .inl ⟨?_, w, hw⟩
    rw [call_eq (fn := ⟨3, 3, t16⟩) rfl rfl]
    simp [t16, c1, c2, c3, e, fin_same]
  · refine .inr ⟨?_, y, hy⟩
    rw [call_eq (fn := ⟨3, 3, t16⟩) rfl rfl]
    simp [t16, c1, c2, c3, e, fin_same]
/-- a product, the first one a list -/
theorem productL_ok {D n : Nat} (h : 1 ≤ D) (q y : Nat → Int) (M : Mem) (hq : ∀ i, i < n → (q i).natAbs < 2 ^ 64) (hz : n ≤ 1000) : callF Tn D 29 [rowL n q, rowT n y] M = some (.int (sumN n fun i => q i * y i), M) := by
  refine call_rt (fn := ⟨2, 4, t29⟩) (k := 0) h rfl rfl fun d _ => ?_
  have c := comp_mk (n := n) (tg := .tup (.cons (.var 2) (.cons (.var 3) .nil))) (cond := evE (callF Tn d) (.cst (.bl true))) (elt := evE (callF Tn d) (.bin .mul (.var 2) (.var 3))) (ρ := [.val (rowL n q), .val (rowT n y), .non, .non]) (M := M)
    (fun i => PV.tup [.int (q i), .int (y i)]) (fun i => .int (q i * y i)) (fun i => [.val (rowL n q), .val (rowT n y), .val (.int (q i)), .val (.int (y i))]) (fun i hi => by
      simp [mulOk_l (hq i hi)]) (by
      rw [Ev.sizeLine_eq]
      omega)
  have s := sum_mk n fun i => q i * y i
  simp [t29, zip_mk, c, ints_mapf] at s ⊢
  exact s
theorem need_form_ok {D : Nat} (h : 1 ≤ D) (a : Str) (xs : List PV) (ha : a = "weights" ∨ a = "lags") (M : Mem) : callF Tn D 28 [.tup [.str a, .tup xs]] M = some (.non, M) := by
  refine call_nx (fn := ⟨1, 1, t28⟩) (k := 0) h rfl rfl fun d hd => ⟨[.val (.tup [.str a, .tup xs])], ?_⟩
  have := in_forms M ha
  simp [t28, this]
theorem sum_row (n : Nat) (f : Nat → Int) (M : Mem) : biV M .sum [rowT n f] = some (.int (sumN n f)) := by
  show ((ints? (mkR n f)).map fun ns => PV.int ns.sum) = _
  rw [ints_mk, Option.map_some, sum_mk]
theorem sum_rowL (n : Nat) (f : Nat → Int) (M : Mem) : biV M .sum [rowL n f] = some (.int (sumN n f)) := by
  show ((ints? (mkR n f)).map fun ns => PV.int ns.sum) = _
  rw [ints_mk, Option.map_some, sum_mk]
theorem are_weights_ok {D : Nat} (h : 3 ≤ D) (I : InOk n m q H) {w : Nat → Int} (W : CovW n m q H w) (M : Mem) : callF Tn D 30 [rowT m q, highT n m H, rowT n w] M = some (.bl true, M) := by
  obtain ⟨n1, n2, m1, m2, hq, hH⟩ := I
  obtain ⟨w1, w2, w3, w4⟩ := W
  refine call_rt (fn := ⟨3, 6, t30⟩) (k := 2) h rfl rfl fun d hd => ?_
  obtain ⟨c, e, hc⟩ := are_whole_ok (n := n) hd w n 0 none M (by omega)
  have : c = true := hc.mpr ⟨rfl, fun i hi => by simp [inB, w1 i hi]⟩
  subst this
  simp only [optI] at e
  have ne : ¬ sumN n w = 0 := by omega
  have cm := comp_mk (n := m) (tg := .tup (.cons (.var 3) (.cons (.var 4) .nil))) (cond := evE (callF Tn d) (.cst (.bl true))) (elt := evE (callF Tn d) (.cmp .le (.bin .mul (.bi .sum (.cons (.var 2) .nil)) (.var 4)) (.call 29 (.cons (.comp (.idx (.var 5) (.var 3)) (.seq (.var 1)) (.cst (.bl true)) (.var 5) [5]) (.cons (.var 2) .nil))))) (ρ := [.val (rowT m q), .val (highT n m H), .val (rowT n w), .non, .non, .non]) (M := M)
    (fun k => PV.tup [.int (k : Int), .int (q k)]) (fun k => .bl true) (fun k => [.val (rowT m q), .val (highT n m H), .val (rowT n w), .val (.int (k : Int)), .val (.int (q k)), .non]) (fun k hk => by
      have c2 := comp_mk (n := n) (tg := .var 5) (cond := evE (callF Tn d) (.cst (.bl true))) (elt := evE (callF Tn d) (.idx (.var 5) (.var 3))) (ρ := [.val (rowT m q), .val (highT n m H), .val (rowT n w), .val (.int (k : Int)), .val (.int (q k)), .non]) (M := M)
        (fun j => rowT m (H j)) (fun j => .int (H j k)) (fun j => [.val (rowT m q), .val (highT n m H), .val (rowT n w), .val (.int (k : Int)), .val (.int (q k)), .val (rowT m (H j))]) (fun j hj => by
          have : at? (mkR m (H j)) (k : Int) = some (.int (H j k)) := at_mk hk
          simp [this]) (by rw [Ev.sizeLine_eq]; omega)
      have p := productL_ok (D := d) (n := n) (by omega) (fun j => H j k) w M (fun i hi => small_item (hH i hi k hk)) (by omega)
      have mo := mulOk_r (i := sumN n w) (small_item (hq k hk))
      have le : sumN n w * q k ≤ sumN n fun j => H j k * w j := by rw [Int.mul_comm]; exact w3 k hk
      simp [c2, p, sum_row, mo, le]) (by rw [Ev.sizeLine_eq]; omega)
  have c3 : bools? (mk m fun j => PV.bl true) = some (mk m fun _ => true) := bools_mapf _ _
  simp [t30, e, sum_row, ne, pairs_range, cm, c3]
theorem high_product_ok {D n m : Nat} {H : Nat → Nat → Int} (h : 2 ≤ D) (n1 : 1 ≤ n) (n2 : n ≤ 1000) (hm : m ≤ 1000) (hH : ∀ j, j < n → ∀ k, k < m → ItemOk (H j k)) (y : Nat → Int) (M : Mem) :
    ∃ x, callF Tn D 31 [highT n m H, rowT m y] M = some (.int x, M) ∧ (∀ j, j < n → (sumN m fun k => H j k * y k) ≤ x) ∧ ∃ j, j < n ∧ (sumN m fun k => H j k * y k) = x := by
  obtain ⟨x, e, h1, h2⟩ := max_mk (n := n) (fun j => sumN m fun k => H j k * y k) n1
  refine ⟨x, ?_, h1, h2⟩
  refine call_rt (fn := ⟨2, 3, t31⟩) (k := 1) h rfl rfl fun d hd => ?_
  have cm := comp_mk (n := n) (tg := .var 2) (cond := evE (callF Tn d) (.cst (.bl true))) (elt := evE (callF Tn d) (.call 29 (.cons (.var 2) (.cons (.var 1) .nil)))) (ρ := [.val (highT n m H), .val (rowT m y), .non]) (M := M)
    (fun j => rowT m (H j)) (fun j => .int (sumN m fun k => H j k * y k)) (fun j => [.val (highT n m H), .val (rowT m y), .val (rowT m (H j))]) (fun j hj => by
      have p := product_ok (D := d) (n := m) hd (H j) y M (fun k hk => small_item (hH j hj k hk)) hm
      simp [p]) (by rw [Ev.sizeLine_eq]; omega)
  simp [t31, cm, ints_mk, e]
theorem are_lags_above_ok {D : Nat} (h : 3 ≤ D) (I : InOk n m q H) {y : Nat → Int} (Y : CovY n m q H y) (M : Mem) : callF Tn D 32 [.tup [rowT m q], highT n m H, rowT m y] M = some (.bl true, M) := by
  obtain ⟨n1, n2, m1, m2, hq, hH⟩ := I
  obtain ⟨y1, y2, y3⟩ := Y
  refine call_rt (fn := ⟨3, 3, t32⟩) (k := 2) h rfl rfl fun d hd => ?_
  obtain ⟨c, e, hc⟩ := are_whole_ok (n := m) hd y m 0 none M (by omega)
  have : c = true := hc.mpr ⟨rfl, fun i hi => by simp [inB, y1 i hi]⟩
  subst this
  simp only [optI] at e
  obtain ⟨x, ex, hx, j, hj, ej⟩ := high_product_ok (D := d) hd n1 (by omega) (by omega) hH y M
  obtain ⟨x', ex', hx', j', hj', ej'⟩ := high_product_ok (D := d) (n := 1) (m := m) (H := fun _ => q) hd (by omega) (by omega) (by omega) (fun _ _ => hq) y M
  have ex2 : callF Tn d 31 [.tup [rowT m q], rowT m y] M = some (.int x', M) := ex'
  have lt : x < x' := by
    have := y2 j hj
    omega
  simp [t32, e, ex, ex2, lt]
theorem check_cover_ok {D : Nat} (h : 5 ≤ D) (I : InOk n m q H) (M : Mem) {v : PV} (hv : (∃ w, v = .tup [.str "weights", rowT n w] ∧ CovW n m q H w) ∨ ∃ y, v = .tup [.str "lags", rowT m y] ∧ CovY n m q H y) :
    ∃ a, callF Tn D 33 [.int (m : Int), rowT m q, highT n m H, v] M = some (.str a, M) ∧ ∃ xs, v = .tup [.str a, xs] := by
  obtain ⟨n1, n2, m1, m2, hq, hH⟩ := id I
  obtain ⟨d, rfl⟩ : ∃ d, D = d + 1 := ⟨D - 1, by omega⟩
  have c1 := need_names_ok (D := d) (by omega) (m : Int) (by omega) (by omega) M
  have c2 := need_sum_ok (D := d) (n := m) (by omega) (by omega) q hq M
  have c3 := need_high_ok (D := d) (n := n) (m := m) (by omega) n1 (by omega) (by omega) H hH M
  rcases hv with ⟨w, rfl, hw⟩ | ⟨y, rfl, hy⟩
  · refine ⟨"weights", ?_, _, rfl⟩
    have f := need_form_ok (D := d) (by omega) "weights" (mkR n w) (.inl rfl) M
    have a := are_weights_ok (D := d) (by omega) I hw M
    rw [call_eq (fn := ⟨4, 4, t33⟩) rfl rfl]
    simp [t33, c1, c2, c3, f, a, fin_same]
  · refine ⟨"lags", ?_, _, rfl⟩
    have f := need_form_ok (D := d) (by omega) "lags" (mkR m y) (.inr rfl) M
    have a := are_lags_above_ok (D := d) (by omega) I hy M
    rw [call_eq (fn := ⟨4, 4, t33⟩) rfl rfl]
    simp [t33, c1, c2, c3, f, a, fin_same]
theorem worth_ok {D : Nat} (h : 4 ≤ D) (m1 : 1 ≤ m) (m2 : m ≤ 6) (hq : ∀ k, k < m → ItemOk (q k)) (y : Nat → Int) (hy : ∀ k, k < m → 0 ≤ y k) (M : Mem) : callF Tn D 35 [.int (m : Int), rowT m q, rowT m y] M = some (.int (sumN m fun k => q k * y k), M) := by
  refine call_rt (fn := ⟨3, 3, t35⟩) (k := 3) h rfl rfl fun d hd => ?_
  have c1 := need_names_ok (D := d) (by omega) (m : Int) (by omega) (by omega) M
  have c2 := need_sum_ok (D := d) (n := m) (by omega) (by omega) q hq M
  have c3 : callF Tn d 34 [.int (m : Int), rowT m y] M = some (.non, M) := by
    refine call_nx (fn := ⟨2, 2, t34⟩) (k := 2) (by omega) rfl rfl fun d hd => ⟨[.val (.int m), .val (rowT m y)], ?_⟩
    obtain ⟨c, e, hc⟩ := are_whole_ok (n := m) hd y m 0 none M (by omega)
    have : c = true := hc.mpr ⟨rfl, fun i hi => by simp [inB, hy i hi]⟩
    subst this
    simp only [optI] at e
    simp [t34, e]
  have p := product_ok (D := d) (n := m) (by omega) q y M (fun k hk => small_item (hq k hk)) (by omega)
  simp [t35, c1, c2, c3, p]
end
end K02
end
section -- P12
namespace Ev
open PySem
abbrev Okd (s : Str) (k : Nat) : Prop := PyData.strOk s = true ∧ s.length ≤ k
theorem ok_app {x y : Str} {j k : Nat} (hx : Okd x j) (hy : Okd y k) : Okd (x ++ y) (j + k) := by
  refine ⟨?_, by rw [strLen_append]; exact Nat.add_le_add hx.2 hy.2⟩
  have h1 := hx.1
  have h2 := hy.1
  unfold PyData.strOk at *
  show (x.cps ++ y.cps).all _ = true
  rw [Array.all_append, h1, h2]
  rfl
theorem ok_ofString {s : String} {k : Nat} (h : (Str.ofString s).length ≤ k) : Okd (Str.ofString s) k := by
  refine ⟨?_, h⟩
  unfold PyData.strOk
  rw [Str.ofString_eq_toList]
  simp only [List.all_toArray, List.all_map, List.all_eq_true, Function.comp, decide_eq_true_eq]
  intro c _
  have := c.valid
  have : c.toNat < 0x110000 := by
    rcases c.valid with h | h
    · exact Nat.lt_trans h (by decide)
    · exact h.2
  exact this
theorem ok_join {sep : Str} {c k : Nat} (hs : Okd sep c) : ∀ {ts : List Str}, (∀ t ∈ ts, Okd t k) → Okd (Str.join sep ts) (ts.length * (k + c))
  | [], _ => ⟨show PyData.strOk Str.empty = true by decide +kernel, Nat.zero_le _⟩
  | [x], h => by
    obtain ⟨h1, h2⟩ := h x List.mem_cons_self
    refine ⟨h1, ?_⟩
    show x.length ≤ _
    simp
    omega
  | x :: y :: r, h => by
    have ih := ok_join hs (ts := y :: r) fun t ht => h t (List.mem_cons_of_mem _ ht)
    have := ok_app (ok_app (h x List.mem_cons_self) hs) ih
    refine ⟨this.1, Nat.le_trans this.2 (Nat.le_of_eq ?_)⟩
    simp only [List.length_cons, Nat.add_mul, Nat.one_mul]
    omega
theorem ok_tuple {k : Nat} {ts : List Str} (h : ∀ t ∈ ts, Okd t k) : Okd (tupleText ts) (ts.length * (k + 2) + 3) := by
  have e1 : Okd ("(" : Str) 1 := ⟨by decide +kernel, by decide +kernel⟩
  have e2 : Okd (", " : Str) 2 := ⟨by decide +kernel, by decide +kernel⟩
  have e3 : Okd ((if ts.length == 1 then ",)" else ")" : String) : Str) 2 := by
    split
    · exact ⟨by decide +kernel, by decide +kernel⟩
    · exact ⟨by decide +kernel, by decide +kernel⟩
  have := ok_app (ok_app e1 (ok_join e2 h)) e3
  exact ⟨this.1, Nat.le_trans this.2 (by omega)⟩
theorem ok_int {i : Int} (h : i.natAbs.log2 < 1920) : Okd (toD (.int i)).shown 1921 := by
  show Okd (PyData.int i).shown 1921
  rw [PyData.shown]
  exact ok_ofString (PyProof.Rows.int_text_len_1921 h)
theorem shownAll_eq (xs : List PyData) : PyData.shownAll xs = xs.map PyData.shown := by
  induction xs with
  | nil => rw [PyData.shownAll] <;> rfl
  | cons x xs ih => rw [PyData.shownAll, ih] <;> rfl
theorem showableAll_eq (xs : List PyData) : PyData.showableAll xs = xs.all PyData.showable := by
  induction xs with
  | nil => rw [PyData.showableAll] <;> rfl
  | cons x xs ih => rw [PyData.showableAll, ih] <;> rfl
theorem ok_tup {k : Nat} {xs : List PV} (h : ∀ x ∈ xs, Okd (toD x).shown k ∧ (toD x).showable = true) : Okd (toD (.tup xs)).shown (xs.length * (k + 2) + 3) ∧ (toD (.tup xs)).showable = true := by
  have e : toD (.tup xs) = .tuple (xs.map toD) := by rw [toD, toDs_eq]
  rw [e]
  constructor
  · rw [PyData.shown, shownAll_eq]
    have := ok_tuple (k := k) (ts := (xs.map toD).map PyData.shown) fun t ht => by
      obtain ⟨d, hd, rfl⟩ := List.mem_map.mp ht
      obtain ⟨x, hx, rfl⟩ := List.mem_map.mp hd
      exact (h x hx).1
    rw [List.length_map, List.length_map] at this
    exact this
  · rw [PyData.showable, showableAll_eq, List.all_eq_true]
    intro d hd
    obtain ⟨x, hx, rfl⟩ := List.mem_map.mp hd
    exact (h x hx).2
/-- a told pair of a word and numbers: repr can be taken -/
theorem repr_pair (a : Str) (n : Nat) (f : Nat → Int) (M : Mem) (ha : Okd (PyData.str a).shown 100) (hz : PyData.strOk a = true) (hn : n ≤ 1000) (hf : ∀ i, i < n → (f i).natAbs.log2 < 1920) :
    ∃ s, biV M .reprOf [.tup [.str a, .tup ((List.range n).map fun j => .int (f j))]] = some (.str s) ∧ PyData.strOk s = true := by
  have h1 := ok_tup (k := 1921) (xs := (List.range n).map fun j => PV.int (f j)) fun x hx => by
    obtain ⟨j, hj, rfl⟩ := List.mem_map.mp hx
    have := hf j (List.mem_range.mp hj)
    refine ⟨ok_int this, ?_⟩
    show (PyData.int (f j)).showable = true
    rw [PyData.showable]
    exact decide_eq_true this
  have h2 := ok_tup (k := 1923003) (xs := [.str a, .tup ((List.range n).map fun j => .int (f j))]) fun x hx => by
    rcases List.mem_cons.mp hx with rfl | hx
    · refine ⟨⟨ha.1, Nat.le_trans ha.2 (by decide)⟩, ?_⟩
      show (PyData.str a).showable = true
      rw [PyData.showable]
    · obtain rfl := List.mem_singleton.mp hx
      refine ⟨⟨h1.1.1, Nat.le_trans h1.1.2 ?_⟩, h1.2⟩
      rw [List.length_map, List.length_range]
      omega
  have hd : isD 60 (.tup [.str a, .tup ((List.range n).map fun j => .int (f j))]) = true := by
    have : ((List.range n).map fun j => PV.int (f j)).all (isD 58) = true := by
      rw [List.all_eq_true]
      intro x hx
      obtain ⟨j, _, rfl⟩ := List.mem_map.mp hx
      rfl
    show (isD 59 (.str a) && (isD 59 (.tup ((List.range n).map fun j => .int (f j))) && true)) = true
    rw [show isD 59 (.tup ((List.range n).map fun j => .int (f j))) = true from this, show isD 59 (.str a) = true from hz]
    rfl
  refine ⟨_, ?_, h2.1.1⟩
  have h3 : (toD (.tup [.str a, .tup ((List.range n).map fun j => .int (f j))])).shown.length ≤ sizeLine := Nat.le_trans h2.1.2 (by rw [Ev.sizeLine_eq]; simp)
  rw [bi_repr, hd, h2.2, decide_eq_true h3]
  rfl
end Ev
end
section -- P13
namespace Ev
open PySem Sx
theorem fin_len {M M' : Mem} {v : PV} (h : M'.length = M.length) : fin M v M' = some (v, M') := by
  unfold fin
  rw [← h, List.take_length]
  split
  · rename_i e
    rw [e.1]
  · rfl
theorem call_rt1 {T : Nat → Option Fn} {d f : Nat} {fn : Fn} {args : List PV} {M M' : Mem} {v : PV} (h : T f = some fn) (hl : args.length = fn.np) (hm : M'.length = M.length) (hb : evS (callF T d) fn.body (args.map .val ++ List.replicate (fn.ns - fn.np) .non) M = some (.rt v M')) : callF T (d + 1) f args M = some (v, M') := by
  rw [call_eq h hl, hb]
  exact fin_len hm
/-- the store of a draw -/
def dM (c : List PV) (a l u : Int) : Mem := [.lst c, .dct [.str "cells", .str "at", .str "left", .str "used"] [.ref 0, .int a, .int l, .int u]]
section
variable (c : List PV) (a l u x : Int)
theorem dM_len : (dM c a l u).length = 2 := rfl
theorem d_cells : idxV (dM c a l u) (.ref 1) (.str "cells") = some (.ref 0) := by kernel_rfl
theorem d_at : idxV (dM c a l u) (.ref 1) (.str "at") = some (.int a) := by kernel_rfl
theorem d_left : idxV (dM c a l u) (.ref 1) (.str "left") = some (.int l) := by kernel_rfl
theorem d_used : idxV (dM c a l u) (.ref 1) (.str "used") = some (.int u) := by kernel_rfl
theorem d_cell : idxV (dM c a l u) (.ref 0) (.int x) = at? c x := rfl
theorem d_len : biV (dM c a l u) .len [.ref 0] = some (.int c.length) := rfl
theorem d_set_at : setItemV (dM c a l u) (.ref 1) (.str "at") (.int x) = some (dM c x l u) := by kernel_rfl
theorem d_set_left : setItemV (dM c a l u) (.ref 1) (.str "left") (.int x) = some (dM c a x u) := by kernel_rfl
theorem d_set_used : setItemV (dM c a l u) (.ref 1) (.str "used") (.int x) = some (dM c a l x) := by kernel_rfl
theorem asg_ref (cf : CallF) (v : PV) (k : E) (j : Nat) (ρ : Slots) (M : Mem) : asgT cf v (.idx (.var 0) k) (.val (.ref j) :: ρ) M = bnd (evE cf k (.val (.ref j) :: ρ) M) fun kv M1 => (setItemV M1 (.ref j) kv v).map (.val (.ref j) :: ρ, ·) := rfl
end
theorem dM_noLst (ns : List Int) (a l u : Int) : (dM (ns.map .int) a l u).all moNoLst = true := by
  have : (ns.map PV.int).all (noLst 60) = true := by
    rw [List.all_eq_true]
    intro x hx
    obtain ⟨i, _, rfl⟩ := List.mem_map.mp hx
    rfl
  show ((ns.map PV.int).all (noLst 60) && _) = true
  rw [this]
  rfl
end Ev
namespace K02
open PySem Ev Sx
open Classical
/-- a draw; how much it has used -/
def Dr (B : Nat) (M : Mem) : Prop := ∃ (ns : List Int) (a l u : Int), M = dM (ns.map .int) a l u ∧ ns ≠ [] ∧ 0 ≤ a ∧ 0 ≤ l ∧ 0 ≤ u ∧ u ≤ B
theorem Dr.len {B : Nat} {M : Mem} (h : Dr B M) : M.length = 2 := by
  obtain ⟨ns, a, l, u, rfl, _⟩ := h
  rfl
theorem Dr.mono {B C : Nat} {M : Mem} (h : Dr B M) (hc : B ≤ C) : Dr C M := by
  obtain ⟨ns, a, l, u, e, h1, h2, h3, h4, h5⟩ := h
  exact ⟨ns, a, l, u, e, h1, h2, h3, h4, by omega⟩
theorem Dr.noL {B : Nat} {M : Mem} (h : Dr B M) : M.all moNoLst = true := by
  obtain ⟨ns, a, l, u, rfl, _⟩ := h
  exact dM_noLst ns a l u
theorem next_ok {D B : Nat} (h : 1 ≤ D) {M : Mem} (S : Dr B M) (hB : B < 1000000) (k : Int) (h1 : 1 ≤ k) (h2 : k ≤ 10000000) : ∃ r M', callF Tn D 17 [.ref 1, .int k] M = some (.int r, M') ∧ 0 ≤ r ∧ r < k ∧ Dr (B + 1) M' := by
  obtain ⟨ns, a, l, u, rfl, hne, ha, hl, hu, huB⟩ := S
  obtain ⟨d, rfl⟩ : ∃ d, D = d + 1 := ⟨D - 1, by omega⟩
  have k0 : 0 < k := by omega
  have kl : k.natAbs.log2 < 9000 := by
    have := log2_lt (n := k.natAbs) (k := 30) (by omega) (by decide)
    omega
  have mm : ∀ x : Int, 0 ≤ x % k ∧ x % k < k := fun x => ⟨Int.emod_nonneg x (by omega), Int.emod_lt_of_pos x k0⟩
  by_cases hl0 : 0 < l
  · refine ⟨l % k, dM (ns.map .int) a (l / k) u, call_rt1 (fn := ⟨2, 6, t17⟩) rfl rfl rfl ?_, (mm l).1, (mm l).2, ns, a, l / k, u, rfl, hne, ha, Int.ediv_nonneg hl (by omega), hu, by omega⟩
    simp [t17, d_left, hl0, asg_ref, d_set_left, k0, kl]
  · obtain rfl : l = 0 := by omega
    have lp : 0 < ns.length := List.length_pos_iff.mpr hne
    have len0 : (0 : Int) < (ns.length : Int) := by omega
    obtain ⟨cell, hcell⟩ : ∃ x : Int, at? (ns.map PV.int) (a % (ns.length : Int)) = some (.int x) := by
      have e1 := Int.emod_nonneg a (b := (ns.length : Int)) (by omega)
      have e2 := Int.emod_lt_of_pos a len0
      obtain ⟨i, hi⟩ : ∃ i : Nat, a % (ns.length : Int) = (i : Int) := ⟨(a % (ns.length : Int)).toNat, by omega⟩
      rw [hi, at_nat (by rw [List.length_map]; omega)]
      have : i < ns.length := by omega
      exact ⟨ns[i], by simp [this]⟩
    have l7 : Nat.log2 7 < 9000 := Nat.lt_trans (log2_lt (n := 7) (k := 30) (by decide) (by decide)) (by decide)
    have mo : mulOk (7919 * (u + 1)) (u + 1) = true := mulOk_r (by omega)
    have mo0 : ∀ y : Int, mulOk 7919 y = true := fun y => mulOk_l (by decide)
    have mo1 : ∀ y : Int, mulOk 31 y = true := fun y => mulOk_l (by decide)
    have mo2 : ∀ y : Int, mulOk y 48271 = true := fun y => mulOk_r (by decide)
    have mo3 : ∀ y : Int, mulOk 2 y = true := fun y => mulOk_l (by decide)
    have mo4 : ∀ x y : Int, mulOk (x % 2147483647) y = true := fun x y => mulOk_l (by
      have e1 := Int.emod_nonneg x (b := 2147483647) (by decide)
      have e2 := Int.emod_lt_of_pos x (b := 2147483647) (by decide)
      omega)
    by_cases c1 : 1000000000000000000 ≤ cell ∧ a + 1 ≤ (ns.length : Int)
    · refine ⟨cell % k, dM (ns.map .int) (a + 1) (cell / k) u, call_rt1 (fn := ⟨2, 6, t17⟩) rfl rfl rfl ?_, (mm cell).1, (mm cell).2, ns, a + 1, cell / k, u, rfl, hne, by omega, Int.ediv_nonneg (by omega) (by omega), hu, by omega⟩
      simp [t17, d_left, d_cells, d_at, d_len, d_cell, hcell, lp, asg_ref, d_set_left, d_set_at, k0, kl, c1.1, c1.2]
    · have big : ∃ r, evS (callF Tn d) t17 [.val (.ref 1), .val (.int k), .non, .non, .non, .non] (dM (ns.map .int) a 0 u) = some (.rt (.int (r % k)) (dM (ns.map .int) (a + 1) 0 (u + 1))) := by
        have c2 : 1000000000000000000 ≤ cell → ¬ a + 1 ≤ (ns.length : Int) := fun p q => c1 ⟨p, q⟩
        by_cases c3 : 1000000000000000000 ≤ cell
        · have c4 := c2 c3
          simp [t17, d_left, d_cells, d_at, d_used, d_len, d_cell, hcell, lp, asg_ref, d_set_left, d_set_at, d_set_used, k0, kl, c3, c4, mo, mo0, mo1, mo2, mo3, mo4, l7]
          exact ⟨_, rfl⟩
        · simp [t17, d_left, d_cells, d_at, d_used, d_len, d_cell, hcell, lp, asg_ref, d_set_left, d_set_at, d_set_used, k0, kl, c3, mo, mo0, mo1, mo2, mo3, mo4, l7]
          exact ⟨_, rfl⟩
      obtain ⟨r, hr⟩ := big
      exact ⟨r % k, dM (ns.map .int) (a + 1) 0 (u + 1), call_rt1 (fn := ⟨2, 6, t17⟩) rfl rfl rfl hr, (mm r).1, (mm r).2, ns, a + 1, 0, u + 1, rfl, hne, by omega, by omega, by omega, by omega⟩
end K02
end
section -- P14
namespace Ev
open PySem Sx
/-- a comprehension with traces -/
theorem comp_tr {tg : E} {cond elt : Slots → Mem → R PV} {ρ : Slots} (enc : Nat → PV) (st : Nat → Slots) (Inv : Nat → Mem → Prop) (P : Nat → PV → Prop) {N : Nat}
    (h : ∀ i, i < N → setTg tg (enc i) ρ = some (st i) ∧ ∀ M, Inv i M → cond (st i) M = some (.bl true, M) ∧ ∃ v M', elt (st i) M = some (v, M') ∧ P i v ∧ Inv (i + 1) M') :
    ∀ (n s : Nat) (acc : List PV) (M : Mem), s + n = N → acc.length + n ≤ sizeLine → Inv s M → ∃ vs M', compL tg cond elt ρ ((List.range' s n).map enc) acc M = some (acc ++ vs, M') ∧ vs.length = n ∧ (∀ i (hi : i < vs.length), P (s + i) vs[i]) ∧ Inv N M'
  | 0, s, acc, M, hs, hl, I => ⟨[], M, by simp [compL], rfl, fun i hi => absurd hi (Nat.not_lt_zero _), by rw [← hs]; exact I⟩
  | n + 1, s, acc, M, hs, hl, I => by
    obtain ⟨h1, h2⟩ := h s (by omega)
    obtain ⟨h3, v, M1, h4, p, I1⟩ := h2 M I
    obtain ⟨vs, M', e, hv, hp, I'⟩ := comp_tr enc st Inv P h n (s + 1) (acc ++ [v]) M1 (by omega) (by rw [List.length_append]; simp; omega) I1
    refine ⟨v :: vs, M', ?_, by simp [hv], fun i hi => ?_, I'⟩
    · rw [List.range'_succ, List.map_cons, compL, h1]
      simp only [Option.bind_some, h3, h4, bnd_some]
      rw [if_pos (by omega), e, List.append_assoc]
      rfl
    · cases i with
      | zero => exact p
      | succ i =>
        have := hp i (by simpa using hi)
        rw [show s + (i + 1) = s + 1 + i by omega]
        exact this
theorem comp_trF {α : Type} [Inhabited α] {tg : E} {cond elt : Slots → Mem → R PV} {ρ : Slots} {n : Nat} (enc : Nat → PV) (st : Nat → Slots) (Inv : Nat → Mem → Prop) (dec : α → PV) (P : Nat → α → Prop)
    (h : ∀ i, i < n → setTg tg (enc i) ρ = some (st i) ∧ ∀ M, Inv i M → cond (st i) M = some (.bl true, M) ∧ ∃ v M', elt (st i) M = some (dec v, M') ∧ P i v ∧ Inv (i + 1) M') {M : Mem} (I : Inv 0 M) (hn : n ≤ sizeLine) :
    ∃ (f : Nat → α) (M' : Mem), compL tg cond elt ρ (mk n enc) [] M = some (mk n fun i => dec (f i), M') ∧ (∀ i, i < n → P i (f i)) ∧ Inv n M' := by
  obtain ⟨vs, M', e, hv, hp, I'⟩ := comp_tr enc st Inv (fun i v => ∃ a, v = dec a ∧ P i a) (N := n) (tg := tg) (cond := cond) (elt := elt) (ρ := ρ) (fun i hi => by
    obtain ⟨h1, h2⟩ := h i hi
    refine ⟨h1, fun M I => ?_⟩
    obtain ⟨h3, v, M', h4, p, I'⟩ := h2 M I
    exact ⟨h3, dec v, M', h4, ⟨v, rfl, p⟩, I'⟩) n 0 [] M (by omega) (by simpa using hn) I
  have ex : ∀ i, ∃ a : α, ∀ hi : i < vs.length, vs[i] = dec a ∧ P i a := fun i => by
    by_cases hi : i < vs.length
    · obtain ⟨a, ha, hb⟩ := hp i hi
      rw [Nat.zero_add] at hb
      exact ⟨a, fun _ => ⟨ha, hb⟩⟩
    · exact ⟨default, fun h => absurd h hi⟩
  have ⟨f, hf⟩ := Classical.skolem.mp ex
  refine ⟨f, M', ?_, fun i hi => (hf i (by omega)).2, I'⟩
  unfold mk
  rw [List.range_eq_range', e, List.nil_append]
  congr 2
  refine List.ext_getElem (by simp [hv]) fun i h1 h2 => ?_
  simp [(hf i h1).1]
end Ev
namespace K02
open PySem Ev Sx
open Classical
/-- how a drawing def answers -/
theorem sum_ok {D B : Nat} (h : 2 ≤ D) {M : Mem} (S : Dr B M) (hB : B < 900000) (m : Nat) (most : Int) (m2 : m ≤ 6) (h0 : 0 ≤ most) (h1 : most ≤ 1000000) : ∃ q M', callF Tn D 18 [.ref 1, .int (m : Int), .int most] M = some (rowT m q, M') ∧ (∀ k, k < m → 0 ≤ q k ∧ q k ≤ most) ∧ Dr (B + 12) M' := by
  obtain ⟨d, rfl⟩ : ∃ d, D = d + 1 := ⟨D - 1, by omega⟩
  have smm := smallI_nat (n := m) (by omega)
  obtain ⟨q, M', e, hq, S'⟩ := comp_trF (n := m) (tg := .var 3) (cond := evE (callF Tn d) (.cst (.bl true))) (elt := evE (callF Tn d) (.ite (.cmp .gt (.call 17 (.cons (.var 0) (.cons (.cst (.int (3))) .nil))) (.cst (.int (0)))) (.call 17 (.cons (.var 0) (.cons (.bin .add (.var 2) (.cst (.int (1)))) .nil))) (.cst (.int (0))))) (ρ := [.val (.ref 1), .val (.int (m : Int)), .val (.int most), .non])
    (fun i => .int (i : Int)) (fun i => [.val (.ref 1), .val (.int (m : Int)), .val (.int most), .val (.int (i : Int))]) (fun i M => Dr (B + 2 * i) M) PV.int (fun _ x => 0 ≤ x ∧ x ≤ most) (fun i hi => ⟨by simp, fun M S => by
    obtain ⟨r, M1, e1, r1, r2, S1⟩ := next_ok (D := d) (by omega) S (by omega) 3 (by omega) (by omega)
    by_cases hr : 0 < r
    · obtain ⟨x, M2, e2, x1, x2, S2⟩ := next_ok (D := d) (by omega) S1 (by omega) (most + 1) (by omega) (by omega)
      exact ⟨by simp, x, M2, by simp [e1, hr, e2], ⟨x1, by omega⟩, S2.mono (by omega)⟩
    · exact ⟨by simp, 0, M1, by simp [e1, hr], ⟨by omega, h0⟩, S1.mono (by omega)⟩⟩) (M := M) S (by rw [Ev.sizeLine_eq]; omega)
  refine ⟨_, M', call_rt1 (fn := ⟨3, 4, t18⟩) (M' := M') rfl rfl (S'.len.trans S.len.symm) ?_, hq, S'.mono (by omega)⟩
  simp [t18, smm, range_nat, e]
theorem tops_ok {D B : Nat} (h : 3 ≤ D) {M : Mem} (S : Dr B M) (hB : B < 800000) (m : Nat) (most : Int) (m2 : m ≤ 6) (h0 : 0 ≤ most) (h1 : most ≤ 1000000) : ∃ n H M', callF Tn D 19 [.ref 1, .int (m : Int), .int 9, .int most] M = some (highT n m H, M') ∧ (1 ≤ n ∧ n ≤ 9) ∧ (∀ j, j < n → ∀ k, k < m → 0 ≤ H j k ∧ H j k ≤ most) ∧ Dr (B + 109) M' := by
  obtain ⟨d, rfl⟩ : ∃ d, D = d + 1 := ⟨D - 1, by omega⟩
  obtain ⟨r, M1, e1, r1, r2, S1⟩ := next_ok (D := d) (by omega) S (by omega) 9 (by omega) (by omega)
  obtain ⟨n, hn⟩ : ∃ n : Nat, 1 + r = (n : Int) := ⟨(1 + r).toNat, by omega⟩
  have smm := smallI_nat (n := n) (by omega)
  obtain ⟨H, M', e, hq, S'⟩ := comp_trF (n := n) (tg := .var 4) (cond := evE (callF Tn d) (.cst (.bl true))) (elt := evE (callF Tn d) (.call 18 (.cons (.var 0) (.cons (.var 1) (.cons (.var 3) .nil))))) (ρ := [.val (.ref 1), .val (.int (m : Int)), .val (.int 9), .val (.int most), .non])
    (fun i => .int (i : Int)) (fun i => [.val (.ref 1), .val (.int (m : Int)), .val (.int 9), .val (.int most), .val (.int (i : Int))]) (fun i M => Dr (B + 1 + 12 * i) M) (fun q : Nat → Int => rowT m q) (fun _ q => ∀ k, k < m → 0 ≤ q k ∧ q k ≤ most) (fun i hi => ⟨by simp, fun M S => by
    obtain ⟨q, M2, e2, x1, S2⟩ := sum_ok (D := d) (by omega) S (by omega) m most m2 h0 h1
    exact ⟨by simp, q, M2, by simp [e2], x1, S2.mono (by omega)⟩⟩) (M := M1) S1 (by rw [Ev.sizeLine_eq]; omega)
  refine ⟨n, H, M', call_rt1 (fn := ⟨4, 5, t19⟩) (M' := M') rfl rfl (S'.len.trans S.len.symm) ?_, ⟨by omega, by omega⟩, hq, S'.mono (by omega)⟩
  simp [t19, e1, hn, smm, range_nat, e]
theorem pick_ok {D B : Nat} (h : 2 ≤ D) {M : Mem} (S : Dr B M) (hB : B < 900000) (xs : List PV) (v : PV) (hv : v = .tup xs ∨ v = .lst xs) (h1 : 1 ≤ xs.length) (h2 : xs.length ≤ 1000) : ∃ x M', callF Tn D 20 [.ref 1, v] M = some (x, M') ∧ x ∈ xs ∧ Dr (B + 1) M' := by
  obtain ⟨d, rfl⟩ : ∃ d, D = d + 1 := ⟨D - 1, by omega⟩
  obtain ⟨r, M1, e1, r1, r2, S1⟩ := next_ok (D := d) (by omega) S (by omega) (xs.length : Int) (by omega) (by omega)
  obtain ⟨i, rfl⟩ : ∃ i : Nat, r = (i : Int) := ⟨r.toNat, by omega⟩
  have hi : i < xs.length := by omega
  have ha : at? xs (i : Int) = some xs[i] := by rw [at_nat hi]; simp [hi]
  refine ⟨xs[i], M1, call_rt1 (fn := ⟨2, 2, t20⟩) rfl rfl (S1.len.trans S.len.symm) ?_, List.getElem_mem hi, S1⟩
  rcases hv with rfl | rfl <;> simp [t20, e1, ha]
end K02
end
section -- P15
namespace K02
open PySem Ev Sx
open Classical
theorem mean_ok {D B : Nat} (h : 2 ≤ D) {M : Mem} (S : Dr B M) (hB : B < 900000) {n m : Nat} {H : Nat → Nat → Int} (n1 : 1 ≤ n) (n2 : n ≤ 9) (m1 : 1 ≤ m) (m2 : m ≤ 6) (hH : ∀ j, j < n → ∀ k, k < m → ItemOk (H j k)) : ∃ q M', callF Tn D 21 [.ref 1, .int (m : Int), highT n m H] M = some (rowT m q, M') ∧ (∀ k, k < m → 0 ≤ q k) ∧ Dr (B + 11) M' := by
  obtain ⟨d, rfl⟩ : ∃ d, D = d + 1 := ⟨D - 1, by omega⟩
  have smm := smallI_nat (n := m) (by omega)
  obtain ⟨p, M1, e1, hp, S1⟩ := comp_trF (n := n) (tg := .var 7) (cond := evE (callF Tn d) (.cst (.bl true))) (elt := evE (callF Tn d) (.call 17 (.cons (.var 0) (.cons (.cst (.int (3))) .nil)))) (ρ := [.val (.ref 1), .val (.int (m : Int)), .val (highT n m H), .non, .non, .non, .non, .non, .non])
    (fun j => rowT m (H j)) (fun j => [.val (.ref 1), .val (.int (m : Int)), .val (highT n m H), .non, .non, .non, .non, .val (rowT m (H j)), .non]) (fun i M => Dr (B + i) M) PV.int (fun _ x => 0 ≤ x ∧ x ≤ 2) (fun i hi => ⟨by simp, fun M S => by
      obtain ⟨r, M1, e1, r1, r2, S1⟩ := next_ok (D := d) (by omega) S (by omega) 3 (by omega) (by omega)
      exact ⟨by simp, r, M1, by simp [e1], ⟨r1, by omega⟩, S1⟩⟩) (M := M) S (by rw [Ev.sizeLine_eq]; omega)
  have w0 : 0 ≤ sumN n p := sumN_nonneg n fun i hi => (hp i hi).1
  have w1 : (sumN n p).natAbs ≤ n * 2 := sumN_bound 2 n fun i hi => by
    have := hp i hi
    omega
  obtain ⟨wh, hwh⟩ : ∃ wh : Int, (if sumN n p > 1 then sumN n p else 1) = wh := ⟨_, rfl⟩
  have wh1 : 0 < wh ∧ wh ≤ 100 := by
    rw [← hwh]
    split <;> omega
  have whl : wh.natAbs.log2 < 9000 := Nat.lt_trans (log2_lt (n := wh.natAbs) (k := 30) (by omega) (by decide)) (by decide)
  have cm := comp_mk (n := m) (tg := .var 6) (cond := evE (callF Tn d) (.cst (.bl true))) (elt := evE (callF Tn d) (.bin .fdiv (.bi .sum (.cons (.comp (.bin .mul (.idx (.var 7) (.var 6)) (.var 8)) (.zip (.var 2) (.var 3)) (.cst (.bl true)) (.tup (.cons (.var 7) (.cons (.var 8) .nil))) [7, 8]) .nil)) (.bi .max2 (.cons (.cst (.int (1))) (.cons (.var 4) .nil))))) (ρ := [.val (.ref 1), .val (.int (m : Int)), .val (highT n m H), .val (rowL n p), .val (.int (sumN n p)), .non, .non, .non, .non]) (M := M1)
    (fun k => .int (k : Int)) (fun k => .int ((sumN n fun j => H j k * p j) / wh)) (fun k => [.val (.ref 1), .val (.int (m : Int)), .val (highT n m H), .val (rowL n p), .val (.int (sumN n p)), .non, .val (.int (k : Int)), .non, .non]) (fun k hk => by
      have c2 := comp_mk (n := n) (tg := .tup (.cons (.var 7) (.cons (.var 8) .nil))) (cond := evE (callF Tn d) (.cst (.bl true))) (elt := evE (callF Tn d) (.bin .mul (.idx (.var 7) (.var 6)) (.var 8))) (ρ := [.val (.ref 1), .val (.int (m : Int)), .val (highT n m H), .val (rowL n p), .val (.int (sumN n p)), .non, .val (.int (k : Int)), .non, .non]) (M := M1)
        (fun j => PV.tup [rowT m (H j), .int (p j)]) (fun j => .int (H j k * p j)) (fun j => [.val (.ref 1), .val (.int (m : Int)), .val (highT n m H), .val (rowL n p), .val (.int (sumN n p)), .non, .val (.int (k : Int)), .val (rowT m (H j)), .val (.int (p j))]) (fun j hj => by
          have : at? (mkR m (H j)) (k : Int) = some (.int (H j k)) := at_mk hk
          simp [this, mulOk_l (small_item (hH j hj k hk))]) (by rw [Ev.sizeLine_eq]; omega)
      have hwh' : (if 1 < sumN n p then sumN n p else 1) = wh := hwh
      simp [zip_mk, c2, ints_mk, sum_mk, hwh', wh1.1, whl]) (by rw [Ev.sizeLine_eq]; omega)
  obtain ⟨r, M2, e2, r1, r2, S2⟩ := next_ok (D := d) (by omega) S1 (by omega) (m : Int) (by omega) (by omega)
  obtain ⟨a, rfl⟩ : ∃ a : Nat, r = (a : Int) := ⟨r.toNat, by omega⟩
  have ha : a < m := by omega
  obtain ⟨x, M3, e3, x1, x2, S3⟩ := next_ok (D := d) (by omega) S2 (by omega) 3 (by omega) (by omega)
  obtain ⟨g, hg⟩ : ∃ g : Nat → Int, g = fun k => (sumN n fun j => H j k * p j) / wh := ⟨_, rfl⟩
  have cm' : compL (.var 6) (evE (callF Tn d) (.cst (.bl true))) (evE (callF Tn d) (.bin .fdiv (.bi .sum (.cons (.comp (.bin .mul (.idx (.var 7) (.var 6)) (.var 8)) (.zip (.var 2) (.var 3)) (.cst (.bl true)) (.tup (.cons (.var 7) (.cons (.var 8) .nil))) [7, 8]) .nil)) (.bi .max2 (.cons (.cst (.int (1))) (.cons (.var 4) .nil))))) [.val (.ref 1), .val (.int (m : Int)), .val (highT n m H), .val (rowL n p), .val (.int (sumN n p)), .non, .non, .non, .non] (mk m fun k => .int (k : Int)) [] M1 = some (mkR m g, M1) := by rw [hg]; exact cm
  obtain ⟨v, hv⟩ : ∃ v : Int, (if g a + x - 1 > 0 then g a + x - 1 else 0) = v := ⟨_, rfl⟩
  have v0 : 0 ≤ v := by
    rw [← hv]
    split <;> omega
  have ag : at? (mkR m g) (a : Int) = some (.int (g a)) := at_mk ha
  refine ⟨up g a v, M3, call_rt1 (fn := ⟨3, 9, t21⟩) (M' := M3) rfl rfl (S3.len.trans S.len.symm) ?_, fun k hk => ?_, S3.mono (by omega)⟩
  · have ow := asg_own (callF Tn d) [.val (.ref 1), .val (.int (m : Int)), .val (highT n m H), .val (rowL n p), .val (.int (sumN n p)), .own (mkR m g), .val (.int (a : Int)), .non, .non] M3 (.int v) 5 (.var 6) (xs := mkR m g) rfl
    have hv' : (if 1 < g a + x then g a + x - 1 else 0) = v := by
      rw [← hv]
      by_cases z : 1 < g a + x
      · rw [if_pos z, if_pos (by omega)]
      · rw [if_neg z, if_neg (by omega)]
    simp [t21, e1, ints_mk, sum_mk, smm, range_nat, cm', e2, ag, e3, hv', ow, lset_mk ha]
  · by_cases e : k = a
    · simp [up, e, v0]
    · simp only [up, if_neg e, hg]
      refine Int.ediv_nonneg (sumN_nonneg n fun j hj => Int.mul_nonneg (hH j hj k hk).1 (hp j hj).1) (by omega)
end K02
end
section -- P16
namespace K02
open PySem Ev Sx
open Classical
theorem amounts_ok {D n : Nat} (h : 1 ≤ D) (y : Nat → Int) (hy : ∀ k, k < n → 0 ≤ y k) (M : Mem) (hn : n ≤ 1000) : callF Tn D 23 [rowT n y, .int (n : Int)] M = some (.bl true, M) := by
  refine call_rt (fn := ⟨2, 3, t23⟩) (k := 0) h rfl rfl fun d _ => ?_
  let st : Nat → Slots := fun i => [.val (rowT n y), .val (.int (n : Int)), match i with
    | 0 => .non
    | i + 1 => .val (.int (y i))]
  have loop := for_mk0 (tg := .var 2) (body := evS (callF Tn d) (match t23 with
    | .cons _ (.cons (.for _ _ b) _) => b
    | s => s)) (M := M) (n := n) (fun i => .int (y i)) st fun i hi => by
    refine ⟨[.val (rowT n y), .val (.int (n : Int)), .val (.int (y i))], by simp [st], ?_⟩
    have : ¬ y i < 0 := by have := hy i hi; omega
    simp only [t23]
    simp [st, this]
  simp only [t23]
  simp
  refine Eq.trans (congrArg (fun z => thenS z _) loop) ?_
  simp
theorem item_sum_ok {D n m : Nat} {H : Nat → Nat → Int} (h : 1 ≤ D) (hH : ∀ j, j < n → ∀ k, k < m → ItemOk (H j k)) (w : Nat → Int) {k : Nat} (hk : k < m) (hn : n ≤ 1000) (M : Mem) : callF Tn D 24 [highT n m H, rowT n w, .int (k : Int)] M = some (.int (sumN n fun j => H j k * w j), M) := by
  refine call_rt (fn := ⟨3, 5, t24⟩) (k := 0) h rfl rfl fun d _ => ?_
  have cm := comp_mk (n := n) (tg := .tup (.cons (.var 3) (.cons (.var 4) .nil))) (cond := evE (callF Tn d) (.cst (.bl true))) (elt := evE (callF Tn d) (.bin .mul (.idx (.var 3) (.var 2)) (.var 4))) (ρ := [.val (highT n m H), .val (rowT n w), .val (.int (k : Int)), .non, .non]) (M := M)
    (fun j => PV.tup [rowT m (H j), .int (w j)]) (fun j => .int (H j k * w j)) (fun j => [.val (highT n m H), .val (rowT n w), .val (.int (k : Int)), .val (rowT m (H j)), .val (.int (w j))]) (fun j hj => by
      have : at? (mkR m (H j)) (k : Int) = some (.int (H j k)) := at_mk hk
      simp [this, mulOk_l (small_item (hH j hj k hk))]) (by rw [Ev.sizeLine_eq]; omega)
  simp [t24, zip_mk, cm, ints_mk, sum_mk]
section
variable {n m : Nat} {q : Nat → Int} {H : Nat → Nat → Int}
theorem law_weights_ok {D : Nat} (h : 2 ≤ D) (I : InOk n m q H) {w : Nat → Int} (W : CovW n m q H w) (M : Mem) : callF Tn D 25 [rowT m q, highT n m H, rowT n w] M = some (.bl true, M) := by
  obtain ⟨n1, n2, m1, m2, hq, hH⟩ := I
  obtain ⟨w1, w2, w3, w4⟩ := W
  refine call_rt (fn := ⟨3, 4, t25⟩) (k := 1) h rfl rfl fun d hd => ?_
  have a := amounts_ok (D := d) hd w w1 M (by omega)
  have ne : ¬ sumN n w = 0 := by omega
  have smm := smallI_nat (n := m) (by omega)
  let st : Nat → Slots := fun i => [.val (rowT m q), .val (highT n m H), .val (rowT n w), match i with
    | 0 => .non
    | i + 1 => .val (.int (i : Int))]
  have loop := for_mk0 (tg := .var 3) (body := evS (callF Tn d) (match t25 with
    | .cons _ (.cons (.for _ _ b) _) => b
    | s => s)) (M := M) (n := m) (fun i => .int (i : Int)) st fun i hi => by
    refine ⟨[.val (rowT m q), .val (highT n m H), .val (rowT n w), .val (.int (i : Int))], by simp [st], ?_⟩
    have e1 : at? (mkR m q) (i : Int) = some (.int (q i)) := at_mk hi
    have e2 := item_sum_ok (D := d) hd hH w hi (by omega) M
    have le : ¬ (sumN n fun j => H j i * w j) < q i * sumN n w := by have := w3 i hi; omega
    simp only [t25]
    simp [st, e1, e2, sum_row, mulOk_l (small_item (hq i hi)), le]
  simp only [t25]
  simp [a, sum_row, ne, smm, range_nat]
  refine Eq.trans (congrArg (fun z => thenS z _) loop) ?_
  simp
theorem law_lags_ok {D : Nat} (h : 2 ≤ D) (I : InOk n m q H) {y : Nat → Int} (Y : CovY n m q H y) (M : Mem) : callF Tn D 26 [.tup [rowT m q], highT n m H, rowT m y] M = some (.bl true, M) := by
  obtain ⟨n1, n2, m1, m2, hq, hH⟩ := I
  obtain ⟨y1, y2, y3⟩ := Y
  refine call_rt (fn := ⟨3, 8, t26⟩) (k := 1) h rfl rfl fun d hd => ?_
  have a := amounts_ok (D := d) hd y y1 M (by omega)
  -- one turn
  have turn : ∀ (N : Nat) (G : Nat → Nat → Int) (ρ : Slots) (s3 s6 s7 : Slot), N ≤ 1000 → (∀ j, j < N → ∀ k, k < m → ItemOk (G j k)) → ρ = [.val (.tup [rowT m q]), .val (highT n m H), .val (rowT m y), s3, .val (highT N m G), .non, s6, s7] →
      compL (.var 5) (evE (callF Tn d) (.cst (.bl true))) (evE (callF Tn d) (.bi .sum (.cons (.comp (.bin .mul (.var 6) (.var 7)) (.zip (.var 5) (.var 2)) (.cst (.bl true)) (.tup (.cons (.var 6) (.cons (.var 7) .nil))) [6, 7]) .nil))) ρ (mk N fun j => rowT m (G j)) [] M = some (mk N fun j => .int (sumN m fun k => G j k * y k), M) := fun N G ρ s3 s6 s7 hN hG hρ => by
    subst hρ
    refine comp_mk (n := N) (fun j => rowT m (G j)) (fun j => .int (sumN m fun k => G j k * y k)) (fun j => [.val (.tup [rowT m q]), .val (highT n m H), .val (rowT m y), s3, .val (highT N m G), .val (rowT m (G j)), s6, s7]) (fun j hj => ?_) (by rw [Ev.sizeLine_eq]; omega)
    have c2 := comp_mk (n := m) (tg := .tup (.cons (.var 6) (.cons (.var 7) .nil))) (cond := evE (callF Tn d) (.cst (.bl true))) (elt := evE (callF Tn d) (.bin .mul (.var 6) (.var 7))) (ρ := [.val (.tup [rowT m q]), .val (highT n m H), .val (rowT m y), s3, .val (highT N m G), .val (rowT m (G j)), .non, .non]) (M := M)
      (fun k => PV.tup [.int (G j k), .int (y k)]) (fun k => .int (G j k * y k)) (fun k => [.val (.tup [rowT m q]), .val (highT n m H), .val (rowT m y), s3, .val (highT N m G), .val (rowT m (G j)), .val (.int (G j k)), .val (.int (y k))]) (fun k hk => by
        simp [mulOk_l (small_item (hG j hj k hk))]) (by rw [Ev.sizeLine_eq]; omega)
    simp [zip_mk, c2, ints_mk, sum_mk]
  obtain ⟨x, ex, hx, j, hj, ej⟩ := max_mk (n := n) (fun j => sumN m fun k => H j k * y k) n1
  have t1 : compL (.var 5) (evE (callF Tn d) (.cst (.bl true))) (evE (callF Tn d) (.bi .sum (.cons (.comp (.bin .mul (.var 6) (.var 7)) (.zip (.var 5) (.var 2)) (.cst (.bl true)) (.tup (.cons (.var 6) (.cons (.var 7) .nil))) [6, 7]) .nil))) [.val (.tup [rowT m q]), .val (highT n m H), .val (rowT m y), .own [], .val (.tup [rowT m q]), .non, .non, .non] [rowT m q] [] M = some ([.int (sumN m fun k => q k * y k)], M) := turn 1 (fun _ => q) _ (.own []) .non .non (by omega) (fun _ _ => hq) rfl
  have t2 := fun s3 => turn n H [.val (.tup [rowT m q]), .val (highT n m H), .val (rowT m y), s3, .val (highT n m H), .non, .non, .non] s3 .non .non (by omega) hH rfl
  have lt : x < sumN m fun k => q k * y k := by
    have := y2 j hj
    omega
  have mx1 : ∀ a, maxL [a] = some a := fun _ => rfl
  have in1 : ∀ a, ints? [.int a] = some [a] := fun _ => rfl
  have z0 : 0 < sizeLine := by rw [Ev.sizeLine_eq]; decide
  have z1 : 1 < sizeLine := by rw [Ev.sizeLine_eq]; decide
  simp [t26, a, t1, t2, es_app, ints_mk, ex, in1, mx1, lt, z0, z1]
theorem law_covered_ok {D : Nat} (h : 7 ≤ D) (I : InOk n m q H) (M : Mem) (hM : M.all moNoLst = true) : (callF Tn D 27 [.int (m : Int), rowT m q, highT n m H] M = some (.bl true, M) ∧ ∃ w, CovW n m q H w) ∨
    (callF Tn D 27 [.int (m : Int), rowT m q, highT n m H] M = some (.bl false, M) ∧ ∃ y, CovY n m q H y) := by
  obtain ⟨d, rfl⟩ : ∃ d, D = d + 1 := ⟨D - 1, by omega⟩
  rcases cover_paper_ok (D := d) (by omega) I M hM with ⟨w, e, hw⟩ | ⟨y, e, hy⟩
  · refine .inl ⟨?_, w, hw⟩
    have a := law_weights_ok (D := d) (by omega) I hw M
    rw [call_eq (fn := ⟨3, 4, t27⟩) rfl rfl]
    simp [t27, e, a, fin_same]
  · refine .inr ⟨?_, y, hy⟩
    have a := law_lags_ok (D := d) (by omega) I hy M
    rw [call_eq (fn := ⟨3, 4, t27⟩) rfl rfl]
    simp [t27, e, a, fin_same]
end
end K02
end
section -- P17
namespace Ev
open PySem Sx
theorem cv_neB (M : Mem) (a b : Bool) : cmpV M .ne (.bl a) (.bl b) = some (!(a == b)) := by
  cases a <;> cases b <;> rfl
theorem for_tr {tg : E} {body : Slots → Mem → Option Out} (enc : Nat → PV) (Q : Nat → Slots → Mem → Prop) {N : Nat} (h : ∀ i, i < N → ∀ ρ M, Q i ρ M → ∃ ρ1 ρ2 M2, setTg tg (enc i) ρ = some ρ1 ∧ body ρ1 M = some (.nx ρ2 M2) ∧ Q (i + 1) ρ2 M2) :
    ∀ (n s : Nat) (ρ : Slots) (M : Mem), s + n = N → Q s ρ M → ∃ ρ' M', forL tg body ((List.range' s n).map enc) ρ M = some (.nx ρ' M') ∧ Q N ρ' M'
  | 0, s, ρ, M, hs, q => ⟨ρ, M, rfl, by rw [← hs]; exact q⟩
  | n + 1, s, ρ, M, hs, q => by
    obtain ⟨ρ1, ρ2, M2, h1, h2, q2⟩ := h s (by omega) ρ M q
    obtain ⟨ρ', M', e, q'⟩ := for_tr enc Q h n (s + 1) ρ2 M2 (by omega) q2
    refine ⟨ρ', M', ?_, q'⟩
    rw [List.range'_succ, List.map_cons, forL_cons, h1, Option.bind_some, h2, thenS_nx]
    exact e
theorem for_tr0 {tg : E} {body : Slots → Mem → Option Out} (enc : Nat → PV) (Q : Nat → Slots → Mem → Prop) {n : Nat} (h : ∀ i, i < n → ∀ ρ M, Q i ρ M → ∃ ρ1 ρ2 M2, setTg tg (enc i) ρ = some ρ1 ∧ body ρ1 M = some (.nx ρ2 M2) ∧ Q (i + 1) ρ2 M2) {ρ : Slots} {M : Mem} (q : Q 0 ρ M) :
    ∃ ρ' M', forL tg body (mk n enc) ρ M = some (.nx ρ' M') ∧ Q n ρ' M' := by
  unfold mk
  rw [List.range_eq_range']
  exact for_tr enc Q h n 0 ρ M (by omega) q
end Ev
namespace K02
open PySem Ev Sx
open Classical
section
variable {n m : Nat} {q : Nat → Int} {H : Nat → Nat → Int}
theorem shW : Okd (PyData.str ("weights" : Str)).shown 100 := ⟨by decide +kernel, by decide +kernel⟩
theorem shL : Okd (PyData.str ("lags" : Str)).shown 100 := ⟨by decide +kernel, by decide +kernel⟩
theorem told_ok {D : Nat} (h : 7 ≤ D) (I : InOk n m q H) (M : Mem) (hM : M.all moNoLst = true) : ∃ (a : Str) (xs : PV) (b : Bool) (s : Str),
    callF Tn D 22 [.int (m : Int), rowT m q, highT n m H] M = some (.tup [.str a, xs], M) ∧ callF Tn D 27 [.int (m : Int), rowT m q, highT n m H] M = some (.bl b, M) ∧
    callF Tn D 16 [.int (m : Int), rowT m q, highT n m H] M = some (.bl b, M) ∧ callF Tn D 33 [.int (m : Int), rowT m q, highT n m H, .tup [.str a, xs]] M = some (.str a, M) ∧ PyData.strOk a = true ∧
    (∀ M, biV M .reprOf [.tup [.str a, xs]] = some (.str s)) ∧ PyData.strOk s = true ∧ (b = true → ∃ w, CovW n m q H w) := by
  obtain ⟨n1, n2, m1, m2, hq, hH⟩ := id I
  have lg : ∀ x : Int, x.natAbs < 2 ^ 160 → x.natAbs.log2 < 1920 := fun x hx => Nat.lt_trans (log2_lt hx (by decide)) (by decide)
  rcases cover_paper_ok (D := D) (by omega) I M hM with ⟨w, e, hw⟩ | ⟨y, e, hy⟩
  · obtain ⟨s, hs, hz⟩ := repr_pair "weights" n w M shW okW (by omega) fun i _ => lg _ (hw.2.2.2 i)
    obtain ⟨a, ec, xs', ex⟩ := check_cover_ok (D := D) (by omega) I M (.inl ⟨w, rfl, hw⟩)
    cases ex
    refine ⟨"weights", rowT n w, true, s, e, ?_, ?_, ec, okW, fun _ => hs, hz, fun _ => ⟨w, hw⟩⟩
    · rcases law_covered_ok h I M hM with ⟨e2, _⟩ | ⟨_, y, hy⟩
      · exact e2
      · exact (cov_not hw hy).elim
    · rcases is_covered_ok (D := D) (by omega) I M hM with ⟨e2, _⟩ | ⟨_, y, hy⟩
      · exact e2
      · exact (cov_not hw hy).elim
  · obtain ⟨s, hs, hz⟩ := repr_pair "lags" m y M shL okL (by omega) fun i _ => lg _ (hy.2.2 i)
    obtain ⟨a, ec, xs', ex⟩ := check_cover_ok (D := D) (by omega) I M (.inr ⟨y, rfl, hy⟩)
    cases ex
    refine ⟨"lags", rowT m y, false, s, e, ?_, ?_, ec, okL, fun _ => hs, hz, fun z => by cases z⟩
    · rcases law_covered_ok h I M hM with ⟨_, w, hw⟩ | ⟨e2, _⟩
      · exact (cov_not hw hy).elim
      · exact e2
    · rcases is_covered_ok (D := D) (by omega) I M hM with ⟨_, w, hw⟩ | ⟨e2, _⟩
      · exact (cov_not hw hy).elim
      · exact e2
def rb36 : S := match t36 with
  | .cons _ (.cons _ (.cons _ (.cons _ (.cons (.for _ _ b) _)))) => b
  | s => s
theorem right_ok {D B : Nat} (h : 8 ≤ D) (I : InOk n m q H) {M : Mem} (S : Dr B M) (hB : B < 800000) : ∃ M', callF Tn D 36 [.ref 1, .int (m : Int), rowT m q, highT n m H] M = some (.bl true, M') ∧ Dr (B + 24) M' := by
  obtain ⟨n1, n2, m1, m2, hq, hH⟩ := id I
  obtain ⟨d, rfl⟩ : ∃ d, D = d + 1 := ⟨D - 1, by omega⟩
  obtain ⟨a, xs, b, s, e22, e27, e16, e33, ha, hr, hs, hw⟩ := told_ok (D := d) (by omega) I M S.noL
  have smm := smallI_nat (n := m) (by omega)
  let Q : Nat → Slots → Mem → Prop := fun i ρ M => (∃ a6 a7 a8 a9, ρ = [.val (.ref 1), .val (.int (m : Int)), .val (rowT m q), .val (highT n m H), .val (.tup [.str a, xs]), .val (.bl b), a6, a7, a8, a9, .non, .non, .non, .non]) ∧ Dr (B + 6 * i) M
  have turn : ∀ i, i < 4 → ∀ ρ M, Q i ρ M → ∃ ρ1 ρ2 M2, setTg (.var 6) (.int (i : Int)) ρ = some ρ1 ∧ evS (callF Tn d) rb36 ρ1 M = some (.nx ρ2 M2) ∧ Q (i + 1) ρ2 M2 := fun i hi ρ M hQ => by
    obtain ⟨⟨a6, a7, a8, a9, rfl⟩, S⟩ := hQ
    obtain ⟨y, M1, e1, hy, S1⟩ := comp_trF (n := m) (tg := .var 10) (cond := evE (callF Tn d) (.cst (.bl true))) (elt := evE (callF Tn d) (.call 20 (.cons (.var 0) (.cons (.disp (.cons (.cst (.int (0))) (.cons (.cst (.int (1))) (.cons (.cst (.int (2))) (.cons (.cst (.int (7))) (.cons (.cst (.int (1000))) (.cons (.bin .pow (.cst (.int (10))) (.cst (.int (12)))) .nil))))))) .nil)))) (ρ := [.val (.ref 1), .val (.int (m : Int)), .val (rowT m q), .val (highT n m H), .val (.tup [.str a, xs]), .val (.bl b), .val (.int (i : Int)), a7, a8, a9, .non, .non, .non, .non])
      (fun j => .int (j : Int)) (fun j => [.val (.ref 1), .val (.int (m : Int)), .val (rowT m q), .val (highT n m H), .val (.tup [.str a, xs]), .val (.bl b), .val (.int (i : Int)), a7, a8, a9, .val (.int (j : Int)), .non, .non, .non]) (fun j M => Dr (B + 6 * i + j) M) PV.int (fun _ x => 0 ≤ x) (fun j hj => ⟨by simp, fun M S => by
        obtain ⟨x, M1, e1, hx, S1⟩ := pick_ok (D := d) (by omega) S (by omega) [.int 0, .int 1, .int 2, .int 7, .int 1000, .int 1000000000000] _ (.inr rfl) (by decide) (by decide)
        obtain ⟨v, rfl, hv⟩ : ∃ v, x = .int v ∧ 0 ≤ v := by
          simp only [List.mem_cons, List.not_mem_nil, or_false] at hx
          rcases hx with rfl | rfl | rfl | rfl | rfl | rfl <;> exact ⟨_, rfl, by decide⟩
        exact ⟨by simp, v, M1, by simp [e1], hv, S1⟩⟩) (M := M) S (by rw [Ev.sizeLine_eq]; omega)
    have c1 := comp_mk (n := m) (tg := .tup (.cons (.var 11) (.cons (.var 12) .nil))) (cond := evE (callF Tn d) (.cst (.bl true))) (elt := evE (callF Tn d) (.bin .mul (.var 11) (.var 12))) (ρ := [.val (.ref 1), .val (.int (m : Int)), .val (rowT m q), .val (highT n m H), .val (.tup [.str a, xs]), .val (.bl b), .val (.int (i : Int)), .val (rowT m y), a8, a9, .non, .non, .non, .non]) (M := M1)
      (fun k => PV.tup [.int (q k), .int (y k)]) (fun k => .int (q k * y k)) (fun k => [.val (.ref 1), .val (.int (m : Int)), .val (rowT m q), .val (highT n m H), .val (.tup [.str a, xs]), .val (.bl b), .val (.int (i : Int)), .val (rowT m y), a8, a9, .non, .val (.int (q k)), .val (.int (y k)), .non]) (fun k hk => by
        simp [mulOk_l (small_item (hq k hk))]) (by rw [Ev.sizeLine_eq]; omega)
    have c2 := comp_mk (n := n) (tg := .var 13) (cond := evE (callF Tn d) (.cst (.bl true))) (elt := evE (callF Tn d) (.bi .sum (.cons (.comp (.bin .mul (.var 11) (.var 12)) (.zip (.var 13) (.var 7)) (.cst (.bl true)) (.tup (.cons (.var 11) (.cons (.var 12) .nil))) [11, 12]) .nil))) (ρ := [.val (.ref 1), .val (.int (m : Int)), .val (rowT m q), .val (highT n m H), .val (.tup [.str a, xs]), .val (.bl b), .val (.int (i : Int)), .val (rowT m y), .val (.int (sumN m fun k => q k * y k)), a9, .non, .non, .non, .non]) (M := M1)
      (fun j => rowT m (H j)) (fun j => .int (sumN m fun k => H j k * y k)) (fun j => [.val (.ref 1), .val (.int (m : Int)), .val (rowT m q), .val (highT n m H), .val (.tup [.str a, xs]), .val (.bl b), .val (.int (i : Int)), .val (rowT m y), .val (.int (sumN m fun k => q k * y k)), a9, .non, .non, .non, .val (rowT m (H j))]) (fun j hj => by
        have c3 := comp_mk (n := m) (tg := .tup (.cons (.var 11) (.cons (.var 12) .nil))) (cond := evE (callF Tn d) (.cst (.bl true))) (elt := evE (callF Tn d) (.bin .mul (.var 11) (.var 12))) (ρ := [.val (.ref 1), .val (.int (m : Int)), .val (rowT m q), .val (highT n m H), .val (.tup [.str a, xs]), .val (.bl b), .val (.int (i : Int)), .val (rowT m y), .val (.int (sumN m fun k => q k * y k)), a9, .non, .non, .non, .val (rowT m (H j))]) (M := M1)
          (fun k => PV.tup [.int (H j k), .int (y k)]) (fun k => .int (H j k * y k)) (fun k => [.val (.ref 1), .val (.int (m : Int)), .val (rowT m q), .val (highT n m H), .val (.tup [.str a, xs]), .val (.bl b), .val (.int (i : Int)), .val (rowT m y), .val (.int (sumN m fun k => q k * y k)), a9, .non, .val (.int (H j k)), .val (.int (y k)), .val (rowT m (H j))]) (fun k hk => by
            simp [mulOk_l (small_item (hH j hj k hk))]) (by rw [Ev.sizeLine_eq]; omega)
        simp [zip_mk, c3, ints_mk, sum_mk]) (by rw [Ev.sizeLine_eq]; omega)
    obtain ⟨x, ex, hx, _⟩ := max_mk (n := n) (fun j => sumN m fun k => H j k * y k) n1
    have w := worth_ok (D := d) (by omega) m1 m2 hq y hy M1
    have le : b = true → ¬ x < sumN m fun k => q k * y k := fun hb => by
      obtain ⟨w, W⟩ := hw hb
      obtain ⟨j, hj, l⟩ := cov_dual W hy
      have := hx j hj
      omega
    refine ⟨_, [.val (.ref 1), .val (.int (m : Int)), .val (rowT m q), .val (highT n m H), .val (.tup [.str a, xs]), .val (.bl b), .val (.int (i : Int)), .val (rowT m y), .val (.int (sumN m fun k => q k * y k)), .val (.lst (mk n fun j => .int (sumN m fun k => H j k * y k))), .non, .non, .non, .non], M1, rfl, ?_, ⟨_, _, _, _, rfl⟩, S1.mono (by omega)⟩
    simp only [rb36, t36]
    cases b with
    | true =>
      have := le rfl
      simp [smm, range_nat, e1, zip_mk, c1, ints_mk, sum_mk, c2, w, ex, this]
    | false => simp [smm, range_nat, e1, zip_mk, c1, ints_mk, sum_mk, c2, w, ex]
  obtain ⟨ρ', M', ef, ⟨a6, a7, a8, a9, rfl⟩, S'⟩ := for_tr0 (n := 4) (fun i => .int (i : Int)) Q turn (ρ := [.val (.ref 1), .val (.int (m : Int)), .val (rowT m q), .val (highT n m H), .val (.tup [.str a, xs]), .val (.bl b), .non, .non, .non, .non, .non, .non, .non, .non]) (M := M) ⟨⟨_, _, _, _, rfl⟩, S⟩
  have r4 : rangeV 0 4 = mk 4 fun i => .int (i : Int) := range_nat 4
  have s4 : smallI 4 = true := smallI_nat (n := 4) (by decide)
  refine ⟨M', call_rt1 (fn := ⟨4, 14, t36⟩) (M' := M') rfl rfl (S'.len.trans S.len.symm) ?_, S'⟩
  simp [t36, e22, e27, e16, e33, cv_neB, cv_neS, ha, hr, hs, freshAll, r4, s4]
  refine Eq.trans (congrArg (fun z => thenS z _) ef) ?_
  simp
end
end K02
end
section -- P18
namespace Ev
open PySem Sx
theorem ev_box_lst (cf : CallF) (ρ : Slots) (M M1 : Mem) (e : E) (xs : List PV) (hf : fresh e = true) (h : evE cf e ρ M = some (.lst xs, M1)) : evE cf (.box e) ρ M = some (.ref M1.length, M1 ++ [.lst xs]) := by
  show (if fresh e = true then bnd (evE cf e ρ M) fun v M1 => match v with
    | .lst xs => some (PV.ref M1.length, M1 ++ [MO.lst xs])
    | _ => (none : R PV) else none) = _
  rw [if_pos hf, h]
  rfl
theorem fin_ref (M M' : Mem) (i : Nat) : fin M (.ref i) M' = some (.ref i, M') := by
  unfold fin
  rw [if_neg fun h => by cases h.2]
theorem fin_any (M M' : Mem) (b : Bool) : ∃ M2, fin M (.bl b) M' = some (.bl b, M2) := by
  unfold fin
  split <;> exact ⟨_, rfl⟩
end Ev
namespace K02
open PySem Ev Sx
open Classical
theorem begin_ok {D : Nat} (h : 1 ≤ D) (ns : List Int) (hn : ns.length ≤ 63) : callF Tn D 0 [.scr (ns.map .int)] [] = some (.ref 1, dM ((ns ++ [0]).map .int) 0 0 0) := by
  obtain ⟨d, rfl⟩ : ∃ d, D = d + 1 := ⟨D - 1, by omega⟩
  have z : ns.length + 1 ≤ sizeLine := by rw [Ev.sizeLine_eq]; omega
  have b := ev_box_lst (callF Tn d) [.val (.scr (ns.map .int))] [] [] (.bin .add (.var 0) (.disp (.cons (.cst (.int (0))) .nil))) (ns.map .int ++ [.int 0]) rfl (by simp [z])
  rw [call_eq (fn := ⟨1, 1, t0⟩) rfl rfl]
  have n1 : ¬ ("cells" : Str) = "at" := by decide +kernel
  have n2 : ¬ ("cells" : Str) = "left" := by decide +kernel
  have n3 : ¬ ("cells" : Str) = "used" := by decide +kernel
  have n4 : ¬ ("at" : Str) = "left" := by decide +kernel
  have n5 : ¬ ("at" : Str) = "used" := by decide +kernel
  have n6 : ¬ ("left" : Str) = "used" := by decide +kernel
  simp [t0, b, n1, n2, n3, n4, n5, n6, fin_ref]
  rfl
def rb37 : S := match t37 with
  | .cons _ (.cons (.for _ _ b) _) => b
  | s => s
def ib37 : S := match rb37 with
  | .cons _ (.cons _ (.cons (.for _ _ b) _)) => b
  | s => s
def mnF (q : Nat → Int) : Nat → Int := fun k => if 1000000 < q k then 1000000 else q k
section
variable {n m : Nat} {H : Nat → Nat → Int}
theorem row_turn {d B : Nat} (hd : 8 ≤ d) (n1 : 1 ≤ n) (n2 : n ≤ 9) (m1 : 1 ≤ m) (m2 : m ≤ 6) (hH : ∀ j, j < n → ∀ k, k < m → ItemOk (H j k)) (q : Nat → Int) (hq : ∀ k, k < m → 0 ≤ q k) (a0 a2 a4 : Slot) {M : Mem} (S : Dr B M) (hB : B < 700000) :
    ∃ M', evS (callF Tn d) ib37 [a0, .val (.ref 1), a2, .val (.int (m : Int)), a4, .val (highT n m H), .val (rowT m q), .non] M = some (.nx [a0, .val (.ref 1), a2, .val (.int (m : Int)), a4, .val (highT n m H), .val (rowT m (mnF q)), .non] M') ∧ Dr (B + 24) M' := by
  have I : InOk n m (mnF q) H := ⟨n1, n2, m1, m2, fun k hk => by
    have := hq k hk
    show 0 ≤ mnF q k ∧ mnF q k ≤ 1000000
    unfold mnF
    split <;> omega, hH⟩
  obtain ⟨M', e, S'⟩ := right_ok hd I S (by omega)
  have cm := comp_mk (n := m) (tg := .var 7) (cond := evE (callF Tn d) (.cst (.bl true))) (elt := evE (callF Tn d) (.bi .min2 (.cons (.var 7) (.cons (.bin .pow (.cst (.int (10))) (.cst (.int (6)))) .nil)))) (ρ := [a0, .val (.ref 1), a2, .val (.int (m : Int)), a4, .val (highT n m H), .val (rowT m q), .non]) (M := M)
    (fun k => .int (q k)) (fun k => .int (mnF q k)) (fun k => [a0, .val (.ref 1), a2, .val (.int (m : Int)), a4, .val (highT n m H), .val (rowT m q), .val (.int (q k))]) (fun k hk => by
      simp [mnF]) (by rw [Ev.sizeLine_eq]; omega)
  refine ⟨M', ?_, S'⟩
  simp only [ib37, rb37, t37]
  simp [cm, e]
end
theorem lst_bound {l : List Int} (h : l.all (fun x => decide (x.natAbs < 2 ^ 160)) = true) (j : Nat) : (l.getD j 0).natAbs < 2 ^ 160 := by
  by_cases hj : j < l.length
  · have := List.all_eq_true.mp h l[j] (List.getElem_mem hj)
    simp only [decide_eq_true_eq] at this
    rw [List.getD_eq_getElem?_getD, List.getElem?_eq_getElem hj]
    exact this
  · rw [List.getD_eq_getElem?_getD, List.getElem?_eq_none (by omega)]
    decide
abbrev rF (l : List Int) : Nat → Int := fun k => l.getD k 0
abbrev hF (l : List (List Int)) : Nat → Nat → Int := fun j k => (l.getD j []).getD k 0
theorem hand_yes {D n m : Nat} {q : List Int} {H : List (List Int)} (h : 6 ≤ D) (I : InOk n m (rF q) (hF H)) (w : List Int) (hw : (∀ j, j < n → 0 ≤ rF w j) ∧ 0 < sumN n (rF w) ∧ ∀ k, k < m → rF q k * sumN n (rF w) ≤ sumN n fun j => hF H j k * rF w j) (hb : w.all (fun x => decide (x.natAbs < 2 ^ 160)) = true) (M : Mem) (hM : M.all moNoLst = true) :
    callF Tn D 16 [.int (m : Int), rowT m (rF q), highT n m (hF H)] M = some (.bl true, M) := by
  have W : CovW n m (rF q) (hF H) (rF w) := ⟨hw.1, hw.2.1, hw.2.2, lst_bound hb⟩
  rcases is_covered_ok h I M hM with ⟨e, _⟩ | ⟨_, y, hy⟩
  · exact e
  · exact (cov_not W hy).elim
theorem hand_no {D n m : Nat} {q : List Int} {H : List (List Int)} (h : 6 ≤ D) (I : InOk n m (rF q) (hF H)) (y : List Int) (hy : (∀ k, k < m → 0 ≤ rF y k) ∧ ∀ j, j < n → (sumN m fun k => hF H j k * rF y k) < sumN m fun k => rF q k * rF y k) (hb : y.all (fun x => decide (x.natAbs < 2 ^ 160)) = true) (M : Mem) (hM : M.all moNoLst = true) :
    callF Tn D 16 [.int (m : Int), rowT m (rF q), highT n m (hF H)] M = some (.bl false, M) ∧ ∃ z, callF Tn D 22 [.int (m : Int), rowT m (rF q), highT n m (hF H)] M = callF Tn D 22 [.int (m : Int), rowT m (rF q), highT n m (hF H)] M ∧ z = 0 := by
  have Y : CovY n m (rF q) (hF H) (rF y) := ⟨hy.1, hy.2, lst_bound hb⟩
  rcases is_covered_ok h I M hM with ⟨_, w, hw⟩ | ⟨e, _⟩
  · exact (cov_not hw Y).elim
  · exact ⟨e, 0, rfl, rfl⟩
theorem hand_lags {D n m : Nat} {q : List Int} {H : List (List Int)} (h : 6 ≤ D) (I : InOk n m (rF q) (hF H)) (y : List Int) (hy : (∀ k, k < m → 0 ≤ rF y k) ∧ ∀ j, j < n → (sumN m fun k => hF H j k * rF y k) < sumN m fun k => rF q k * rF y k) (hb : y.all (fun x => decide (x.natAbs < 2 ^ 160)) = true) (M : Mem) (hM : M.all moNoLst = true) :
    ∃ x, callF Tn D 22 [.int (m : Int), rowT m (rF q), highT n m (hF H)] M = some (.tup [.str "lags", x], M) := by
  have Y : CovY n m (rF q) (hF H) (rF y) := ⟨hy.1, hy.2, lst_bound hb⟩
  rcases cover_paper_ok h I M hM with ⟨w, _, hw⟩ | ⟨y', e, _⟩
  · exact (cov_not hw Y).elim
  · exact ⟨_, e⟩
section
variable {D : Nat} (h : 6 ≤ D) (M : Mem) (hM : M.all moNoLst = true)
include h hM
theorem h1 : callF Tn D 16 [.int 2, .tup [.int 1, .int 1], .tup [.tup [.int 2, .int 0], .tup [.int 0, .int 2]]] M = some (.bl true, M) :=
  hand_yes (n := 2) (m := 2) (q := [1, 1]) (H := [[2, 0], [0, 2]]) h (by unfold InOk ItemOk; decide) [1, 1] (by decide) (by decide) M hM
theorem h2 : callF Tn D 16 [.int 2, .tup [.int 1, .int 1], .tup [.tup [.int 2, .int 0], .tup [.int 0, .int 1]]] M = some (.bl false, M) :=
  (hand_no (n := 2) (m := 2) (q := [1, 1]) (H := [[2, 0], [0, 1]]) h (by unfold InOk ItemOk; decide) [2, 3] (by decide) (by decide) M hM).1
theorem h3 : ∃ x, callF Tn D 22 [.int 1, .tup [.int 3], .tup [.tup [.int 2], .tup [.int 1]]] M = some (.tup [.str "lags", x], M) :=
  hand_lags (n := 2) (m := 1) (q := [3]) (H := [[2], [1]]) h (by unfold InOk ItemOk; decide) [1] (by decide) (by decide) M hM
theorem h4 : callF Tn D 16 [.int 3, .tup [.int 0, .int 0, .int 0], .tup [.tup [.int 0, .int 0, .int 0]]] M = some (.bl true, M) :=
  hand_yes (n := 1) (m := 3) (q := [0, 0, 0]) (H := [[0, 0, 0]]) h (by unfold InOk ItemOk; decide) [1] (by decide) (by decide) M hM
theorem h5 : callF Tn D 16 [.int 3, .tup [.int 1, .int 1, .int 1], .tup [.tup [.int 2, .int 0, .int 0], .tup [.int 0, .int 1, .int 1]]] M = some (.bl false, M) :=
  (hand_no (n := 2) (m := 3) (q := [1, 1, 1]) (H := [[2, 0, 0], [0, 1, 1]]) h (by unfold InOk ItemOk; decide) [2, 3, 0] (by decide) (by decide) M hM).1
theorem h6 : callF Tn D 16 [.int 3, .tup [.int 1, .int 1, .int 1], .tup [.tup [.int 3, .int 0, .int 0], .tup [.int 0, .int 2, .int 2]]] M = some (.bl true, M) :=
  hand_yes (n := 2) (m := 3) (q := [1, 1, 1]) (H := [[3, 0, 0], [0, 2, 2]]) h (by unfold InOk ItemOk; decide) [2, 3] (by decide) (by decide) M hM
theorem h7 : callF Tn D 16 [.int 3, .tup [.int 1, .int 1, .int 1], .tup [.tup [.int 3, .int 0, .int 0], .tup [.int 0, .int 3, .int 0], .tup [.int 0, .int 0, .int 3]]] M = some (.bl true, M) :=
  hand_yes (n := 3) (m := 3) (q := [1, 1, 1]) (H := [[3, 0, 0], [0, 3, 0], [0, 0, 3]]) h (by unfold InOk ItemOk; decide) [1, 1, 1] (by decide) (by decide) M hM
end
end K02
end
section -- P19
namespace K02
open PySem Ev Sx
open Classical
theorem main (ns : List Int) (hn : ns.length ≤ 63) : ∃ M', callF Tn (20 + 1) 37 [.scr (ns.map .int)] [] = some (.bl true, M') := by
  have b := begin_ok (D := 20) (by decide) ns hn
  have S0 : Dr 0 (dM ((ns ++ [0]).map .int) 0 0 0) := ⟨ns ++ [0], 0, 0, 0, rfl, by simp, by decide, by decide, by decide, by decide⟩
  let Q : Nat → Slots → Mem → Prop := fun i ρ M => (∃ a2 a3 a4 a5 a6, ρ = [.val (.scr (ns.map .int)), .val (.ref 1), a2, a3, a4, a5, a6, .non]) ∧ Dr (1000 * i) M
  have turn : ∀ i, i < 8 → ∀ ρ M, Q i ρ M → ∃ ρ1 ρ2 M2, setTg (.var 2) (.int (i : Int)) ρ = some ρ1 ∧ evS (callF Tn 20) rb37 ρ1 M = some (.nx ρ2 M2) ∧ Q (i + 1) ρ2 M2 := fun i hi ρ M hQ => by
    obtain ⟨⟨a2, a3, a4, a5, a6, rfl⟩, S⟩ := hQ
    obtain ⟨r, M1, e1, r1, r2, S1⟩ := next_ok (D := 20) (by decide) S (by omega) 6 (by decide) (by decide)
    obtain ⟨m, hm⟩ : ∃ m : Nat, 1 + r = (m : Int) := ⟨(1 + r).toNat, by omega⟩
    have m1 : 1 ≤ m := by omega
    have m2 : m ≤ 6 := by omega
    obtain ⟨x, M2, e2, hx, S2⟩ := pick_ok (D := 20) (by decide) S1 (by omega) [.int 2, .int 4, .int 9, .int 1000, .int 1000000] _ (.inr rfl) (by decide) (by decide)
    obtain ⟨most, rfl, p1, p2⟩ : ∃ v, x = .int v ∧ 0 ≤ v ∧ v ≤ 1000000 := by
      simp only [List.mem_cons, List.not_mem_nil, or_false] at hx
      rcases hx with rfl | rfl | rfl | rfl | rfl <;> exact ⟨_, rfl, by decide, by decide⟩
    obtain ⟨n, H, M3, e3, ⟨n1, n2⟩, hH, S3⟩ := tops_ok (D := 20) (by decide) S2 (by omega) m most m2 p1 p2
    have hH' : ∀ j, j < n → ∀ k, k < m → ItemOk (H j k) := fun j hj k hk => ⟨(hH j hj k hk).1, Int.le_trans (hH j hj k hk).2 p2⟩
    obtain ⟨q1, M4, e4, hq1, S4⟩ := sum_ok (D := 20) (by decide) S3 (by omega) m most m2 p1 p2
    obtain ⟨q2, M5, e5, hq2, S5⟩ := mean_ok (D := 20) (by decide) S4 (by omega) n1 n2 m1 m2 hH'
    obtain ⟨x, M6, e6, hx, S6⟩ := pick_ok (D := 20) (by decide) S5 (by omega) (mk n fun j => rowT m (H j)) _ (.inl rfl) (by simpa using n1) (by simp; omega)
    obtain ⟨j, hj, rfl⟩ := List.mem_map.mp hx
    have hj := List.mem_range.mp hj
    have T := fun q hq B M S hB => row_turn (d := 20) (B := B) (M := M) (by decide) n1 n2 m1 m2 hH' q hq (.val (.scr (ns.map .int))) (.val (.int (i : Int))) (.val (.int most)) S hB
    obtain ⟨M7, e7, S7⟩ := T q1 (fun k hk => (hq1 k hk).1) _ M6 S6 (by omega)
    obtain ⟨M8, e8, S8⟩ := T q2 hq2 _ M7 S7 (by omega)
    obtain ⟨M9, e9, S9⟩ := T (H j) (fun k hk => (hH' j hj k hk).1) _ M8 S8 (by omega)
    refine ⟨_, [.val (.scr (ns.map .int)), .val (.ref 1), .val (.int (i : Int)), .val (.int (m : Int)), .val (.int most), .val (highT n m H), .val (rowT m (mnF (H j))), .non], M9, rfl, ?_, ⟨_, _, _, _, _, rfl⟩, S9.mono (by omega)⟩
    have ir : ∀ b, b = evS (callF Tn 20) ib37 → forL (.var 6) b [rowT m q1, rowT m q2, rowT m (H j)] [.val (.scr (ns.map .int)), .val (.ref 1), .val (.int (i : Int)), .val (.int (m : Int)), .val (.int most), .val (highT n m H), a6, .non] M6 = some (.nx [.val (.scr (ns.map .int)), .val (.ref 1), .val (.int (i : Int)), .val (.int (m : Int)), .val (.int most), .val (highT n m H), .val (rowT m (mnF (H j))), .non] M9) := fun b hb => by
      subst hb
      rw [forL_cons, st_var, Option.bind_some]
      refine Eq.trans (congrArg (fun z => thenS z _) e7) ?_
      rw [thenS_nx, forL_cons, st_var, Option.bind_some]
      refine Eq.trans (congrArg (fun z => thenS z _) e8) ?_
      rw [thenS_nx, forL_cons, st_var, Option.bind_some]
      refine Eq.trans (congrArg (fun z => thenS z _) e9) ?_
      rfl
    simp only [rb37, t37]
    simp [freshAll, e1, hm, e2, e3, e4, e5, e6]
    refine Eq.trans (congrArg (fun z => thenS z _) (ir _ rfl)) ?_
    simp
  obtain ⟨ρ', M', ef, ⟨a2, a3, a4, a5, a6, rfl⟩, S'⟩ := for_tr0 (n := 8) (fun i => .int (i : Int)) Q turn (ρ := [.val (.scr (ns.map .int)), .val (.ref 1), .non, .non, .non, .non, .non, .non]) (M := dM ((ns ++ [0]).map .int) 0 0 0) ⟨⟨_, _, _, _, _, rfl⟩, S0⟩
  have r8 : rangeV 0 8 = mk 8 fun i => .int (i : Int) := range_nat 8
  have s8 : smallI 8 = true := smallI_nat (n := 8) (by decide)
  have hM := S'.noL
  obtain ⟨x, e3⟩ := h3 (D := 20) (by decide) M' hM
  have body : evS (callF Tn 20) t37 [.val (.scr (ns.map .int)), .non, .non, .non, .non, .non, .non, .non] [] = some (.rt (.bl true) M') := by
    simp only [t37]
    simp [b, r8, s8]
    simp at ef
    refine Eq.trans (congrArg (fun z => thenS z _) ef) ?_
    simp [h1 (D := 20) (by decide) M' hM, h2 (D := 20) (by decide) M' hM, e3, h4 (D := 20) (by decide) M' hM, h5 (D := 20) (by decide) M' hM, h6 (D := 20) (by decide) M' hM, h7 (D := 20) (by decide) M' hM]
  rw [call_eq (fn := ⟨1, 8, t37⟩) rfl rfl]
  refine (fin_any [] M' true).imp fun M2 e => ?_
  show (match evS (callF Tn 20) t37 [.val (.scr (ns.map .int)), .non, .non, .non, .non, .non, .non, .non] [] with
    | some (.rt v M') => Ev.fin [] v M'
    | some (.nx _ M') => Ev.fin [] .non M'
    | none => none) = _
  rw [body]
  exact e
end K02
end
theorem PySem.Challenge.cw_evenlags_k02_whole_covers_holds : PySem.Challenge.rw_evenlags_k02_whole_covers.Holds := by
  exact K02.holds_of K02.main
