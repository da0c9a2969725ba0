import PyProof.Rows.All
import HandS.ForMost
import HandS.ForExc
import HandS.Walk
import HandS.Wide
import HandS.IsInst
import HandS.TupAny
import HandS.TupMul
import HandS.Style
import HandS.ExcInit
import HandS.HeadHook1
import PyProof.StrOps2
import PyProof.CollectIter
import HandS.Conv
import HandS.Text
import HandS.RaiseMore
import PyProof.ReprRoads
import PyProof.CallFns
import HandS.ExcValue
import Wide.All
import OpenK.AllK
import Wide.FinOn
import PyProof.Draws
import PyProof.EnumMake
import HandS.Zip
import HandS.ExcIs
import HandS.Defaults
import HandS.WordsExc
import HandS.Ends
import HandS.HeadEnd
import PyProof.StrLawsRepr
import PyProof.ReprText
import PyProof.FitsInt
import HandS.Head0
import HandS.Head1
import HandS.Head2
import HandS.HeadHook2
import HandS.Words
import PySem.Challenge.RW_wholeshifts_k00_errors
set_option Elab.async false
set_option linter.all false
set_option maxRecDepth 100000
namespace MP
open PySem

/-- data of the small language: ref n is the n-th object of the small heap (it may change); lst, dct, set never change -/
inductive D where
  | non | bl (b : Bool) | int (i : Int) | str (s : Str)
  | tup (xs : List D) | lst (xs : List D) | dct (ks vs : List D) | set (xs : List D)
  | ref (n : Nat)
  /-- a caught exception: its class by name, its value -/
  | exc (c : Str) (v : D)
  /-- the law's script -/
  | scr (ns : List Int)
  deriving Inhabited

inductive MO where
  | dead | lst (xs : List D) | dct (ks vs : List D) | set (xs : List D)
  deriving Inhabited

abbrev MH := List MO
abbrev Env := List (Option D)

inductive Rs (α : Type) where
  | ok (a : α) (M : MH) | ex (c : Nat) (v : D) (M : MH)

abbrev Ev (α : Type) := MH → Option (Rs α)
namespace Ev
@[reducible] def pure {α : Type} (a : α) : Ev α := fun M => some (.ok a M)
@[reducible] def fail {α : Type} : Ev α := fun _ => none
def bind {α β : Type} (x : Ev α) (f : α → Ev β) : Ev β := fun M =>
  match x M with
  | none => none
  | some (.ok a M') => f a M'
  | some (.ex c v M') => some (.ex c v M')
def lift {α : Type} (o : Option α) : Ev α := fun M => match o with | none => none | some a => some (.ok a M)
/-- read the heap -/
def look {α : Type} (f : MH → Option α) : Ev α := fun M => match f M with | none => none | some a => some (.ok a M)
end Ev

inductive Ty where | int | bool | str | list | tuple | none
  deriving DecidableEq, Inhabited
inductive BOp where | add | sub | mul | fdiv | mod | pow
  deriving DecidableEq, Inhabited
inductive COp where | eq | ne | lt | le | gt | ge | isN | notN | isIn | notIn
  deriving DecidableEq, Inhabited
inductive BI where | len | all | any | sum | int | str | repr | min2 | max2 | tuple | abs
  deriving DecidableEq, Inhabited

mutual
/-- expressions -/
inductive CE where
  | var (i : Nat)
  | cst (d : D)
  | bin (op : BOp) (a b : CE)
  | neg (a : CE)
  | cmp (op : COp) (a b : CE)
  | cmp2 (op op2 : COp) (a b c : CE)
  | and (a b : CE) | or (a b : CE) | not (a : CE)
  | ite (c a b : CE)
  | tup (es : CEs)
  | mk (m : Bool) (l : LE)
  | ix (a i : CE)
  | slLo (a lo : CE) | slHi (a hi : CE) | slLH (a lo hi : CE)
  | rev (a : CE)
  | call (f : Nat) (es : CEs) (perm : List Nat)
  | bi (b : BI) (es : CEs)
  | join (a b : CE)
  | pop (a : CE)
  | isi (a : CE) (ts : List Ty)
  /-- e.value of an exception -/
  | val (a : CE)
  /-- isinstance of an exception: the classes that count, all classes -/
  | isx (a : CE) (hits names : List Str)
inductive CEs where
  | nil | cons (e : CE) (es : CEs)
/-- what makes a new list -/
inductive LE where
  | disp (es : CEs)
  | comp (s : SE) (t : List Nat) (single : Bool) (c : CEs) (e : CE) (wipe : List Nat)
  | cat (a b : CE) | rep (a b : CE) | list (a : CE)
/-- what a loop walks -/
inductive SE where
  | seq (e : CE) | rng1 (a : CE) | rng2 (a b : CE) | enum (a : CE) | zip (a b : CE)
end

mutual
inductive CS where
  | expr (e : CE) | ret (e : CE) | retN
  | set (i : Nat) (e : CE)
  | par (is : List Nat) (es : CEs)
  | unp (is : List Nat) (e : CE)
  | app (o e : CE)
  | setIx (o i e : CE)
  | augIx (op : BOp) (o i e : CE)
  | aug (op : BOp) (x : Nat) (e : CE)
  | iff (c : CE) (a b : CSs)
  | for (t : List Nat) (single : Bool) (s : SE) (b : CSs)
  | while (c : CE) (b : CSs)
  | raise (c : Nat) (e : CE)
  /-- try: bd; except (one of hits) as i: m = i -/
  | tryK (bd : CSs) (hits : List Nat) (names : List Str) (m i : Nat)
  /-- what is never come to -/
  | stuck
  | pass | brk | cont
inductive CSs where
  | nil | cons (s : CS) (ss : CSs)
end

/-! ### reading data -/
/-- the items of a list, a tuple -/
def seqOf (M : MH) : D → Option (List D)
  | .tup xs => some xs
  | .lst xs => some xs
  | .ref n => match M[n]? with | some (.lst xs) => some xs | _ => none
  | .scr ns => some (ns.map .int)
  | _ => none
/-- the items of a list -/
def lstOf (M : MH) : D → Option (List D)
  | .lst xs => some xs
  | .ref n => match M[n]? with | some (.lst xs) => some xs | _ => none
  | _ => none

mutual
/-- as data that does not change; rd reads what may change -/
def toPyW (rd : Nat → Option PyData) : D → Option PyData
  | .non => some .none
  | .bl b => some (.bool b)
  | .int i => some (.int i)
  | .str s => some (.str s)
  | .tup xs => (toPysW rd xs).map .tuple
  | .lst xs => (toPysW rd xs).map .list
  | .ref n => rd n
  | .dct _ _ => none
  | .set _ => none
  | .exc _ _ => none
  | .scr _ => none
def toPysW (rd : Nat → Option PyData) : List D → Option (List PyData)
  | [] => some []
  | x :: xs => match toPyW rd x, toPysW rd xs with
    | some d, some ds => some (d :: ds)
    | _, _ => none
end
def rd0 : Nat → Option PyData := fun _ => none
def rdS (M : MH) (rd : Nat → Option PyData) : Nat → Option PyData := fun n => match M[n]? with
  | some (.lst xs) => (toPysW rd xs).map .list
  | _ => none
def toPy (M : MH) : D → Option PyData := toPyW (rdS M (rdS M rd0))

/-- == -/
def eqD (M : MH) : D → D → Option Bool
  | .int i, .int j => some (decide (i = j))
  | .str x, .str y => some (decide (x = y))
  | .bl x, .bl y => some (decide (x = y))
  | a, b => match toPy M a, toPy M b with
    | some d, some e => if d.depth ≤ 64 ∧ e.depth ≤ 64 then some (PyData.eqv d e) else none
    | _, _ => none

def small (i : Int) : Bool := decide (-(2 ^ 64) < i) && decide (i < 2 ^ 64)
def mulOk (i j : Int) : Bool := small i || small j || decide (i.natAbs.log2 + j.natAbs.log2 < 1000000)
def divOk (j : Int) : Bool := decide (j ≠ 0 ∧ j.natAbs < 1073741824) || decide (0 < j ∧ j.natAbs.log2 < 9000)
def fits (n : Nat) : Bool := decide (n ≤ sizeLine)
def addD (M : MH) (a b : D) : Option D := match a, b with
  | .int i, .int j => some (.int (i + j))
  | .str x, .str y => if x.length + y.length ≤ sizeLine then some (.str (x ++ y)) else none
  | .tup xs, .tup ys => if xs.length + ys.length ≤ sizeLine then some (.tup (xs ++ ys)) else none
  | a, b => match lstOf M a, lstOf M b with
    | some xs, some ys => if xs.length + ys.length ≤ sizeLine then some (.lst (xs ++ ys)) else none
    | _, _ => none
def subD (a b : D) : Option D := match a, b with
  | .int i, .int j => some (.int (i - j))
  | _, _ => none
/-- a text k times -/
def repS (x : Str) (k : Nat) : Str := ⟨(List.replicate k x.cps.toList).flatten.toArray⟩
def mulD (M : MH) (a b : D) : Option D := match a, b with
  | .int i, .int j => if mulOk i j = true then some (.int (i * j)) else none
  | .tup xs, .int k => if xs.length ≤ 1000 ∧ k ≤ 1000 ∧ -(2 ^ 63) ≤ k then some (.tup (List.replicate k.toNat xs).flatten) else none
  | .str x, .int k => if -(2 ^ 63) ≤ k ∧ k < 2 ^ 62 ∧ x.length * k.toNat ≤ sizeLine then some (.str (repS x k.toNat)) else none
  | a, .int k => match lstOf M a with
    | some xs => if -(2 ^ 63) ≤ k ∧ k < 2 ^ 63 ∧ xs.length * k.toNat ≤ sizeLine then some (.lst (List.replicate k.toNat xs).flatten) else none
    | none => none
  | _, _ => none
def fdivD (a b : D) : Option D := match a, b with
  | .int i, .int j => if divOk j = true then some (.int (i.fdiv j)) else none
  | _, _ => none
def modD (a b : D) : Option D := match a, b with
  | .int i, .int j => if j ≠ 0 then some (.int (i.fmod j)) else none
  | _, _ => none
def powD (a b : D) : Option D := match a, b with
  | .int i, .int j => if 0 ≤ j ∧ j ≤ 1000000 ∧ i.natAbs < 2 ^ 64 then some (.int (i ^ j.toNat)) else none
  | _, _ => none
/-- x op y -/
def binD (M : MH) : BOp → D → D → Option D
  | .add => addD M
  | .sub => subD
  | .mul => mulD M
  | .fdiv => fdivD
  | .mod => modD
  | .pow => powD
def ltD (a b : D) : Option Bool := match a, b with
  | .int i, .int j => some (decide (i < j))
  | .str x, .str y => some (decide (x.cps.toList < y.cps.toList))
  | _, _ => none
def leD (a b : D) : Option Bool := match a, b with
  | .int i, .int j => some (decide (i ≤ j))
  | _, _ => none
def gtD (a b : D) : Option Bool := match a, b with
  | .int i, .int j => some (decide (j < i))
  | _, _ => none
def geD (a b : D) : Option Bool := match a, b with
  | .int i, .int j => some (decide (j ≤ i))
  | _, _ => none
/-- e.value -/
def valD : D → Option D
  | .exc _ v => some v
  | _ => none
def isNonD (a : D) : Bool := match a with | .non => true | _ => false
def isND (a b : D) : Option Bool := match b with
  | .non => some (isNonD a)
  | _ => none
/-- one text within another -/
def strIn (x y : Str) : Bool := !(Builtin.Str.occurrences y x 0 y.length 1).isEmpty
def inD (a b : D) : Option Bool := match a, b with
  | .str x, .str y => some (strIn x y)
  | _, _ => none
def cmpD (M : MH) : COp → D → D → Option Bool
  | .eq => eqD M
  | .ne => fun a b => (eqD M a b).map (!·)
  | .lt => ltD
  | .le => leD
  | .gt => gtD
  | .ge => geD
  | .isN => isND
  | .notN => fun a b => (isND a b).map (!·)
  | .isIn => inD
  | .notIn => fun a b => (inD a b).map (!·)
/-- a[i] -/
def ixD (M : MH) (a : D) (i : Int) : Option D :=
  match a with
  | .str z => (L2.atI z.cps.toList i).map fun c => .str ⟨#[c]⟩
  | a => match seqOf M a with
    | some xs => L2.atI xs i
    | none => none
def cutD {α : Type} (xs : List α) (lo hi : Option Int) : List α := (xs.drop (HT.sIx xs.length 0 lo)).take (HT.sIx xs.length xs.length hi - HT.sIx xs.length 0 lo)
/-- a[lo:hi] -/
def slD (M : MH) (a : D) (lo hi : Option Int) : Option D :=
  match a with
  | .str z => some (.str (L2.cutS z lo hi))
  | .tup xs => some (.tup (cutD xs lo hi))
  | a => (lstOf M a).map fun xs => .lst (cutD xs lo hi)
/-- a[::-1] -/
def revD (M : MH) (a : D) : Option D :=
  match a with
  | .tup xs => some (.tup xs.reverse)
  | a => (lstOf M a).map fun xs => .lst xs.reverse
def tyD (M : MH) : D → Option Ty
  | .non => some .none
  | .bl _ => some .bool
  | .int _ => some .int
  | .str _ => some .str
  | .tup _ => some .tuple
  | .lst _ => some .list
  | .ref n => match M[n]? with | some (.lst _) => some .list | _ => none
  | _ => none
def isxD (hits names : List Str) : D → Option D
  | .exc y _ => if names.contains y = true then some (.bl (hits.contains y)) else none
  | _ => none
def isiT (t : Ty) (ts : List Ty) : Bool := ts.any fun u => t == u || (t == .bool && u == .int)
def asInts : List D → Option (List Int)
  | [] => some []
  | .int i :: r => (asInts r).map (i :: ·)
  | _ :: _ => none
def asBls : List D → Option (List Bool)
  | [] => some []
  | .bl i :: r => (asBls r).map (i :: ·)
  | _ :: _ => none
def asStrs : List D → Option (List Str)
  | [] => some []
  | .str i :: r => (asStrs r).map (i :: ·)
  | _ :: _ => none
def lenD (M : MH) (a : D) : Option D := match a with
  | .str z => some (.int z.length)
  | a => (seqOf M a).map fun xs => .int xs.length
def allD (M : MH) (a : D) : Option D := ((lstOf M a).bind asBls).map fun bs => .bl (bs.all id)
def anyD (M : MH) (a : D) : Option D := ((lstOf M a).bind asBls).map fun bs => .bl (bs.any id)
def sumD (M : MH) (a : D) : Option D := ((seqOf M a).bind asInts).map fun ns => .int ns.sum
def intoD (a : D) : Option D := match a with
  | .int i => some (.int i)
  | .bl b => some (.int (if b then 1 else 0))
  | _ => none
def strD (a : D) : Option D := match a with
  | .int i => if i.natAbs.log2 < 1920 then some (.str (toString i)) else none
  | .str z => some (.str z)
  | _ => none
def absD (a : D) : Option D := match a with
  | .int i => some (.int (if i < 0 then -i else i))
  | _ => none
/-- repr -/
def reprD (M : MH) (a : D) : Option D := match toPy M a with
  | some p => if p.showable = true ∧ p.depth ≤ 60 ∧ p.shown.length ≤ sizeLine ∧ PyData.strOk p.shown = true then some (.str p.shown) else none
  | none => none
/-- sep.join(..) -/
def joinD (M : MH) (s : Str) (a : D) : Option D := ((seqOf M a).bind asStrs).bind fun ys => if (ys.map (·.length)).sum + ys.length * s.length ≤ 16777216 then some (.str (Str.join s ys)) else none
def chrs (z : Str) : List D := z.cps.toList.map fun c => .str ⟨#[c]⟩
def tupD (M : MH) (a : D) : Option D := match a with
  | .tup xs => some (.tup xs)
  | .str z => if 2 * z.length ≤ sizeLine then some (.tup (chrs z)) else none
  | a => (lstOf M a).map .tup
def minD (a b : D) : Option D := match a, b with
  | .int i, .int j => some (.int (if j < i then j else i))
  | _, _ => none
def maxD (a b : D) : Option D := match a, b with
  | .int i, .int j => some (.int (if j > i then j else i))
  | _, _ => none
def biD (M : MH) : BI → List D → Option D
  | .len, [a] => lenD M a
  | .all, [a] => allD M a
  | .any, [a] => anyD M a
  | .sum, [a] => sumD M a
  | .int, [a] => intoD a
  | .str, [a] => strD a
  | .abs, [a] => absD a
  | .repr, [a] => reprD M a
  | .tuple, [a] => tupD M a
  | .min2, [a, b] => minD a b
  | .max2, [a, b] => maxD a b
  | _, _ => none
def truD : D → Option Bool
  | .bl b => some b
  | _ => none
def intD : D → Option Int
  | .int i => some i
  | _ => none

/-! ### slots -/
def getS (ρ : Env) (i : Nat) : Option D := match ρ[i]? with | some (some d) => some d | _ => none
def wipeS (ρ : Env) : List Nat → Env
  | [] => ρ
  | v :: vs => (wipeS ρ vs).set v none
def setsS (ρ : Env) : List Nat → List D → Option Env
  | [], [] => some ρ
  | i :: is, d :: ds => setsS (ρ.set i (some d)) is ds
  | _, _ => none
/-- to a target: one name, or a tuple's items to several -/
def bindT (t : List Nat) (single : Bool) (d : D) (ρ : Env) : Option Env :=
  if single then match t with | [i] => some (ρ.set i (some d)) | _ => none
  else match d with | .tup xs => setsS ρ t xs | _ => none

/-! ### evaluation -/
/-- each item in turn; none: left out -/
def walkE (f : D → Ev (Option D)) : List D → Ev (List D)
  | [] => fun M => some (.ok [] M)
  | x :: xs => fun M => match f x M with
    | some (.ok y M1) => match walkE f xs M1 with
      | some (.ok ys M2) => some (.ok (match y with | some y => y :: ys | none => ys) M2)
      | _ => none
    | _ => none
/-- what is walked: items that stand, a list in the small heap as it stands at each turn -/
inductive Src where
  | fix (xs : List D) | dyn (n : Nat)
inductive Wk where
  | one (s : Src) | enum (s : Src) | zip (s t : Src)
def itemS (M : MH) : Src → Nat → Option (Option D)
  | .fix xs, i => some xs[i]?
  | .dyn n, i => match M[n]? with | some (.lst ys) => some ys[i]? | _ => none
def itemW (M : MH) : Wk → Nat → Option (Option D)
  | .one s, i => itemS M s i
  | .enum s, i => match itemS M s i with
    | some (some d) => some (some (.tup [.int i, d]))
    | some none => some none
    | none => none
  | .zip s t, i => match itemS M s i, itemS M t i with
    | some (some d), some (some e) => some (some (.tup [d, e]))
    | some _, some _ => some none
    | _, _ => none
def lenS (M : MH) : Src → Nat
  | .fix xs => xs.length
  | .dyn n => match M[n]? with | some (.lst ys) => ys.length | _ => 0
def lenW (M : MH) : Wk → Nat
  | .one s => lenS M s
  | .enum s => lenS M s
  | .zip s t => min (lenS M s) (lenS M t)
def walkW (f : D → Ev (Option D)) (w : Wk) : Nat → Nat → Ev (List D)
  | 0, i => fun M => match itemW M w i with
    | some none => some (.ok [] M)
    | _ => none
  | k + 1, i => fun M => match itemW M w i with
    | some none => some (.ok [] M)
    | some (some x) => match f x M with
      | some (.ok y M1) => match walkW f w k (i + 1) M1 with
        | some (.ok ys M2) => some (.ok (match y with | some y => y :: ys | none => ys) M2)
        | _ => none
      | _ => none
    | none => none
/-- a value that is walked -/
def srcOf (M : MH) : D → Option Src
  | .tup xs => some (.fix xs)
  | .lst xs => some (.fix xs)
  | .str z => some (.fix (chrs z))
  | .ref n => match M[n]? with | some (.lst _) => some (.dyn n) | _ => none
  | .scr ns => some (.fix (ns.map .int))
  | _ => none
def isTupD : D → Bool
  | .tup _ => true
  | _ => false
def isLstD : D → Bool
  | .lst _ => true
  | .ref _ => true
  | .scr _ => true
  | _ => false
def rangeD (lo hi : Int) : List D := (List.range (hi - lo).toNat).map fun (i : Nat) => .int (lo + i)
def rngOk (i : Int) : Bool := decide (-(2 ^ 62) ≤ i) && decide (i < 2 ^ 62)
def permD (ds : List D) : List Nat → Option (List D)
  | [] => some []
  | i :: is => match ds[i]?, permD ds is with | some d, some r => some (d :: r) | _, _ => none

section
variable (cl : Nat → List D → Ev D)
mutual
def ev : CE → Env → Ev D
  | .var i, ρ => Ev.lift (getS ρ i)
  | .cst d, _ => Ev.pure d
  | .bin op a b, ρ => Ev.bind (ev a ρ) fun x => Ev.bind (ev b ρ) fun y => Ev.look fun M => binD M op x y
  | .neg a, ρ => Ev.bind (ev a ρ) fun x => Ev.lift ((intD x).map fun i => .int (-i))
  | .cmp op a b, ρ => Ev.bind (ev a ρ) fun x => Ev.bind (ev b ρ) fun y => Ev.look fun M => (cmpD M op x y).map .bl
  | .cmp2 op op2 a b c, ρ => Ev.bind (ev a ρ) fun x => Ev.bind (ev b ρ) fun y => Ev.bind (Ev.look fun M => cmpD M op x y) fun k =>
      match k with
      | false => Ev.pure (.bl false)
      | true => Ev.bind (ev c ρ) fun z => Ev.look fun M => (cmpD M op2 y z).map .bl
  | .and a b, ρ => Ev.bind (ev a ρ) fun x => Ev.bind (Ev.lift (truD x)) fun k => match k with | true => ev b ρ | false => Ev.pure (.bl false)
  | .or a b, ρ => Ev.bind (ev a ρ) fun x => Ev.bind (Ev.lift (truD x)) fun k => match k with | true => Ev.pure (.bl true) | false => ev b ρ
  | .not a, ρ => Ev.bind (ev a ρ) fun x => Ev.bind (Ev.lift (truD x)) fun k => Ev.pure (.bl (!k))
  | .ite c a b, ρ => Ev.bind (ev c ρ) fun x => Ev.bind (Ev.lift (truD x)) fun k => match k with | true => ev a ρ | false => ev b ρ
  | .tup es, ρ => Ev.bind (evs es ρ) fun ds => if ds.length ≤ sizeLine then Ev.pure (.tup ds) else Ev.fail
  | .mk m l, ρ => Ev.bind (evL l ρ) fun xs => match m with
      | false => Ev.pure (.lst xs)
      | true => fun M => some (.ok (.ref M.length) (M ++ [.lst xs]))
  | .ix a i, ρ => Ev.bind (ev a ρ) fun x => Ev.bind (ev i ρ) fun y => Ev.bind (Ev.lift (intD y)) fun k => Ev.look fun M => ixD M x k
  | .slLo a lo, ρ => Ev.bind (ev a ρ) fun x => Ev.bind (ev lo ρ) fun y => Ev.bind (Ev.lift (intD y)) fun k => Ev.look fun M => slD M x (some k) none
  | .slHi a hi, ρ => Ev.bind (ev a ρ) fun x => Ev.bind (ev hi ρ) fun y => Ev.bind (Ev.lift (intD y)) fun k => Ev.look fun M => slD M x none (some k)
  | .slLH a lo hi, ρ => Ev.bind (ev a ρ) fun x => Ev.bind (ev lo ρ) fun y => Ev.bind (Ev.lift (intD y)) fun k => Ev.bind (ev hi ρ) fun z => Ev.bind (Ev.lift (intD z)) fun k2 => Ev.look fun M => slD M x (some k) (some k2)
  | .rev a, ρ => Ev.bind (ev a ρ) fun x => Ev.look fun M => revD M x
  | .call f es perm, ρ => Ev.bind (evs es ρ) fun ds => Ev.bind (Ev.lift (permD ds perm)) fun ds => cl f ds
  | .bi b es, ρ => Ev.bind (evs es ρ) fun ds => Ev.look fun M => biD M b ds
  | .join a b, ρ => Ev.bind (ev a ρ) fun x => match x with
      | .str s => Ev.bind (ev b ρ) fun y => Ev.look fun M => joinD M s y
      | _ => Ev.fail
  | .pop a, ρ => Ev.bind (ev a ρ) fun x => fun M => match x with
      | .ref n => match M[n]? with
        | some (.lst xs) => match xs.getLast? with
          | some d => some (.ok d (M.set n (.lst xs.dropLast)))
          | none => none
        | _ => none
      | _ => none
  | .val a, ρ => Ev.bind (ev a ρ) fun x => Ev.lift (valD x)
  | .isx a hits names, ρ => Ev.bind (ev a ρ) fun x => Ev.lift (isxD hits names x)
  | .isi a ts, ρ => Ev.bind (ev a ρ) fun x => Ev.look fun M => (tyD M x).map fun t => .bl (isiT t ts)
def evs : CEs → Env → Ev (List D)
  | .nil, _ => Ev.pure []
  | .cons e es, ρ => Ev.bind (ev e ρ) fun d => Ev.bind (evs es ρ) fun ds => Ev.pure (d :: ds)
/-- a clause's tests -/
def evC : CEs → Env → Ev Bool
  | .nil, _ => Ev.pure true
  | .cons e _, ρ => Ev.bind (ev e ρ) fun x => Ev.lift (truD x)
def evL : LE → Env → Ev (List D)
  | .disp es, ρ => Ev.bind (evs es ρ) fun ds => if ds.length ≤ sizeLine then Ev.pure ds else Ev.fail
  | .comp s t single c e w, ρ => Ev.bind (evS s ρ) fun wk M => if lenW M wk ≤ sizeLine then walkW (fun x => match bindT t single x (wipeS ρ w) with
      | none => Ev.fail
      | some ρ' => Ev.bind (evC c ρ') fun k => match k with
        | false => Ev.pure none
        | true => Ev.bind (ev e ρ') fun d => Ev.pure (some d)) wk (lenW M wk) 0 M else none
  | .cat a b, ρ => Ev.bind (ev a ρ) fun x => Ev.bind (ev b ρ) fun y => Ev.look fun M => match lstOf M x, lstOf M y with
      | some xs, some ys => if xs.length + ys.length ≤ sizeLine then some (xs ++ ys) else none
      | _, _ => none
  | .rep a b, ρ => Ev.bind (ev a ρ) fun x => Ev.bind (ev b ρ) fun y => Ev.look fun M => match lstOf M x, intD y with
      | some xs, some k => if -(2 ^ 63) ≤ k ∧ k < 2 ^ 63 ∧ xs.length * k.toNat ≤ sizeLine then some (List.replicate k.toNat xs).flatten else none
      | _, _ => none
  | .list a, ρ => Ev.bind (ev a ρ) fun x => Ev.look fun M => seqOf M x
def evS : SE → Env → Ev Wk
  | .seq e, ρ => Ev.bind (ev e ρ) fun x => Ev.look fun M => (srcOf M x).map .one
  | .rng1 a, ρ => Ev.bind (ev a ρ) fun x => match x with
      | .int i => if rngOk i = true then Ev.pure (.one (.fix (rangeD 0 i))) else Ev.fail
      | _ => Ev.fail
  | .rng2 a b, ρ => Ev.bind (ev a ρ) fun x => Ev.bind (ev b ρ) fun y => match x, y with
      | .int i, .int j => if (rngOk i && rngOk j) = true then Ev.pure (.one (.fix (rangeD i j))) else Ev.fail
      | _, _ => Ev.fail
  | .enum a, ρ => Ev.bind (ev a ρ) fun x => Ev.look fun M => if (isLstD x || isTupD x) = true then (srcOf M x).map .enum else none
  | .zip a b, ρ => Ev.bind (ev a ρ) fun x => Ev.bind (ev b ρ) fun y => Ev.look fun M => if (isLstD x && isLstD y || isTupD x && isTupD y) = true then match srcOf M x, srcOf M y with
      | some s, some t => some (.zip s t)
      | _, _ => none else none
end
end
end MP

set_option Elab.async false
set_option linter.all false
set_option maxRecDepth 100000
namespace MP
open PySem

inductive Fl where | nx | rt (d : D) | bk | ct | xc (c : Nat) (d : D)
/-- a statement -/
abbrev Se := MH → Option (Fl × Env × MH)
def sbind {α : Type} (x : Ev α) (ρ : Env) (f : α → Se) : Se := fun M => match x M with
  | none => none
  | some (.ok a M') => f a M'
  | some (.ex c v M') => some (.xc c v, ρ, M')
@[reducible] def sret (fl : Fl) (ρ : Env) : Se := fun M => some (fl, ρ, M)

mutual
/-- no place in the small heap stands in it -/
def norefs : D → Bool
  | .tup xs => norefss xs
  | .lst xs => norefss xs
  | .dct ks vs => norefss ks && norefss vs
  | .set xs => norefss xs
  | .ref _ => false
  | .exc _ v => norefs v
  | .non => true
  | .bl _ => true
  | .int _ => true
  | .str _ => true
  | .scr _ => true
def norefss : List D → Bool
  | [] => true
  | x :: xs => norefs x && norefss xs
end
mutual
/-- all places in it lie below n -/
def below (n : Nat) : D → Bool
  | .tup xs => belows n xs
  | .lst xs => belows n xs
  | .dct ks vs => belows n ks && belows n vs
  | .set xs => belows n xs
  | .ref m => decide (m < n)
  | .exc _ v => below n v
  | .non => true
  | .bl _ => true
  | .int _ => true
  | .str _ => true
  | .scr _ => true
def belows (n : Nat) : List D → Bool
  | [] => true
  | x :: xs => below n x && belows n xs
end
mutual
/-- lists that a def has made become lists that never change -/
def frzW (rd : Nat → Option D) : D → Option D
  | .tup xs => (frzsW rd xs).map .tup
  | .lst xs => (frzsW rd xs).map .lst
  | .ref n => rd n
  | .non => some .non
  | .bl b => some (.bl b)
  | .int i => some (.int i)
  | .str s => some (.str s)
  | .dct _ _ => none
  | .set _ => none
  | .exc x y => (frzW rd y).map (.exc x)
  | .scr _ => none
def frzsW (rd : Nat → Option D) : List D → Option (List D)
  | [] => some []
  | x :: xs => match frzW rd x, frzsW rd xs with
    | some d, some ds => some (d :: ds)
    | _, _ => none
end
def rf0 (b : Nat) : Nat → Option D := fun n => if n < b then some (.ref n) else none
def rfS (b : Nat) (M : MH) (rd : Nat → Option D) : Nat → Option D := fun n => if n < b then some (.ref n) else match M[n]? with
  | some (.lst xs) => (frzsW rd xs).map .lst
  | _ => none
def frz (b : Nat) (M : MH) : D → Option D := frzW (rfS b M (rfS b M (rf0 b)))
/-- what a def hands back -/
def fin (keep : Bool) (b : Nat) (r : D) (M : MH) : Option (Rs D) :=
  if keep = true ∨ M.length = b then some (.ok r M) else (frz b M r).map fun r' => .ok r' (M.take b)
def finX (b : Nat) (c : Nat) (r : D) (M : MH) : Option (Rs D) :=
  if M.length = b then some (.ex c r M) else (frz b M r).map fun r' => .ex c r' (M.take b)

def forE (f : D → Env → Se) : List D → Env → Se
  | [], ρ => fun M => some (.nx, ρ, M)
  | x :: xs, ρ => fun M => match f x ρ M with
    | none => none
    | some (fl, ρ', M') => match fl with
      | .nx => forE f xs ρ' M'
      | .ct => forE f xs ρ' M'
      | .bk => some (.nx, ρ', M')
      | .rt d => some (.rt d, ρ', M')
      | .xc c d => some (.xc c d, ρ', M')
def forW (f : D → Env → Se) (w : Wk) : Nat → Nat → Env → Se
  | 0, i, ρ => fun M => match itemW M w i with
    | some none => some (.nx, ρ, M)
    | _ => none
  | k + 1, i, ρ => fun M => match itemW M w i with
    | some none => some (.nx, ρ, M)
    | some (some x) => match f x ρ M with
      | none => none
      | some (fl, ρ', M') => match fl with
        | .nx => forW f w k (i + 1) ρ' M'
        | .ct => forW f w k (i + 1) ρ' M'
        | .bk => some (.nx, ρ', M')
        | .rt d => some (.rt d, ρ', M')
        | .xc c d => some (.xc c d, ρ', M')
    | none => none
def fuelS (wf : Nat) : Src → Nat
  | .fix xs => xs.length
  | .dyn _ => wf
def fuelW (wf : Nat) : Wk → Nat
  | .one s => fuelS wf s
  | .enum s => fuelS wf s
  | .zip s t => min (fuelS wf s) (fuelS wf t)
def whileE (t : Env → Ev D) (f : Env → Se) : Nat → Env → Se
  | 0, _ => fun _ => none
  | n + 1, ρ => fun M => match t ρ M with
    | none => none
    | some (.ex c v M') => some (.xc c v, ρ, M')
    | some (.ok k M') => match k with
      | .bl true => match f ρ M' with
        | none => none
        | some (fl, ρ', M') => match fl with
          | .nx => whileE t f n ρ' M'
          | .ct => whileE t f n ρ' M'
          | .bk => some (.nx, ρ', M')
          | .rt d => some (.rt d, ρ', M')
          | .xc c d => some (.xc c d, ρ', M')
      | .bl false => some (.nx, ρ, M')
      | _ => none

/-- a list's place k is set -/
def setIxE (b : Nat) (x y d : D) : Ev Unit := fun M => match x, y with
  | .ref n, .int k => match M[n]? with
    | some (.lst xs) => match L2.ixN xs.length k with
      | some j => if b ≤ n ∨ norefs d = true then some (.ok () (M.set n (.lst (xs.set j d)))) else none
      | none => none
    | _ => none
  | _, _ => none
def appE (b : Nat) (x d : D) : Ev Unit := fun M => match x with
  | .ref n => match M[n]? with
    | some (.lst xs) => if xs.length < sizeLine ∧ (b ≤ n ∨ norefs d = true) then some (.ok () (M.set n (.lst (xs ++ [d])))) else none
    | _ => none
  | _ => none
/-- x op= y on ints -/
def augD : BOp → D → D → Option D
  | .add, .int i, .int j => some (.int (i + j))
  | .sub, .int i, .int j => some (.int (i - j))
  | _, _, _ => none

section
variable (cl : Nat → List D → Ev D) (b wf : Nat)
mutual
def exs1 : CS → Env → Se
  | .expr e, ρ => sbind (ev cl e ρ) ρ fun _ => sret .nx ρ
  | .ret e, ρ => sbind (ev cl e ρ) ρ fun d => sret (.rt d) ρ
  | .retN, ρ => sret (.rt .non) ρ
  | .set i e, ρ => sbind (ev cl e ρ) ρ fun d => sret .nx (ρ.set i (some d))
  | .par is es, ρ => sbind (evs cl es ρ) ρ fun ds => sbind (Ev.lift (setsS ρ is ds)) ρ fun ρ' => sret .nx ρ'
  | .unp is e, ρ => sbind (ev cl e ρ) ρ fun d => sbind (Ev.lift (bindT is false d ρ)) ρ fun ρ' => sret .nx ρ'
  | .app o e, ρ => sbind (ev cl o ρ) ρ fun x => sbind (Ev.look fun M => lstOf M x) ρ fun _ => sbind (ev cl e ρ) ρ fun d => sbind (appE b x d) ρ fun _ => sret .nx ρ
  | .setIx o i e, ρ => sbind (ev cl e ρ) ρ fun d => sbind (ev cl o ρ) ρ fun x => sbind (ev cl i ρ) ρ fun y => sbind (setIxE b x y d) ρ fun _ => sret .nx ρ
  | .augIx op o i e, ρ => sbind (ev cl o ρ) ρ fun x => sbind (ev cl i ρ) ρ fun y => sbind (Ev.lift (intD y)) ρ fun k => sbind (Ev.look fun M => (lstOf M x).bind fun xs => L2.atI xs k) ρ fun old =>
      sbind (ev cl e ρ) ρ fun d => sbind (Ev.lift (augD op old d)) ρ fun new => sbind (setIxE b x y new) ρ fun _ => sret .nx ρ
  | .aug op x e, ρ => sbind (Ev.lift (getS ρ x)) ρ fun old => sbind (ev cl e ρ) ρ fun d => sbind (Ev.lift (augD op old d)) ρ fun new => sret .nx (ρ.set x (some new))
  | .iff c a b, ρ => sbind (ev cl c ρ) ρ fun x => sbind (Ev.lift (truD x)) ρ fun k => match k with | true => exs a ρ | false => exs b ρ
  | .for t single s bd, ρ => sbind (evS cl s ρ) ρ fun w => forW (fun d ρ => match bindT t single d ρ with | none => fun _ => none | some ρ' => exs bd ρ') w (fuelW wf w) 0 ρ
  | .while c bd, ρ => whileE (fun ρ => ev cl c ρ) (fun ρ => exs bd ρ) wf ρ
  | .stuck, _ => fun _ => none
  | .tryK bd hits names m i, ρ => fun M => match exs bd ρ M with
    | none => none
    | some (fl, ρ', M') => match fl with
      | .xc c d => if c < names.length then (if hits.contains c = true then some (.nx, (ρ'.set m (some (.exc (names.getD c Str.empty) d))).set i none, M') else some (.xc c d, ρ', M')) else none
      | .nx => some (.nx, ρ', M')
      | .rt d => some (.rt d, ρ', M')
      | .bk => some (.bk, ρ', M')
      | .ct => some (.ct, ρ', M')
  | .raise c e, ρ => sbind (ev cl e ρ) ρ fun d => sret (.xc c d) ρ
  | .pass, ρ => sret .nx ρ
  | .brk, ρ => sret .bk ρ
  | .cont, ρ => sret .ct ρ
def exs : CSs → Env → Se
  | .nil, ρ => sret .nx ρ
  | .cons s ss, ρ => fun M => match exs1 s ρ M with
    | none => none
    | some (fl, ρ', M') => match fl with
      | .nx => exs ss ρ' M'
      | .rt d => some (.rt d, ρ', M')
      | .bk => some (.bk, ρ', M')
      | .ct => some (.ct, ρ', M')
      | .xc c d => some (.xc c d, ρ', M')
end
end

structure FD where
  np : Nat
  nl : Nat
  body : CSs
  keep : Bool := false

/-- a call: d says how deep -/
def evF (P : Nat → Option FD) (wf : Nat) : Nat → Nat → List D → Ev D
  | 0, _, _ => Ev.fail
  | d + 1, f, args => fun M => match P f with
    | none => none
    | some fd => if args.length = fd.np then match exs (evF P wf d) M.length wf fd.body (args.map some ++ List.replicate (fd.nl - fd.np) none) M with
        | some (.rt r, _, M') => fin fd.keep M.length r M'
        | some (.nx, _, M') => fin fd.keep M.length .non M'
        | some (.xc c v, _, M') => finX M.length c v M'
        | _ => none
      else none
end MP

set_option Elab.async false
set_option linter.all false
set_option maxRecDepth 100000
namespace MP
open PySem PySem.Spec PyProof.Rows L2

def Nf (Z φ : List Addr) (a : Addr) : Prop := a ∉ φ ∧ a ∉ Z
/-- a tuple that stands still; a list of ints that is read only -/
def TupAt (K : PySem.W.Frag) (Z φ : List Addr) (H : Hp) (a : Addr) (xs : List V) : Prop :=
  (H a = some (.tup xs) ∧ Nf Z φ a) ∨ ∃ (o : Obj) (its : Array Value) (n : Nat), K.lookup a = some o ∧ o.cls = .type "tuple" ∧ o.data = .seq its n ∧ its.size ≤ sizeLine ∧ Vals xs its.toList
def LstAt (K : PySem.W.Frag) (Z φ : List Addr) (H : Hp) (a : Addr) (xs : List V) : Prop :=
  (Rd H a (.lst xs) ∧ Nf Z φ a) ∨ ∃ (o : Obj) (its : Array Value) (n : Nat), K.lookup a = some o ∧ o.cls = .type "list" ∧ o.dict = none ∧ o.data = .seq its n ∧ its.size ≤ sizeLine ∧ Vals xs its.toList
theorem TupAt.sq {K : PySem.W.Frag} {Z φ : List Addr} {H : Hp} {a : Addr} {xs : List V} (h : TupAt K Z φ H a xs) : SqT K H a xs := h.imp (fun h => .inl h.1) id
theorem LstAt.sq {K : PySem.W.Frag} {Z φ : List Addr} {H : Hp} {a : Addr} {xs : List V} (h : LstAt K Z φ H a xs) : SqL K H a xs := h.imp (·.1) id
/-- an exception of the class at C stands at a, its own dict at dx -/
def xcO (C dx a : Addr) : HO := .ext fun h => ∃ (oe : Obj) (vs : Array Value), h.get? a = some oe ∧ Zc (.ref C) (some dx) oe ∧ oe.data = .fields vs
/-- what is known of an exception class whose attribute is read -/
structure ExcRd (K : PySem.W.Frag) (C : Addr) : Prop where
  ga : PySem.W.findIn K (.ref C) "__getattribute__" = some (some (.builtin "BaseException.__getattribute__"))
  gg : PySem.W.findIn K (.ref C) "__getattr__" = some none
  no : PySem.W.findIn K (.ref C) "value" = some none
  ex : PySem.W.subIn K (.ref C) (.type "BaseException") = some true
  hd : PySem.W.hasDictIn K C = true
  ca : PySem.W.findIn K (.ref C) "__class__" = some (some (.builtin "object.__class__"))
  cg : PySem.W.specialIn K (.builtin "object.__class__") "__get__" = some (some (.builtin "getset_descriptor.__get__"))
  ct : PySem.W.takesIn K (.builtin "object.__class__") = some true
  cm : PySem.W.mroIn K C (.type "object") = some true
mutual
/-- v stands for d -/
def RelD (K : PySem.W.Frag) (Z φ : List Addr) (H : Hp) : D → V → Prop
  | .non, v => v = .non
  | .bl b, v => v = .bl b
  | .int i, v => v = .int i
  | .str s, v => v = .str s ∧ PyData.strOk s = true ∧ s.length ≤ sizeLine
  | .tup xs, v => ∃ a vs, v = .ref a ∧ TupAt K Z φ H a vs ∧ RelDs K Z φ H xs vs
  | .lst xs, v => ∃ a vs, v = .ref a ∧ H a = some (.lst vs) ∧ Nf Z φ a ∧ RelDs K Z φ H xs vs
  | .ref n, v => ∃ a, φ[n]? = some a ∧ v = .ref a
  | .dct _ _, _ => False
  | .set _, _ => False
  | .exc x y, v => ∃ a dx w, (v = .ref a ∧ ExcRd K (He.ga K x)) ∧ H a = some (xcO (He.ga K x) dx a) ∧ Nf Z φ a ∧ H dx = some (.xd [(("value" : Str), w)]) ∧ Nf Z φ dx ∧ RelD K Z φ H y w
  | .scr ns, v => ∃ a, v = .ref a ∧ LstAt K Z φ H a (ns.map V.int)
def RelDs (K : PySem.W.Frag) (Z φ : List Addr) (H : Hp) : List D → List V → Prop
  | [], vs => vs = []
  | d :: ds, vs => ∃ v r, vs = v :: r ∧ RelD K Z φ H d v ∧ RelDs K Z φ H ds r
end
/-- what has come: places stay, what does not change stays -/
structure Ext (Z φ : List Addr) (H : Hp) (φ' : List Addr) (H' : Hp) : Prop where
  pre : ∃ more, φ' = φ ++ more
  keep : ∀ a o, H a = some o → Nf Z φ a → H' a = some o ∧ Nf Z φ' a
  zs : ∀ a ∈ Z, H' a = H a
  old : ∀ a, a ∈ φ → H a ≠ none
section
variable {K : PySem.W.Frag} {Z φ φ' φ'' : List Addr} {H H' H'' : Hp}
theorem Ext.trans (a : Ext Z φ H φ' H') (b : Ext Z φ' H' φ'' H'') : Ext Z φ H φ'' H'' := by
  obtain ⟨m, rfl⟩ := a.pre
  obtain ⟨m', rfl⟩ := b.pre
  exact ⟨⟨m ++ m', by rw [List.append_assoc]⟩, fun c o h n => let ⟨h1, n1⟩ := a.keep c o h n; b.keep c o h1 n1, fun c hc => (b.zs c hc).trans (a.zs c hc), a.old⟩
theorem Ext.get (e : Ext Z φ H φ' H') {n : Nat} {a : Addr} (h : φ[n]? = some a) : φ'[n]? = some a := by
  obtain ⟨m, rfl⟩ := e.pre
  obtain ⟨h1, h2⟩ := List.getElem?_eq_some_iff.mp h
  rw [List.getElem?_append_left h1]
  exact h
theorem rd_ext (e : Ext Z φ H φ' H') {a : Addr} {u : HO} (h : Rd H a u) (n : Nf Z φ a) : Rd H' a u ∧ Nf Z φ' a := by
  rcases h with h | ⟨o, h⟩
  · exact ⟨.inl (e.keep _ _ h n).1, (e.keep _ _ h n).2⟩
  · exact ⟨.inr ⟨o, (e.keep _ _ h n).1⟩, (e.keep _ _ h n).2⟩
theorem TupAt.ext (e : Ext Z φ H φ' H') {a : Addr} {xs : List V} (h : TupAt K Z φ H a xs) : TupAt K Z φ' H' a xs := h.imp (fun h => e.keep _ _ h.1 h.2) id
theorem LstAt.ext (e : Ext Z φ H φ' H') {a : Addr} {xs : List V} (h : LstAt K Z φ H a xs) : LstAt K Z φ' H' a xs := h.imp (fun h => rd_ext e h.1 h.2) id
mutual
theorem RelD.ext (e : Ext Z φ H φ' H') : ∀ (d : D) (v : V), RelD K Z φ H d v → RelD K Z φ' H' d v
  | .non, v, h => h
  | .bl b, v, h => h
  | .int i, v, h => h
  | .str s, v, h => h
  | .tup xs, v, h => by
    obtain ⟨a, vs, h1, h2, h4⟩ := (show ∃ a vs, v = .ref a ∧ TupAt K Z φ H a vs ∧ RelDs K Z φ H xs vs from h)
    exact ⟨a, vs, h1, h2.ext e, RelDs.ext e xs vs h4⟩
  | .lst xs, v, h => by
    obtain ⟨a, vs, h1, h2, h3, h4⟩ := (show ∃ a vs, v = .ref a ∧ H a = some (.lst vs) ∧ Nf Z φ a ∧ RelDs K Z φ H xs vs from h)
    obtain ⟨h5, h6⟩ := e.keep _ _ h2 h3
    exact ⟨a, vs, h1, h5, h6, RelDs.ext e xs vs h4⟩
  | .ref n, v, h => by
    obtain ⟨a, h1, h2⟩ := (show ∃ a, φ[n]? = some a ∧ v = .ref a from h)
    exact ⟨a, e.get h1, h2⟩
  | .dct _ _, v, h => h
  | .set _, v, h => h
  | .exc x y, v, h => by
    obtain ⟨a, dx, w, h1, h2, h3, h4, h5, h6⟩ := (show ∃ a dx w, (v = .ref a ∧ ExcRd K (He.ga K x)) ∧ H a = some (xcO (He.ga K x) dx a) ∧ Nf Z φ a ∧ H dx = some (.xd [(("value" : Str), w)]) ∧ Nf Z φ dx ∧ RelD K Z φ H y w from h)
    exact ⟨a, dx, w, h1, (e.keep _ _ h2 h3).1, (e.keep _ _ h2 h3).2, (e.keep _ _ h4 h5).1, (e.keep _ _ h4 h5).2, RelD.ext e y w h6⟩
  | .scr ns, v, h => by
    obtain ⟨a, h1, h2⟩ := (show ∃ a, v = .ref a ∧ LstAt K Z φ H a (ns.map V.int) from h)
    exact ⟨a, h1, h2.ext e⟩
theorem RelDs.ext (e : Ext Z φ H φ' H') : ∀ (ds : List D) (vs : List V), RelDs K Z φ H ds vs → RelDs K Z φ' H' ds vs
  | [], vs, h => h
  | d :: ds, vs, h => by
    obtain ⟨v, r, h1, h2, h3⟩ := (show ∃ v r, vs = v :: r ∧ RelD K Z φ H d v ∧ RelDs K Z φ H ds r from h)
    exact ⟨v, r, h1, RelD.ext e d v h2, RelDs.ext e ds r h3⟩
end
theorem RelDs.length : ∀ {ds : List D} {vs : List V}, RelDs K Z φ H ds vs → vs.length = ds.length
  | [], _, h => by cases (show _ = [] from h); rfl
  | d :: ds, _, h => by
    obtain ⟨v, r, rfl, _, h3⟩ := (show ∃ v r, _ = v :: r ∧ RelD K Z φ H d v ∧ RelDs K Z φ H ds r from h)
    simp [RelDs.length h3]
theorem RelDs.get : ∀ {ds : List D} {vs : List V} {i : Nat} {d : D}, RelDs K Z φ H ds vs → ds[i]? = some d → ∃ v, vs[i]? = some v ∧ RelD K Z φ H d v
  | [], _, _, _, _, e => by simp at e
  | d :: ds, _, 0, _, h, e => by
    obtain ⟨v, r, rfl, h2, h3⟩ := (show ∃ v r, _ = v :: r ∧ RelD K Z φ H d v ∧ RelDs K Z φ H ds r from h)
    simp at e; subst e; exact ⟨v, rfl, h2⟩
  | d :: ds, _, i + 1, _, h, e => by
    obtain ⟨v, r, rfl, h2, h3⟩ := (show ∃ v r, _ = v :: r ∧ RelD K Z φ H d v ∧ RelDs K Z φ H ds r from h)
    simpa using RelDs.get (i := i) h3 (by simpa using e)
theorem RelDs.get' {ds : List D} {vs : List V} {i : Nat} {v : V} (h : RelDs K Z φ H ds vs) (e : vs[i]? = some v) : ∃ d, ds[i]? = some d ∧ RelD K Z φ H d v := by
  have hl := h.length
  have hi : i < ds.length := by rw [← hl]; exact (List.getElem?_eq_some_iff.mp e).1
  obtain ⟨v', h1, h2⟩ := h.get (i := i) (d := ds[i]) (by simp [hi])
  rw [e] at h1; cases h1
  exact ⟨ds[i], by simp [hi], h2⟩
theorem RelDs.app : ∀ {ds es : List D} {vs ws : List V}, RelDs K Z φ H ds vs → RelDs K Z φ H es ws → RelDs K Z φ H (ds ++ es) (vs ++ ws)
  | [], _, _, _, h, h' => by cases (show _ = [] from h); exact h'
  | d :: ds, _, _, _, h, h' => by
    obtain ⟨v, r, rfl, h2, h3⟩ := (show ∃ v r, _ = v :: r ∧ RelD K Z φ H d v ∧ RelDs K Z φ H ds r from h)
    exact ⟨v, _, rfl, h2, RelDs.app h3 h'⟩
theorem RelDs.drop : ∀ (n : Nat) {ds : List D} {vs : List V}, RelDs K Z φ H ds vs → RelDs K Z φ H (ds.drop n) (vs.drop n)
  | 0, _, _, h => h
  | n + 1, [], _, h => by cases (show _ = [] from h); exact rfl
  | n + 1, d :: ds, _, h => by
    obtain ⟨v, r, rfl, h2, h3⟩ := (show ∃ v r, _ = v :: r ∧ RelD K Z φ H d v ∧ RelDs K Z φ H ds r from h)
    exact RelDs.drop n h3
theorem RelDs.take : ∀ (n : Nat) {ds : List D} {vs : List V}, RelDs K Z φ H ds vs → RelDs K Z φ H (ds.take n) (vs.take n)
  | 0, _, _, h => rfl
  | n + 1, [], _, h => by cases (show _ = [] from h); exact rfl
  | n + 1, d :: ds, _, h => by
    obtain ⟨v, r, rfl, h2, h3⟩ := (show ∃ v r, _ = v :: r ∧ RelD K Z φ H d v ∧ RelDs K Z φ H ds r from h)
    exact ⟨v, _, rfl, h2, RelDs.take n h3⟩
theorem RelDs.set {d : D} {v : V} (hd : RelD K Z φ H d v) : ∀ (n : Nat) {ds : List D} {vs : List V}, RelDs K Z φ H ds vs → RelDs K Z φ H (ds.set n d) (vs.set n v)
  | _, [], _, h => by cases (show _ = [] from h); exact rfl
  | 0, e :: ds, _, h => by
    obtain ⟨v, r, rfl, h2, h3⟩ := (show ∃ v r, _ = v :: r ∧ RelD K Z φ H e v ∧ RelDs K Z φ H ds r from h)
    exact ⟨_, _, rfl, hd, h3⟩
  | n + 1, e :: ds, _, h => by
    obtain ⟨v, r, rfl, h2, h3⟩ := (show ∃ v r, _ = v :: r ∧ RelD K Z φ H e v ∧ RelDs K Z φ H ds r from h)
    exact ⟨_, _, rfl, h2, RelDs.set hd n h3⟩
theorem RelDs.one {d : D} {v : V} (h : RelD K Z φ H d v) : RelDs K Z φ H [d] [v] := ⟨v, [], rfl, h, rfl⟩
theorem RelDs.rep {ds : List D} {vs : List V} (h : RelDs K Z φ H ds vs) : ∀ n : Nat, RelDs K Z φ H (List.replicate n ds).flatten (List.replicate n vs).flatten
  | 0 => rfl
  | n + 1 => by
    rw [List.replicate_succ, List.replicate_succ, List.flatten_cons, List.flatten_cons]
    exact h.app (RelDs.rep h n)
theorem RelDs.map {α : Type} {f : α → D} {g : α → V} (h : ∀ a, RelD K Z φ H (f a) (g a)) : ∀ l : List α, RelDs K Z φ H (l.map f) (l.map g)
  | [] => rfl
  | a :: l => ⟨_, _, rfl, h a, RelDs.map h l⟩
end

def ObjR (K : PySem.W.Frag) (Z φ : List Addr) (H : Hp) (a : Addr) : MO → Prop
  | .lst xs => ∃ vs, H a = some (.lst vs) ∧ RelDs K Z φ H xs vs
  | _ => False
def belowO (b : Nat) : MO → Bool
  | .lst xs => belows b xs
  | _ => true
/-- the small state and the state -/
structure Rel (K : PySem.W.Frag) (Z φ : List Addr) (B : List Nat) (ρ : Env) (M : MH) (σ : L2.St) (H : Hp) : Prop where
  len : φ.length = M.length
  bas : ∀ b ∈ B, b ≤ M.length
  nd : φ.Nodup
  zz : ∀ a ∈ Z, H a ≠ none ∧ a ∉ φ
  obj : ∀ (n : Nat) (a : Addr) (mo : MO), φ[n]? = some a → M[n]? = some mo → ObjR K Z φ H a mo
  old : ∀ b ∈ B, ∀ (m : Nat) (mo : MO), m < b → M[m]? = some mo → belowO b mo = true
  ρlen : ρ.length = σ.length
  env : ∀ (i : Nat) (d : D), ρ[i]? = some (some d) → ∃ v, σ[i]? = some (some v) ∧ RelD K Z φ H d v
section
variable {K : PySem.W.Frag} {Z φ φ' φ'' : List Addr} {H H' H'' : Hp} {b : Nat} {B : List Nat} {ρ : Env} {M M' : MH} {σ : L2.St}
theorem Rel.there (R : Rel K Z φ B ρ M σ H) {a : Addr} (h : a ∈ φ) : ∃ vs, H a = some (.lst vs) := by
  obtain ⟨n, hn⟩ := List.mem_iff_getElem?.mp h
  have hi : n < M.length := by rw [← R.len]; exact (List.getElem?_eq_some_iff.mp hn).1
  have q := R.obj n a M[n] hn (by simp [hi])
  cases e : M[n] with
  | lst xs => rw [e] at q; obtain ⟨vs, h1, _⟩ := q; exact ⟨vs, h1⟩
  | dead => rw [e] at q; exact q.elim
  | dct _ _ => rw [e] at q; exact q.elim
  | set _ => rw [e] at q; exact q.elim
theorem Rel.fresh (R : Rel K Z φ B ρ M σ H) {p : Addr} (h : H p = none) : Nf Z φ p := by
  refine ⟨fun z => ?_, fun z => (R.zz p z).1 h⟩
  obtain ⟨vs, e⟩ := R.there z
  rw [h] at e; cases e
theorem Ext.refl (R : Rel K Z φ B ρ M σ H) : Ext Z φ H φ H :=
  ⟨⟨[], by simp⟩, fun _ _ h n => ⟨h, n⟩, fun _ _ => rfl, fun a ha => by
    obtain ⟨vs, e⟩ := R.there ha
    rw [e]; simp⟩
theorem ObjR.ext (e : Ext Z φ H φ' H') {a : Addr} {mo : MO} (h : ObjR K Z φ H a mo) (hk : H' a = H a) : ObjR K Z φ' H' a mo := by
  cases mo with
  | lst xs =>
    obtain ⟨vs, h3, h4⟩ := h
    exact ⟨vs, hk.trans h3, RelDs.ext e _ _ h4⟩
  | dead => exact h.elim
  | dct _ _ => exact h.elim
  | set _ => exact h.elim
/-- something new has come that has no place -/
theorem Rel.new (R : Rel K Z φ B ρ M σ H) {p : Addr} {o : HO} (hp : H p = none) : Rel K Z φ B ρ M σ (upd H p o) ∧ Ext Z φ H φ (upd H p o) := by
  have hz : ∀ a ∈ Z, upd H p o a = H a := fun a ha => upd_ne fun z => (R.zz a ha).1 (by rw [z]; exact hp)
  have e : Ext Z φ H φ (upd H p o) := ⟨⟨[], by simp⟩, fun a o h n => ⟨by rw [upd_ne (ne_of_none h hp)]; exact h, n⟩, hz, (Ext.refl R).old⟩
  refine ⟨⟨R.len, R.bas, R.nd, fun a ha => ⟨by rw [hz a ha]; exact (R.zz a ha).1, (R.zz a ha).2⟩, fun n a mo h1 h2 => ?_, R.old, R.ρlen, fun i d h => ?_⟩, e⟩
  · obtain ⟨vs, h3⟩ := R.there (List.mem_of_getElem? h1)
    exact (R.obj n a mo h1 h2).ext e (upd_ne (ne_of_none h3 hp))
  · obtain ⟨v, h1, h2⟩ := R.env i d h
    exact ⟨v, h1, RelD.ext e _ _ h2⟩
mutual
/-- an address that was kept back gets a place -/
theorem RelD.place {p : Addr} (q : ∀ a, Nf (p :: Z) φ a → Nf Z (φ ++ [p]) a) : ∀ (d : D) (v : V), RelD K (p :: Z) φ H d v → RelD K Z (φ ++ [p]) H d v
  | .non, v, h => h
  | .bl b, v, h => h
  | .int i, v, h => h
  | .str s, v, h => h
  | .tup xs, v, h => by
    obtain ⟨a, vs, h1, h2, h4⟩ := (show ∃ a vs, v = .ref a ∧ TupAt K (p :: Z) φ H a vs ∧ RelDs K (p :: Z) φ H xs vs from h)
    exact ⟨a, vs, h1, h2.imp (fun h => ⟨h.1, q a h.2⟩) id, RelDs.place q xs vs h4⟩
  | .lst xs, v, h => by
    obtain ⟨a, vs, h1, h2, h3, h4⟩ := (show ∃ a vs, v = .ref a ∧ H a = some (.lst vs) ∧ Nf (p :: Z) φ a ∧ RelDs K (p :: Z) φ H xs vs from h)
    exact ⟨a, vs, h1, h2, q a h3, RelDs.place q xs vs h4⟩
  | .ref n, v, h => by
    obtain ⟨a, h1, h2⟩ := (show ∃ a, φ[n]? = some a ∧ v = .ref a from h)
    exact ⟨a, by rw [List.getElem?_append_left (List.getElem?_eq_some_iff.mp h1).1]; exact h1, h2⟩
  | .dct _ _, v, h => h
  | .set _, v, h => h
  | .exc x y, v, h => by
    obtain ⟨a, dx, w, h1, h2, h3, h4, h5, h6⟩ := (show ∃ a dx w, (v = .ref a ∧ ExcRd K (He.ga K x)) ∧ H a = some (xcO (He.ga K x) dx a) ∧ Nf (p :: Z) φ a ∧ H dx = some (.xd [(("value" : Str), w)]) ∧ Nf (p :: Z) φ dx ∧ RelD K (p :: Z) φ H y w from h)
    exact ⟨a, dx, w, h1, h2, q a h3, h4, q dx h5, RelD.place q y w h6⟩
  | .scr ns, v, h => by
    obtain ⟨a, h1, h2⟩ := (show ∃ a, v = .ref a ∧ LstAt K (p :: Z) φ H a (ns.map V.int) from h)
    exact ⟨a, h1, h2.imp (fun h => ⟨h.1, q a h.2⟩) id⟩
theorem RelDs.place {p : Addr} (q : ∀ a, Nf (p :: Z) φ a → Nf Z (φ ++ [p]) a) : ∀ (ds : List D) (vs : List V), RelDs K (p :: Z) φ H ds vs → RelDs K Z (φ ++ [p]) H ds vs
  | [], vs, h => h
  | d :: ds, vs, h => by
    obtain ⟨v, r, h1, h2, h3⟩ := (show ∃ v r, vs = v :: r ∧ RelD K (p :: Z) φ H d v ∧ RelDs K (p :: Z) φ H ds r from h)
    exact ⟨v, r, h1, RelD.place q d v h2, RelDs.place q ds r h3⟩
end
mutual
/-- less is kept back -/
theorem RelD.less {Z' : List Addr} (q : ∀ a, Nf Z φ a → Nf Z' φ a) : ∀ (d : D) (v : V), RelD K Z φ H d v → RelD K Z' φ H d v
  | .non, v, h => h
  | .bl b, v, h => h
  | .int i, v, h => h
  | .str s, v, h => h
  | .tup xs, v, h => by
    obtain ⟨a, vs, h1, h2, h4⟩ := (show ∃ a vs, v = .ref a ∧ TupAt K Z φ H a vs ∧ RelDs K Z φ H xs vs from h)
    exact ⟨a, vs, h1, h2.imp (fun h => ⟨h.1, q a h.2⟩) id, RelDs.less q xs vs h4⟩
  | .lst xs, v, h => by
    obtain ⟨a, vs, h1, h2, h3, h4⟩ := (show ∃ a vs, v = .ref a ∧ H a = some (.lst vs) ∧ Nf Z φ a ∧ RelDs K Z φ H xs vs from h)
    exact ⟨a, vs, h1, h2, q a h3, RelDs.less q xs vs h4⟩
  | .ref n, v, h => h
  | .dct _ _, v, h => h
  | .set _, v, h => h
  | .exc x y, v, h => by
    obtain ⟨a, dx, w, h1, h2, h3, h4, h5, h6⟩ := (show ∃ a dx w, (v = .ref a ∧ ExcRd K (He.ga K x)) ∧ H a = some (xcO (He.ga K x) dx a) ∧ Nf Z φ a ∧ H dx = some (.xd [(("value" : Str), w)]) ∧ Nf Z φ dx ∧ RelD K Z φ H y w from h)
    exact ⟨a, dx, w, h1, h2, q a h3, h4, q dx h5, RelD.less q y w h6⟩
  | .scr ns, v, h => by
    obtain ⟨a, h1, h2⟩ := (show ∃ a, v = .ref a ∧ LstAt K Z φ H a (ns.map V.int) from h)
    exact ⟨a, h1, h2.imp (fun h => ⟨h.1, q a h.2⟩) id⟩
theorem RelDs.less {Z' : List Addr} (q : ∀ a, Nf Z φ a → Nf Z' φ a) : ∀ (ds : List D) (vs : List V), RelDs K Z φ H ds vs → RelDs K Z' φ H ds vs
  | [], vs, h => h
  | d :: ds, vs, h => by
    obtain ⟨v, r, h1, h2, h3⟩ := (show ∃ v r, vs = v :: r ∧ RelD K Z φ H d v ∧ RelDs K Z φ H ds r from h)
    exact ⟨v, r, h1, RelD.less q d v h2, RelDs.less q ds r h3⟩
end
theorem ObjR.less {Z' : List Addr} (q : ∀ a, Nf Z φ a → Nf Z' φ a) {a : Addr} {mo : MO} (h : ObjR K Z φ H a mo) : ObjR K Z' φ H a mo := by
  cases mo with
  | lst xs =>
    obtain ⟨vs, h3, h4⟩ := h
    exact ⟨vs, h3, RelDs.less q _ _ h4⟩
  | dead => exact h.elim
  | dct _ _ => exact h.elim
  | set _ => exact h.elim
theorem nf_less {p a : Addr} (h : Nf (p :: Z) φ a) : Nf Z φ a := ⟨h.1, fun z => h.2 (List.mem_cons_of_mem _ z)⟩
mutual
theorem RelD.hold {p : Addr} (k : ∀ (a : Addr) (u : HO), H a = some u → Nf Z φ a → H' a = some u ∧ Nf (p :: Z) φ a) : ∀ (d : D) (v : V), RelD K Z φ H d v → RelD K (p :: Z) φ H' d v
  | .non, v, h => h
  | .bl b, v, h => h
  | .int i, v, h => h
  | .str s, v, h => h
  | .tup xs, v, h => by
    obtain ⟨a, vs, h1, h2, h4⟩ := (show ∃ a vs, v = .ref a ∧ TupAt K Z φ H a vs ∧ RelDs K Z φ H xs vs from h)
    exact ⟨a, vs, h1, h2.imp (fun h => k _ _ h.1 h.2) id, RelDs.hold k xs vs h4⟩
  | .lst xs, v, h => by
    obtain ⟨a, vs, h1, h2, h3, h4⟩ := (show ∃ a vs, v = .ref a ∧ H a = some (.lst vs) ∧ Nf Z φ a ∧ RelDs K Z φ H xs vs from h)
    exact ⟨a, vs, h1, (k _ _ h2 h3).1, (k _ _ h2 h3).2, RelDs.hold k xs vs h4⟩
  | .ref n, v, h => h
  | .dct _ _, v, h => h
  | .set _, v, h => h
  | .exc x y, v, h => by
    obtain ⟨a, dx, w, h1, h2, h3, h4, h5, h6⟩ := (show ∃ a dx w, (v = .ref a ∧ ExcRd K (He.ga K x)) ∧ H a = some (xcO (He.ga K x) dx a) ∧ Nf Z φ a ∧ H dx = some (.xd [(("value" : Str), w)]) ∧ Nf Z φ dx ∧ RelD K Z φ H y w from h)
    exact ⟨a, dx, w, h1, (k _ _ h2 h3).1, (k _ _ h2 h3).2, (k _ _ h4 h5).1, (k _ _ h4 h5).2, RelD.hold k y w h6⟩
  | .scr ns, v, h => by
    obtain ⟨a, h1, h2⟩ := (show ∃ a, v = .ref a ∧ LstAt K Z φ H a (ns.map V.int) from h)
    refine ⟨a, h1, h2.imp (fun h => ?_) id⟩
    rcases h with ⟨h | ⟨q, h⟩, n⟩
    · exact ⟨.inl (k _ _ h n).1, (k _ _ h n).2⟩
    · exact ⟨.inr ⟨q, (k _ _ h n).1⟩, (k _ _ h n).2⟩
theorem RelDs.hold {p : Addr} (k : ∀ (a : Addr) (u : HO), H a = some u → Nf Z φ a → H' a = some u ∧ Nf (p :: Z) φ a) : ∀ (ds : List D) (vs : List V), RelDs K Z φ H ds vs → RelDs K (p :: Z) φ H' ds vs
  | [], vs, h => h
  | d :: ds, vs, h => by
    obtain ⟨v, r, h1, h2, h3⟩ := (show ∃ v r, vs = v :: r ∧ RelD K Z φ H d v ∧ RelDs K Z φ H ds r from h)
    exact ⟨v, r, h1, RelD.hold k d v h2, RelDs.hold k ds r h3⟩
end
/-- a new object is kept back -/
theorem Rel.hold (R : Rel K Z φ B ρ M σ H) {p : Addr} {o : HO} (hp : H p = none) : Rel K (p :: Z) φ B ρ M σ (upd H p o) := by
  have hz : ∀ a ∈ Z, upd H p o a = H a := fun a ha => upd_ne fun z => (R.zz a ha).1 (by rw [z]; exact hp)
  have np := R.fresh hp
  have k1 : ∀ {a : Addr} {u : HO}, H a = some u → Nf Z φ a → upd H p o a = some u ∧ Nf (p :: Z) φ a := fun {a u} h n => by
    have ne := ne_of_none h hp
    exact ⟨by rw [upd_ne ne]; exact h, n.1, fun z => (List.mem_cons.mp z).elim ne n.2⟩
  have main := fun d v => RelD.hold (K := K) (H' := upd H p o) (fun a u => k1 (a := a) (u := u)) d v
  have mains := fun d v => RelDs.hold (K := K) (H' := upd H p o) (fun a u => k1 (a := a) (u := u)) d v
  refine ⟨R.len, R.bas, R.nd, fun a ha => ?_, fun n a mo h1 h2 => ?_, R.old, R.ρlen, fun i d h => ?_⟩
  · rcases List.mem_cons.mp ha with rfl | ha
    · rw [upd_same]; exact ⟨by simp, np.1⟩
    · rw [hz a ha]; exact R.zz a ha
  · have q := R.obj n a mo h1 h2
    cases mo with
    | lst xs =>
      obtain ⟨vs, h3, h4⟩ := q
      exact ⟨vs, by rw [upd_ne (ne_of_none h3 hp)]; exact h3, mains _ _ h4⟩
    | dead => exact q.elim
    | dct _ _ => exact q.elim
    | set _ => exact q.elim
  · obtain ⟨v, h1, h2⟩ := R.env i d h
    exact ⟨v, h1, main d v h2⟩
/-- what was kept back is a plain object again -/
theorem Rel.unhold {p : Addr} (R : Rel K (p :: Z) φ B ρ M σ H) : Rel K Z φ B ρ M σ H :=
  ⟨R.len, R.bas, R.nd, fun a ha => R.zz a (List.mem_cons_of_mem _ ha), fun n a mo h1 h2 => (R.obj n a mo h1 h2).less fun _ => nf_less, R.old, R.ρlen, fun i d h =>
    let ⟨v, h1, h2⟩ := R.env i d h
    ⟨v, h1, RelD.less (fun _ => nf_less) _ _ h2⟩⟩
theorem nf_place {p a : Addr} (h : Nf (p :: Z) φ a) : Nf Z (φ ++ [p]) a :=
  ⟨fun z => (List.mem_append.mp z).elim h.1 fun z => h.2 (List.mem_cons.mpr (.inl (List.mem_singleton.mp z))), fun z => h.2 (List.mem_cons_of_mem _ z)⟩
/-- .. or gets a place -/
theorem Rel.place {p : Addr} (R : Rel K (p :: Z) φ B ρ M σ H) (hpz : p ∉ Z) {xs : List D} {vs : List V} (hp : H p = some (.lst vs)) (h : RelDs K (p :: Z) φ H xs vs) :
    Rel K Z (φ ++ [p]) B ρ (M ++ [.lst xs]) σ H := by
  have np : p ∉ φ := (R.zz p List.mem_cons_self).2
  refine ⟨by simp [R.len], fun b hb => by simp; exact Nat.le_succ_of_le (R.bas b hb), ?_, fun a ha => ⟨(R.zz a (List.mem_cons_of_mem _ ha)).1, fun z => ?_⟩, fun n a mo h1 h2 => ?_, fun b hb' m mo h1 h2 => ?_, R.ρlen, fun i d h => ?_⟩
  · rw [List.nodup_append]
    exact ⟨R.nd, by simp, fun a ha b hb z => by rw [List.mem_singleton.mp hb] at z; exact np (z ▸ ha)⟩
  · rcases List.mem_append.mp z with z | z
    · exact (R.zz a (List.mem_cons_of_mem _ ha)).2 z
    · exact hpz (by rw [← List.mem_singleton.mp z]; exact ha)
  · by_cases hn : n < φ.length
    · rw [List.getElem?_append_left hn] at h1
      rw [List.getElem?_append_left (by rw [← R.len]; exact hn)] at h2
      have q := R.obj n a mo h1 h2
      cases mo with
      | lst ys =>
        obtain ⟨ws, h3, h4⟩ := q
        exact ⟨ws, h3, RelDs.place (fun _ => nf_place) _ _ h4⟩
      | dead => exact q.elim
      | dct _ _ => exact q.elim
      | set _ => exact q.elim
    · have hn' : n = φ.length := by
        have := (List.getElem?_eq_some_iff.mp h1).1
        simp at this; omega
      subst hn'
      rw [List.getElem?_append_right (Nat.le_refl _)] at h1
      rw [List.getElem?_append_right (by rw [R.len]; exact Nat.le_refl _)] at h2
      simp at h1 h2
      rw [R.len] at h2
      simp at h2
      subst h1; subst h2
      exact ⟨vs, hp, RelDs.place (fun _ => nf_place) _ _ h⟩
  · rw [List.getElem?_append_left (Nat.lt_of_lt_of_le h1 (R.bas b hb'))] at h2
    exact R.old b hb' m mo h1 h2
  · obtain ⟨v, h1, h2⟩ := R.env i d h
    exact ⟨v, h1, RelD.place (fun _ => nf_place) _ _ h2⟩
mutual
theorem below_of (nl : ∀ (m : Nat) (a : Addr), φ[m]? = some a → m < φ.length) (hb : φ.length ≤ b) : ∀ (d : D) (v : V), RelD K Z φ H d v → below b d = true
  | .non, v, h => rfl
  | .bl _, v, h => rfl
  | .int i, v, h => rfl
  | .str s, v, h => rfl
  | .tup xs, v, h => by
    obtain ⟨a, vs, _, _, h4⟩ := (show ∃ a vs, v = .ref a ∧ TupAt K Z φ H a vs ∧ RelDs K Z φ H xs vs from h)
    exact belows_of nl hb xs vs h4
  | .lst xs, v, h => by
    obtain ⟨a, vs, _, _, _, h4⟩ := (show ∃ a vs, v = .ref a ∧ H a = some (.lst vs) ∧ Nf Z φ a ∧ RelDs K Z φ H xs vs from h)
    exact belows_of nl hb xs vs h4
  | .ref n, v, h => by
    obtain ⟨a, h1, h2⟩ := (show ∃ a, φ[n]? = some a ∧ v = .ref a from h)
    exact decide_eq_true (Nat.lt_of_lt_of_le (nl n a h1) hb)
  | .dct _ _, v, h => h.elim
  | .set _, v, h => h.elim
  | .exc x y, v, h => by
    obtain ⟨a, dx, w, h1, h2, h3, h4, h5, h6⟩ := (show ∃ a dx w, (v = .ref a ∧ ExcRd K (He.ga K x)) ∧ H a = some (xcO (He.ga K x) dx a) ∧ Nf Z φ a ∧ H dx = some (.xd [(("value" : Str), w)]) ∧ Nf Z φ dx ∧ RelD K Z φ H y w from h)
    exact below_of nl hb y w h6
  | .scr _, v, h => rfl
theorem belows_of (nl : ∀ (m : Nat) (a : Addr), φ[m]? = some a → m < φ.length) (hb : φ.length ≤ b) : ∀ (ds : List D) (vs : List V), RelDs K Z φ H ds vs → belows b ds = true
  | [], vs, h => rfl
  | d :: ds, vs, h => by
    obtain ⟨v, r, h1, h2, h3⟩ := (show ∃ v r, vs = v :: r ∧ RelD K Z φ H d v ∧ RelDs K Z φ H ds r from h)
    show (below b d && belows b ds) = true
    rw [below_of nl hb d v h2, belows_of nl hb ds r h3]; rfl
end
mutual
theorem below_norefs : ∀ d : D, norefs d = true → below b d = true
  | .non, _ => rfl
  | .bl _, _ => rfl
  | .int _, _ => rfl
  | .str _, _ => rfl
  | .tup xs, h => belows_norefs xs h
  | .lst xs, h => belows_norefs xs h
  | .dct ks vs, h => by
    obtain ⟨h1, h2⟩ := Bool.and_eq_true_iff.mp (show (norefss ks && norefss vs) = true from h)
    show (belows b ks && belows b vs) = true
    rw [belows_norefs ks h1, belows_norefs vs h2]; rfl
  | .set xs, h => belows_norefs xs h
  | .ref _, h => by cases h
  | .exc _ v, h => below_norefs v h
  | .scr _, h => rfl
theorem belows_norefs : ∀ ds : List D, norefss ds = true → belows b ds = true
  | [], _ => rfl
  | d :: ds, h => by
    obtain ⟨h1, h2⟩ := Bool.and_eq_true_iff.mp (show (norefs d && norefss ds) = true from h)
    show (below b d && belows b ds) = true
    rw [below_norefs d h1, belows_norefs ds h2]; rfl
end
theorem belows_app : ∀ (ds es : List D), belows b (ds ++ es) = (belows b ds && belows b es)
  | [], es => rfl
  | d :: ds, es => by
    show (below b d && belows b (ds ++ es)) = ((below b d && belows b ds) && belows b es)
    rw [belows_app ds es, Bool.and_assoc]
theorem belows_set {d : D} (h : below b d = true) : ∀ (n : Nat) (ds : List D), belows b ds = true → belows b (ds.set n d) = true
  | _, [], h => h
  | 0, e :: ds, h' => by
    obtain ⟨h1, h2⟩ := Bool.and_eq_true_iff.mp (show (below b e && belows b ds) = true from h')
    show (below b d && belows b ds) = true
    rw [h, h2]; rfl
  | n + 1, e :: ds, h' => by
    obtain ⟨h1, h2⟩ := Bool.and_eq_true_iff.mp (show (below b e && belows b ds) = true from h')
    show (below b e && belows b (ds.set n d)) = true
    rw [h1, belows_set h n ds h2]; rfl
/-- a list that may change has changed -/
theorem Rel.write (R : Rel K Z φ B ρ M σ H) {n : Nat} {a : Addr} {xs xs' : List D} {vs' : List V} (hn : φ[n]? = some a) (hm : M[n]? = some (.lst xs)) (h : RelDs K Z φ H xs' vs') (hb : ∀ b ∈ B, n < b → belows b xs' = true) :
    Rel K Z φ B ρ (M.set n (.lst xs')) σ (upd H a (.lst vs')) ∧ Ext Z φ H φ (upd H a (.lst vs')) := by
  have ha : a ∈ φ := List.mem_of_getElem? hn
  have hz : ∀ c ∈ Z, upd H a (.lst vs') c = H c := fun c hc => upd_ne fun z => (R.zz c hc).2 (by rw [z]; exact ha)
  have e : Ext Z φ H φ (upd H a (.lst vs')) := ⟨⟨[], by simp⟩, fun c o h n => ⟨by rw [upd_ne (show c ≠ a from fun z => n.1 (by rw [z]; exact ha))]; exact h, n⟩, hz, (Ext.refl R).old⟩
  have hlt : n < M.length := (List.getElem?_eq_some_iff.mp hm).1
  refine ⟨⟨by simp [R.len], fun b hb' => by simpa using R.bas b hb', R.nd, fun c hc => ⟨by rw [hz c hc]; exact (R.zz c hc).1, (R.zz c hc).2⟩, fun m c mo h1 h2 => ?_, fun b hb' m mo h1 h2 => ?_, R.ρlen, fun i d h => ?_⟩, e⟩
  · by_cases hmn : m = n
    · subst hmn
      rw [hn] at h1; cases h1
      rw [List.getElem?_set_self hlt] at h2; cases h2
      exact ⟨vs', upd_same, RelDs.ext e _ _ h⟩
    · rw [List.getElem?_set_ne (Ne.symm hmn)] at h2
      have hc : c ≠ a := fun z => by
        subst z
        have h3 := (List.getElem?_eq_some_iff.mp h1)
        have h4 := (List.getElem?_eq_some_iff.mp hn)
        exact hmn ((List.getElem_inj R.nd).mp (h3.2.trans h4.2.symm))
      exact (R.obj m c mo h1 h2).ext e (upd_ne hc)
  · by_cases hmn : m = n
    · subst hmn
      rw [List.getElem?_set_self hlt] at h2; cases h2
      exact hb b hb' h1
    · rw [List.getElem?_set_ne (Ne.symm hmn)] at h2
      exact R.old b hb' m mo h1 h2
  · obtain ⟨v, h1, h2⟩ := R.env i d h
    exact ⟨v, h1, RelD.ext e _ _ h2⟩
/-- a slot is set -/
theorem Rel.setS (R : Rel K Z φ B ρ M σ H) {i : Nat} {d : D} {v : V} (h : RelD K Z φ H d v) : Rel K Z φ B (ρ.set i (some d)) M (σ.set i (some v)) H := by
  refine ⟨R.len, R.bas, R.nd, R.zz, R.obj, R.old, by simp [R.ρlen], fun j e hj => ?_⟩
  by_cases hij : i = j
  · subst hij
    have hlt : i < ρ.length := by have := (List.getElem?_eq_some_iff.mp hj).1; simpa using this
    rw [List.getElem?_set_self hlt] at hj; cases hj
    exact ⟨v, List.getElem?_set_self (by rw [← R.ρlen]; exact hlt), h⟩
  · rw [List.getElem?_set_ne hij] at hj
    obtain ⟨u, h1, h2⟩ := R.env j e hj
    exact ⟨u, by rw [List.getElem?_set_ne hij]; exact h1, h2⟩
/-- slots forgotten on both sides -/
theorem Rel.clr (R : Rel K Z φ B ρ M σ H) (i : Nat) : Rel K Z φ B (ρ.set i none) M (σ.set i none) H := by
  refine ⟨R.len, R.bas, R.nd, R.zz, R.obj, R.old, by simp [R.ρlen], fun j e hj => ?_⟩
  by_cases hij : i = j
  · subst hij
    by_cases hlt : i < ρ.length
    · rw [List.getElem?_set_self hlt] at hj; cases hj
    · rw [List.getElem?_eq_none (by simpa using hlt)] at hj; cases hj
  · rw [List.getElem?_set_ne hij] at hj
    obtain ⟨u, h1, h2⟩ := R.env j e hj
    exact ⟨u, by rw [List.getElem?_set_ne hij]; exact h1, h2⟩
theorem Rel.wipe (R : Rel K Z φ B ρ M σ H) : ∀ ws : List Nat, Rel K Z φ B (wipeS ρ ws) M (L2.wipe σ ws) H
  | [] => R
  | w :: ws => (Rel.wipe R ws).clr w
end
end MP

set_option Elab.async false
set_option linter.all false
set_option maxRecDepth 100000
set_option maxHeartbeats 1000000
namespace MP
open PySem PySem.Spec PyProof.Rows L2

/-- what is asked of an evaluation's end -/
def Out (K : PySem.W.Frag) (Z : List Addr) (B : List Nat) (ca : Nat → Addr) (W : WX) (ρ : Env) (σ : L2.St) (φ : List Addr) (H : Hp) {α : Type} (r : Option (Rs α)) (Q : α → MH → List Addr → Hp → Prop) : Prop :=
  match r with
  | none => False
  | some (.ok a M') => ∀ φ' H', Rel K Z φ' B ρ M' σ H' → Ext Z φ H φ' H' → Q a M' φ' H'
  | some (.ex c d M') => ∀ φ' H' v dx, Rel K Z φ' B ρ M' σ H' → Ext Z φ H φ' H' → Nf Z φ' dx → H' dx = some (.xd [("value", v)]) → RelD K Z φ' H' d v → W (.ref (ca c)) (some dx) σ H'
section
variable {K : PySem.W.Frag} {B : List Nat} {ca : Nat → Addr} {W : WX} {ρ : Env} {σ : L2.St} {Z φ φ' : List Addr} {H H' : Hp} {α β : Type} {M M' : MH}
theorem Out.imp {r : Option (Rs α)} {Q Q' : α → MH → List Addr → Hp → Prop} (h : Out K Z B ca W ρ σ φ H r Q) (i : ∀ a M' φ' H', Rel K Z φ' B ρ M' σ H' → Ext Z φ H φ' H' → Q a M' φ' H' → Q' a M' φ' H') : Out K Z B ca W ρ σ φ H r Q' := by
  cases r with
  | none => exact h
  | some r =>
    cases r with
    | ok a M' => exact fun φ' H' R e => i a M' φ' H' R e (h φ' H' R e)
    | ex c d M' => exact h
theorem Out.bind {x : Ev α} {f : α → Ev β} {Q : β → MH → List Addr → Hp → Prop} (h : Out K Z B ca W ρ σ φ H (Ev.bind x f M) Q) :
    Out K Z B ca W ρ σ φ H (x M) fun a M1 φ1 H1 => Out K Z B ca W ρ σ φ1 H1 (f a M1) Q := by
  unfold Ev.bind at h
  cases hx : x M with
  | none => rw [hx] at h; exact h
  | some r =>
    rw [hx] at h
    cases r with
    | ok a M1 =>
      intro φ1 H1 R1 e1
      have h : Out K Z B ca W ρ σ φ H (f a M1) Q := h
      cases hf : f a M1 with
      | none => rw [hf] at h; exact h
      | some r =>
        rw [hf] at h
        cases r with
        | ok c M2 => exact fun φ2 H2 R2 e2 => h φ2 H2 R2 (e1.trans e2)
        | ex c d M2 => exact fun φ2 H2 v dx R2 e2 n hd rv => h φ2 H2 v dx R2 (e1.trans e2) n hd rv
    | ex c d M1 => exact h
theorem Out.none {Q : α → MH → List Addr → Hp → Prop} (h : Out K Z B ca W ρ σ φ H (Option.none : Option (Rs α)) Q) : False := h
theorem Out.lift {o : Option α} {Q : α → MH → List Addr → Hp → Prop} (h : Out K Z B ca W ρ σ φ H (Ev.lift o M) Q) : ∃ a, o = some a ∧ Out K Z B ca W ρ σ φ H (some (.ok a M)) Q := by
  cases o with
  | none => exact h.elim
  | some a => exact ⟨a, rfl, h⟩
theorem Out.look {f : MH → Option α} {Q : α → MH → List Addr → Hp → Prop} (h : Out K Z B ca W ρ σ φ H (Ev.look f M) Q) : ∃ a, f M = some a ∧ Out K Z B ca W ρ σ φ H (some (.ok a M)) Q := by
  unfold Ev.look at h
  cases e : f M with
  | none => rw [e] at h; exact h.elim
  | some a => rw [e] at h; exact ⟨a, rfl, h⟩
theorem Out.ofLook {f : MH → Option α} {a : α} {Q : α → MH → List Addr → Hp → Prop} (e : f M = some a) (h : Out K Z B ca W ρ σ φ H (some (.ok a M)) Q) : Out K Z B ca W ρ σ φ H (Ev.look f M) Q := by
  unfold Ev.look
  rw [e]
  exact h
theorem Out.ok {a : α} {Q : α → MH → List Addr → Hp → Prop} (h : Out K Z B ca W ρ σ φ H (some (.ok a M)) Q) (R : Rel K Z φ B ρ M σ H) : Q a M φ H := h φ H R (Ext.refl R)

/-! ### inversions -/
theorem lst_of {d : D} {v : V} {xs : List D} (R : Rel K Z φ B ρ M σ H) (r : RelD K Z φ H d v) (h : lstOf M d = some xs) : ∃ a vs, v = .ref a ∧ H a = some (.lst vs) ∧ RelDs K Z φ H xs vs := by
  unfold lstOf at h
  split at h
  · cases h
    obtain ⟨a, vs, h1, h2, _, h4⟩ := r
    exact ⟨a, vs, h1, h2, h4⟩
  · rename_i n
    split at h
    · rename_i ys e
      cases h
      obtain ⟨a, h1, h2⟩ := r
      obtain ⟨vs, h3, h4⟩ := R.obj n a _ h1 e
      exact ⟨a, vs, h2, h3, h4⟩
    · cases h
  · cases h
theorem seq_of {d : D} {v : V} {xs : List D} (R : Rel K Z φ B ρ M σ H) (r : RelD K Z φ H d v) (h : seqOf M d = some xs) : ∃ a vs, v = .ref a ∧ (SqL K H a vs ∨ SqT K H a vs) ∧ RelDs K Z φ H xs vs := by
  unfold seqOf at h
  split at h
  · cases h
    obtain ⟨a, vs, h1, h2, h4⟩ := r
    exact ⟨a, vs, h1, .inr h2.sq, h4⟩
  · cases h
    obtain ⟨a, vs, h1, h2, _, h4⟩ := r
    exact ⟨a, vs, h1, .inl (SqL.of h2), h4⟩
  · rename_i n
    split at h
    · rename_i ys e
      cases h
      obtain ⟨a, h1, h2⟩ := r
      obtain ⟨vs, h3, h4⟩ := R.obj n a _ h1 e
      exact ⟨a, vs, h2, .inl (SqL.of h3), h4⟩
    · cases h
  · cases h
    obtain ⟨a, h1, h2⟩ := r
    exact ⟨a, _, h1, .inl h2.sq, RelDs.map (f := D.int) (g := V.int) (fun i => rfl) _⟩
  · cases h
/-- a new list, a new tuple -/
theorem Rel.newL (R : Rel K Z φ B ρ M σ H) {p : Addr} {xs : List D} {vs : List V} (hp : H p = none) (h : RelDs K Z φ H xs vs) :
    Rel K Z φ B ρ M σ (upd H p (.lst vs)) ∧ Ext Z φ H φ (upd H p (.lst vs)) ∧ RelD K Z φ (upd H p (.lst vs)) (.lst xs) (.ref p) := by
  obtain ⟨R1, e1⟩ := R.new (o := .lst vs) hp
  exact ⟨R1, e1, p, vs, rfl, upd_same, R.fresh hp, RelDs.ext e1 _ _ h⟩
theorem Rel.newT (R : Rel K Z φ B ρ M σ H) {p : Addr} {xs : List D} {vs : List V} (hp : H p = none) (h : RelDs K Z φ H xs vs) :
    Rel K Z φ B ρ M σ (upd H p (.tup vs)) ∧ Ext Z φ H φ (upd H p (.tup vs)) ∧ RelD K Z φ (upd H p (.tup vs)) (.tup xs) (.ref p) := by
  obtain ⟨R1, e1⟩ := R.new (o := .tup vs) hp
  exact ⟨R1, e1, p, vs, rfl, .inl ⟨upd_same, R.fresh hp⟩, RelDs.ext e1 _ _ h⟩
end

section
variable {X : Cx} {B : List Nat} {ca : Nat → Addr} {W : WX}
/-- an operation on values that the evaluator tells by f -/
def rVal (K : PySem.W.Frag) (B : List Nat) (ca : Nat → Addr) (W : WX) (f : MH → D → D → Option D) : R2 := fun v u H Q =>
  ∃ Z φ ρ M σ x y, Rel K Z φ B ρ M σ H ∧ RelD K Z φ H x v ∧ RelD K Z φ H y u ∧ Out K Z B ca W ρ σ φ H (Ev.look (fun M => f M x y) M) fun d _ φ' H' => ∀ z, RelD K Z φ' H' d z → Q z H'

theorem str_app {x y : Str} (hx : PyData.strOk x = true) (hy : PyData.strOk y = true) : PyData.strOk (x ++ y) = true := by
  unfold PyData.strOk at *
  show ((x.cps ++ y.cps).all _) = true
  rw [Array.all_append, hx, hy]; rfl

theorem op_add_ok : OpR X (binaryOp .Add) (rVal X.K B ca W fun M x y => binD M .add x y) := by
  intro pins s σ0 H v u vv uu Q I rv ru ⟨Z, φ, ρ, M, σ, x, y, R, rx, ry, O⟩
  obtain ⟨d, e0, O⟩ := O.look
  have e : addD M x y = some d := e0
  clear e0
  unfold addD at e
  split at e
  · rename_i i j
    cases e
    cases rx; cases ry
    exact op_add pins s σ0 H _ _ vv uu Q I rv ru ⟨i, j, rfl, rfl, O.ok R _ rfl⟩
  · rename_i x y
    split at e
    · cases e
      obtain ⟨rfl, h1, h2⟩ := rx
      obtain ⟨rfl, h3, h4⟩ := ry
      rename_i hl
      exact op_add_str pins s σ0 H _ _ vv uu Q I rv ru ⟨x, y, rfl, rfl, hl, O.ok R _ ⟨rfl, str_app h1 h3, by rw [strLen_append]; exact hl⟩⟩
    · cases e
  · rename_i xs ys
    split at e
    · cases e
      rename_i hl
      obtain ⟨a, vs, rfl, h1, h2⟩ := rx
      obtain ⟨c, ws, rfl, h3, h4⟩ := ry
      refine op_catA pins s σ0 H _ _ vv uu Q I rv ru ⟨a, c, vs, ws, rfl, rfl, h1.sq, h3.sq, by rw [h2.length, h4.length]; exact hl, fun e => ?_, fun _ e => ?_, fun _ _ p hp => ?_⟩
      · subst e
        have : xs = [] := by cases xs with | nil => rfl | cons _ _ => exact absurd h2.length (by simp)
        subst this
        exact O.ok R _ ⟨c, ws, rfl, h3, h4⟩
      · subst e
        have : ys = [] := by cases ys with | nil => rfl | cons _ _ => exact absurd h4.length (by simp)
        subst this
        rw [List.append_nil] at O
        exact O.ok R _ ⟨a, vs, rfl, h1, h2⟩
      · obtain ⟨R1, e1, r1⟩ := R.newT hp (h2.app h4)
        exact O _ _ R1 e1 _ r1
    · cases e
  · split at e
    · rename_i xs ys e1 e2
      split at e
      · cases e
        rename_i hl
        obtain ⟨a, vs, rfl, h1, h2⟩ := lst_of R rx e1
        obtain ⟨c, ws, rfl, h3, h4⟩ := lst_of R ry e2
        refine op_cat pins s σ0 H _ _ vv uu Q I rv ru ⟨a, c, vs, ws, rfl, rfl, h1, h3, by rw [h2.length, h4.length]; exact hl, fun p hp => ?_⟩
        obtain ⟨R1, e1, r1⟩ := R.newL hp (h2.app h4)
        exact O _ _ R1 e1 _ r1
      · cases e
    · cases e
end
end MP

set_option Elab.async false
set_option linter.all false
set_option maxRecDepth 100000
set_option maxHeartbeats 1000000
namespace MP
open PySem PySem.Spec PyProof.Rows L2

/-- t * n: t itself (n = 1, or nothing in t) -/
theorem tuple_mulS (l : Addr) (items : Array Value) (n : Nat) (dd : Option Addr) (sl : Array (Option Value)) (x : Int) (u : Tok) (c0 : (decide (x < -(2 ^ 63)) || decide (x ≥ 2 ^ 63)) = false) (c1 : (items.isEmpty || x == 1) = true) :
    Meets (Builtin.«tuple.__mul__» ⟨[.ref l, .int x u], []⟩) (fun _ R s => s.heap.get? l = some { cls := .type "tuple", dict := dd, data := .seq items n, slots := sl } ∧
      R (.ok (.ret (Value.ref l))) { s with heap := s.heap, toks := s.toks }) :=
  .of_wp fun prog w A R s h => by
    obtain ⟨hp, g, d, tk, os⟩ := s
    obtain ⟨hl, h⟩ := h
    have f1 := AutoSeq1.idx_int
    wp_walk using wpAny_loadPart' hl
    repeat (first
      | (refine wpAny_ite_false (decide_eq_false (by rw [c0]; exact Bool.false_ne_true)) ?_; wp_walk using wpAny_loadPart' hl)
      | (refine wpAny_ite_true (decide_eq_true c1) ?_; wp_walk using wpAny_loadPart' hl))
    exact ⟨_, rfl, h⟩
/-- t * n: nothing -/
theorem tuple_mul0 (l : Addr) (items : Array Value) (n : Nat) (dd : Option Addr) (sl : Array (Option Value)) (x : Int) (u : Tok) (c0 : (decide (x < -(2 ^ 63)) || decide (x ≥ 2 ^ 63)) = false) (c1 : (items.isEmpty || x == 1) = false) (c2 : (decide (x ≤ 0) || items.isEmpty) = true) :
    Meets (Builtin.«tuple.__mul__» ⟨[.ref l, .int x u], []⟩) (fun _ R s => s.heap.get? l = some { cls := .type "tuple", dict := dd, data := .seq items n, slots := sl } ∧
      R (.ok (.ret (Value.ref s.heap.objs.size))) { s with heap := s.heap.push { cls := Value.type "tuple", data := Data.seq #[] }, toks := s.toks }) :=
  .of_wp fun prog w A R s h => by
    obtain ⟨hp, g, d, tk, os⟩ := s
    obtain ⟨hl, h⟩ := h
    have f1 := AutoSeq1.idx_int
    have hsz : (#[] : Array Value).size ≤ sizeLine := Nat.zero_le _
    wp_walk using wpAny_loadPart' hl
    repeat (first
      | (refine wpAny_ite_false (decide_eq_false (by rw [c0]; exact Bool.false_ne_true)) ?_; wp_walk using wpAny_loadPart' hl)
      | (refine wpAny_ite_false (decide_eq_false (by rw [c1]; exact Bool.false_ne_true)) ?_; wp_walk using wpAny_loadPart' hl)
      | (refine wpAny_ite_true (decide_eq_true c2) ?_; wp_walk using wpAny_loadPart' hl)
      | (refine wpAny_ite_false (decide_eq_false (Nat.not_lt.mpr hsz)) ?_; wp_walk using wpAny_loadPart' hl))
    exact ⟨_, rfl, h⟩

def rRepA (K : PySem.W.Frag) : R2 := fun x y H Q => ∃ l k xs, x = .ref l ∧ y = .int k ∧ SqT K H l xs ∧ k ≤ 1000 ∧ -(2 ^ 63) ≤ k ∧ xs.length ≤ 1000 ∧
  ((xs = [] ∨ k = 1) → Q (.ref l) H) ∧ (xs ≠ [] → k ≠ 1 → ∀ p, H p = none → Q (.ref p) (upd H p (.tup (List.replicate k.toNat xs).flatten)))
theorem op_repA {X : Cx} : OpR X (binaryOp .Mult) (rRepA X.K) := by
  intro pins s σ H x y v u Q I rx ry h
  obtain ⟨l, k, xs, rfl, rfl, hT, hk, hk0, hz, q1, q2⟩ := h
  by_cases hb : xs ≠ [] ∧ 2 ≤ k
  · exact op_repT pins s σ H _ _ v u Q I rx ry ⟨l, k, xs, rfl, rfl, hT, hb.1, hb.2, hk, hz, q2 hb.1 (by omega)⟩
  · cases rx
    obtain ⟨t, rfl⟩ := ry
    obtain ⟨its, r, ⟨⟨cls, dd, data, sl⟩, ho, hc, n, hd⟩, hs⟩ := I.tuple hT
    simp only at hc hd
    subst hc hd
    have hle : its.length = xs.length := r.length.symm
    have c0 : (decide (k < -(2 ^ 63)) || decide (k ≥ 2 ^ 63)) = false := by
      rw [decide_eq_false (by omega), decide_eq_false (by omega)] <;> rfl
    by_cases hs1 : xs = [] ∨ k = 1
    · have c1 : (its.toArray.isEmpty || k == 1) = true := by
        rcases hs1 with e | e
        · have : its = [] := List.eq_nil_of_length_eq_zero (by rw [hle, e]; rfl)
          subst this; rfl
        · subst e; simp
      refine wpAny_binaryOp_repeat_ref (T := "tuple") (U := "int") (by decide) ⟨_, ho, rfl⟩ (fun s' => typeIs_int s' k t) noFill_tuple_mul F.fills_int_mul F.slot_int_rmul repeat_tuple F.slot_int_index.lookup
        (call_meets F.slot_int_rmul (typeIs_int s k t) F.entry_int_rmul (F.args_int_rmul_2 _ _) (int_rmul_tuple k t l its.toArray n dd sl)
          ⟨ho, rfl, ⟨_, ho, rfl⟩, call_meets F.slot_tuple_mul ⟨_, ho, rfl⟩ F.entry_tuple_mul (F.args_tuple_mul_2 _ _) (tuple_mulS l its.toArray n dd sl k t c0 c1) ⟨ho, ?_⟩⟩)
      exact ⟨.ref l, H, I, rfl, q1 hs1⟩
    · have hx : xs ≠ [] := fun e => hs1 (.inl e)
      have h1 : k ≠ 1 := fun e => hs1 (.inr e)
      have h0 : k ≤ 0 := by
        have : ¬ (2 ≤ k) := fun z => hb ⟨hx, z⟩
        omega
      have hn : its ≠ [] := fun e => hx (List.eq_nil_of_length_eq_zero (by rw [← hle, e]; rfl))
      have hi : its.toArray.isEmpty = false := by
        cases its with
        | nil => exact absurd rfl hn
        | cons a b => rfl
      have c1 : (its.toArray.isEmpty || k == 1) = false := by
        rw [hi, Bool.false_or]
        exact beq_eq_false_iff_ne.mpr h1
      have c2 : (decide (k ≤ 0) || its.toArray.isEmpty) = true := by rw [decide_eq_true h0]; rfl
      refine wpAny_binaryOp_repeat_ref (T := "tuple") (U := "int") (by decide) ⟨_, ho, rfl⟩ (fun s' => typeIs_int s' k t) noFill_tuple_mul F.fills_int_mul F.slot_int_rmul repeat_tuple F.slot_int_index.lookup
        (call_meets F.slot_int_rmul (typeIs_int s k t) F.entry_int_rmul (F.args_int_rmul_2 _ _) (int_rmul_tuple k t l its.toArray n dd sl)
          ⟨ho, rfl, ⟨_, ho, rfl⟩, call_meets F.slot_tuple_mul ⟨_, ho, rfl⟩ F.entry_tuple_mul (F.args_tuple_mul_2 _ _) (tuple_mul0 l its.toArray n dd sl k t c0 c1 c2) ⟨ho, ?_⟩⟩)
      have e0 : (List.replicate k.toNat xs).flatten = [] := by rw [show k.toNat = 0 by omega]; rfl
      have q := q2 hx h1 _ (I.hok.fresh (Nat.le_refl _))
      rw [e0] at q
      exact ⟨.ref s.heap.objs.size, _, I.laid (t' := s.toks) (o := .tup []) (fun b ob q => Heap.get?_push_of_some _ q) (Nat.le_refl _) ⟨Nat.zero_le _, [], .nil, IsTup.new _ _⟩, rfl, q⟩
end MP

set_option Elab.async false
set_option linter.all false
set_option maxRecDepth 100000
set_option maxHeartbeats 1000000
namespace MP
open PySem PySem.Spec PyProof.Rows L2
theorem repS_foldl (x : Str) (k : Nat) : (⟨(List.replicate k x.cps).foldl (· ++ ·) #[]⟩ : Str) = repS x k := by
  unfold repS
  congr 1
  have : ∀ (l : List (Array Nat)) (a : Array Nat), (l.foldl (· ++ ·) a).toList = a.toList ++ (l.map Array.toList).flatten := by
    intro l
    induction l with
    | nil => intro a; simp
    | cons y l ih => intro a; simp [ih]
  apply Array.ext'
  rw [this]
  simp
theorem repS_len (x : Str) (k : Nat) : (repS x k).length = x.length * k := by
  unfold repS
  show (List.toArray _).size = _
  rw [List.size_toArray, List.length_flatten, List.map_replicate, List.sum_replicate_nat, Array.length_toList]
  exact Nat.mul_comm _ _
theorem repS_ok {x : Str} (h : PyData.strOk x = true) (k : Nat) : PyData.strOk (repS x k) = true := by
  unfold PyData.strOk repS at *
  rw [← Array.all_toList] at h
  simp only [List.all_toArray, List.all_eq_true, List.mem_flatten, List.mem_replicate] at h ⊢
  rintro c ⟨l, ⟨_, rfl⟩, hc⟩
  exact h c hc
def rRepS : R2 := fun x y H Q => ∃ (z : Str) (k : Int), x = .str z ∧ y = .int k ∧ -(2 ^ 63) ≤ k ∧ k < 2 ^ 62 ∧ z.length * k.toNat ≤ sizeLine ∧ Q (.str (repS z k.toNat)) H
theorem op_mulS {X : Cx} : OpR X (binaryOp .Mult) rRepS := by
  intro pins s σ H x y v u Q I rx ry h
  obtain ⟨z, n, rfl, rfl, h1, h2, h3, q⟩ := h
  obtain ⟨t, rfl⟩ := rx
  obtain ⟨t', rfl⟩ := ry
  refine PySem.P.mul_str (by rw [decide_eq_false (by omega), decide_eq_false (by omega)]; rfl) (fun hn _ hgt => ?_) (fun hn _ => ?_) ?_
  · have hn : 0 < n := by omega
    have h4 : (z.length : Int) * n ≤ sizeLine := by
      have : ((z.length * n.toNat : Nat) : Int) ≤ sizeLine := by exact_mod_cast h3
      rw [Int.natCast_mul, Int.toNat_of_nonneg (by omega)] at this
      exact this
    have h5 : (z.length : Int) ≤ (2 ^ 63 - 1) / n := (Int.le_ediv_iff_mul_le hn).mpr (Int.le_trans h4 (by decide))
    omega
  · exact decide_eq_false (by omega)
  · by_cases c1 : n < 1
    · rw [if_pos c1]
      rw [show n.toNat = 0 by omega] at q
      exact ⟨by decide, .str Str.empty, H, I.tok _, ⟨_, rfl⟩, q⟩
    · rw [if_neg c1]
      by_cases c2 : (n == 1 || z.length == 0) = true
      · rw [if_pos c2]
        have e : repS z n.toNat = z := by
          unfold repS
          rcases Bool.or_eq_true_iff.mp c2 with c | c
          · have : n = 1 := eq_of_beq c
            subst this
            simp
          · have hz : z.cps.size = 0 := eq_of_beq c
            have : z.cps.toList = [] := List.eq_nil_of_length_eq_zero (by rw [Array.length_toList]; exact hz)
            obtain ⟨cs⟩ := z
            simp only at this ⊢
            rw [this]
            have e2 : cs = #[] := Array.ext' this
            rw [e2]; simp
        rw [e] at q
        exact ⟨.str z, H, I, ⟨_, rfl⟩, q⟩
      · rw [if_neg c2, repS_foldl]
        exact ⟨by rw [repS_len]; exact h3, .str _, H, I.tok _, ⟨_, rfl⟩, q⟩
section
variable {prog : Program} {w : World} {A : Around} {E : Value → Shared → Prop} {s : Shared}
theorem collect_strS {Q : List Value → Shared → Prop} (hh : A.handled = none) (x : Str) (t : Tok) (hn : x.cps.size ≤ sizeLine)
    (hQ : ∀ s' acc, (∀ b o, s.heap.get? b = some o → s'.heap.get? b = some o) → s'.gens = s.gens → s'.drawn = s.drawn → s'.os = s.os → ItemsOf (SignAt x) acc x.cps.size → Q acc.toList s') : wpAny (model prog w) A (collect (.str x t)) Q E s :=
  wpAny_collect_str hh x t hQ hn
theorem code_tuple_new_str {Q₁ : Value → Shared → Prop} (hh : A.handled = none) (x : Str) (t : Tok) (hz : 2 * x.length ≤ sizeLine)
    (h : ∀ (s' : Shared) (acc : Array Value), (∀ b o, s.heap.get? b = some o → s'.heap.get? b = some o) → s'.gens = s.gens → s'.drawn = s.drawn → s'.os = s.os → ItemsOf (SignAt x) acc x.cps.size →
      Q₁ (.ref s'.heap.objs.size) { s' with heap := s'.heap.push { cls := .type "tuple", data := .seq acc } }) :
    codeAny (model prog w) A (.call (.builtin "tuple.__new__") ⟨[.type "tuple", .str x t], []⟩) (wants Q₁ E) s := by
  refine codeAny_of_tree ?_
  show wpAny _ A.in1 (do checkBuiltinCall "tuple.__new__" ⟨[.type "tuple", .str x t], []⟩; again (.builtin "tuple.__new__" ⟨[.type "tuple", .str x t], []⟩)) _ _ s
  refine wpAny_bind (wpAny_of_eq (F.newCall_tuple_1 _) (wpAny_pure ⟨plainId_quiet F.plain_tuple_new _, codeAny_builtin F.entry_tuple_new ?_⟩))
  rw [Around.under_plainId F.plain_tuple_new _]
  have hsub := sub_tuple_self
  have hinit := init_tuple_lookup
  have hmh := madeHere_tuple
  have hh1 : A.in1.handled = none := hh
  have hT : typeOf (.str x t) = pure (.type "str") := rfl
  have hz1 : x.cps.size ≤ sizeLine := by have : x.length = x.cps.size := rfl; omega
  wp_walk using wpAny_of_eq hT, collect_strS (A := A.in1) hh1 x t hz1
  intro s' acc hk hg hd ho hacc
  show wpAny _ _ (Builtin.Tuple.tupleExact acc.toList.toArray >>= fun v => ret v) _ _ _
  unfold Builtin.Tuple.tupleExact
  refine wpAny_bind (wpAny_newObj_type ?_ (by show acc.toList.toArray.size ≤ sizeLine; simp only [Array.toArray_toList]; rw [hacc.1]; exact hz1))
  refine wpAny_pure ?_
  have e : acc.toList.toArray = acc := by simp
  rw [e]
  exact h s' acc hk hg hd ho hacc
theorem call_tuple_str {Q : Value → Shared → Prop} (hh : A.handled = none) (x : Str) (t : Tok) (hz : 2 * x.length ≤ sizeLine)
    (hQ : ∀ (s' : Shared) (acc : Array Value), (∀ b o, s.heap.get? b = some o → s'.heap.get? b = some o) → s'.gens = s.gens → s'.drawn = s.drawn → s'.os = s.os → ItemsOf (SignAt x) acc x.cps.size →
      Q (.ref s'.heap.objs.size) { s' with heap := s'.heap.push { cls := .type "tuple", data := .seq acc } }) :
    wpAny (model prog w) A (call (.type "tuple") [.str x t]) Q E s := by
  refine callType_codes (Q₁ := fun obj s₁ => s₁.TypeIs obj "tuple" ∧ Q obj s₁) F.called_tuple (F.typeCall_tuple_1 _) F.entry_object_init
    (code_tuple_new_str (A := A.in1) hh x t hz fun s' acc hk hg hd ho hacc => ⟨⟨_, Heap.get?_push_size _ rfl, rfl⟩, hQ s' acc hk hg hd ho hacc⟩) fun obj s₁ h₁ => ?_
  exact ⟨h₁.1, F.args_object_init_2 obj _, object_init_meets F.called_tuple.init.lookup F.called_tuple.made (by decide) prog w A.in1 _ s₁ ⟨h₁.1, rfl, h₁.2⟩⟩
end
theorem signs_vals {x : Str} : ∀ (its : List Value) (n : Nat), n + its.length = x.cps.size → (∀ i v, its[i]? = some v → SignAt x (n + i) v) → Vals ((x.cps.toList.drop n).map fun c => V.str ⟨#[c]⟩) its
  | [], n, hn, _ => by
    have : x.cps.toList.drop n = [] := List.drop_eq_nil_of_le (by rw [Array.length_toList]; simp at hn; omega)
    rw [this]; exact .nil
  | u :: its, n, hn, h => by
    obtain ⟨c, t, hc, rfl⟩ := h 0 u rfl
    rw [Nat.add_zero] at hc
    have hlt : n < x.cps.toList.length := by rw [Array.length_toList]; simp at hn; omega
    rw [List.drop_eq_getElem_cons hlt]
    have e : x.cps.toList[n] = c := by
      rw [← Array.getElem?_toList, List.getElem?_eq_getElem hlt] at hc
      exact Option.some.inj hc
    rw [e]
    exact .cons ⟨t, rfl⟩ (signs_vals its (n + 1) (by simp at hn; omega) fun i v hi => by
      have := h (i + 1) v (by simpa using hi)
      rw [show n + (i + 1) = n + 1 + i by omega] at this
      exact this)
theorem call_tupleS {X : Cx} (hc : X.calm = true) : CallR X (.type "tuple") (fun xs H Q => ∃ z, xs = [.str z] ∧ 2 * z.length ≤ sizeLine ∧ ∀ l, H l = none → Q (.ref l) (upd H l (.tup (z.cps.toList.map fun c => V.str ⟨#[c]⟩)))) := by
  intro pins s σ H xs us Q I r h
  obtain ⟨z, rfl, hz, q⟩ := h
  obtain ⟨u, rfl, t, rfl⟩ := vals1 r
  refine call_tuple_str (I.ok.hd hc) z t hz fun s' acc hk hg hd ho hacc => ?_
  obtain ⟨h', g', d', t', o'⟩ := s'
  obtain rfl : g' = s.gens := hg
  obtain rfl : d' = s.drawn := hd
  obtain rfl : o' = s.os := ho
  have rv : Vals (z.cps.toList.map fun c => V.str ⟨#[c]⟩) acc.toList := by
    have := signs_vals (x := z) acc.toList 0 (by rw [Array.length_toList, hacc.1]; simp) fun i v hi => by
      rw [Nat.zero_add]
      exact hacc.2 i v (by rw [Array.getElem?_toList] at hi; exact hi)
    exact this
  have I1 : Inv X pins σ H { s with heap := h', toks := t' } := I.kept hk
  have hl : (z.cps.toList.map fun c => V.str ⟨#[c]⟩).length ≤ sizeLine := by
    rw [List.length_map, Array.length_toList]
    have : z.length = z.cps.size := rfl
    omega
  have I2 := I1.laid (h' := h'.push { cls := .type "tuple", data := .seq acc }) (t' := t') (a := h'.objs.size) (o := .tup (z.cps.toList.map fun c => V.str ⟨#[c]⟩)) (fun b o e => Heap.get?_push_of_some _ e) (Nat.le_refl _)
    ⟨hl, acc.toList, rv, by simpa using IsTup.new h' acc⟩
  exact ⟨.ref h'.objs.size, _, I2, rfl, q _ (I1.hok.fresh (Nat.le_refl _))⟩
end MP

set_option Elab.async false
set_option linter.all false
set_option maxRecDepth 100000
set_option maxHeartbeats 1000000
namespace MP
open PySem PySem.Spec PyProof.Rows L2
section
variable {X : Cx} {B : List Nat} {ca : Nat → Addr} {W : WX}
theorem op_sub_ok : OpR X (binaryOp .Sub) (rVal X.K B ca W fun M x y => binD M .sub x y) := by
  intro pins s σ0 H v u vv uu Q I rv ru ⟨Z, φ, ρ, M, σ, x, y, R, rx, ry, O⟩
  obtain ⟨d, e0, O⟩ := O.look
  have e : subD x y = some d := e0
  clear e0
  unfold subD at e
  split at e
  · rename_i i j
    cases e
    cases rx; cases ry
    exact op_sub pins s σ0 H _ _ vv uu Q I rv ru ⟨i, j, rfl, rfl, O.ok R _ rfl⟩
  · cases e
theorem mulOk_ok {i j : Int} (h : mulOk i j = true) : IntMulOk i j := by
  unfold mulOk at h
  rw [Bool.or_eq_true, Bool.or_eq_true] at h
  rcases h with (h | h) | h
  · unfold small at h
    simp only [Bool.and_eq_true, decide_eq_true_eq] at h
    exact .of_left (intBits_le_64 h.1 h.2)
  · unfold small at h
    simp only [Bool.and_eq_true, decide_eq_true_eq] at h
    exact .of_right (intBits_le_64 h.1 h.2)
  · exact CMulW.ok (show i.natAbs.log2 + j.natAbs.log2 < 1000000 from of_decide_eq_true h)
theorem op_mulA : OpR X (binaryOp .Mult) (rI (fun i j => IntMulOk i j) fun i j => .int (i * j)) := opI fun _ _ _ _ _ _ _ hc q => mul_int q hc
theorem op_mul_ok : OpR X (binaryOp .Mult) (rVal X.K B ca W fun M x y => binD M .mul x y) := by
  intro pins s σ0 H v u vv uu Q I rv ru ⟨Z, φ, ρ, M, σ, x, y, R, rx, ry, O⟩
  obtain ⟨d, e0, O⟩ := O.look
  have e : mulD M x y = some d := e0
  clear e0
  unfold mulD at e
  split at e
  · rename_i i j
    split at e
    · cases e
      rename_i hm
      cases rx; cases ry
      exact op_mulA pins s σ0 H _ _ vv uu Q I rv ru ⟨i, j, rfl, rfl, mulOk_ok hm, O.ok R _ rfl⟩
    · cases e
  · rename_i xs k
    split at e
    · cases e
      rename_i hl
      obtain ⟨a, vs, rfl, h1, h2⟩ := rx
      cases ry
      refine op_repA pins s σ0 H _ _ vv uu Q I rv ru ⟨a, k, vs, rfl, rfl, h1.sq, hl.2.1, hl.2.2, by rw [h2.length]; exact hl.1, fun hs => ?_, fun _ _ p hp => ?_⟩
      · have e1 : (List.replicate k.toNat xs).flatten = xs := by
          rcases hs with e | e
          · have : xs = [] := by cases xs with | nil => rfl | cons _ _ => exact absurd (e ▸ h2.length) (by simp)
            subst this
            simp
          · subst e; simp
        rw [e1] at O
        exact O.ok R _ ⟨a, vs, rfl, h1, h2⟩
      · obtain ⟨R1, e1, r1⟩ := R.newT hp (h2.rep k.toNat)
        exact O _ _ R1 e1 _ r1
    · cases e
  · rename_i z k
    split at e
    · cases e
      rename_i hl
      obtain ⟨rfl, h1, h2⟩ := rx
      cases ry
      exact op_mulS pins s σ0 H _ _ vv uu Q I rv ru ⟨z, k, rfl, rfl, hl.1, hl.2.1, hl.2.2, O.ok R _ ⟨rfl, repS_ok h1 _, by rw [repS_len]; exact hl.2.2⟩⟩
    · cases e
  · rename_i k _ _ _
    split at e
    · rename_i xs e1
      split at e
      · cases e
        rename_i hl
        obtain ⟨a, vs, rfl, h1, h2⟩ := lst_of R rx e1
        cases ry
        refine op_rep pins s σ0 H _ _ vv uu Q I rv ru ⟨a, k, vs, rfl, rfl, h1, hl.1, hl.2.1, by rw [h2.length]; exact hl.2.2, fun p hp => ?_⟩
        obtain ⟨R1, e1, r1⟩ := R.newL hp (h2.rep k.toNat)
        exact O _ _ R1 e1 _ r1
      · cases e
    · cases e
  · cases e
theorem op_fdiv_ok : OpR X (binaryOp .FloorDiv) (rVal X.K B ca W fun M x y => binD M .fdiv x y) := by
  intro pins s σ0 H v u vv uu Q I rv ru ⟨Z, φ, ρ, M, σ, x, y, R, rx, ry, O⟩
  obtain ⟨d, e0, O⟩ := O.look
  have e : fdivD x y = some d := e0
  clear e0
  unfold fdivD at e
  split at e
  · rename_i i j
    split at e
    · cases e
      rename_i hm
      cases rx; cases ry
      unfold divOk at hm
      simp only [Bool.or_eq_true, decide_eq_true_eq] at hm
      rcases hm with hm | hm
      · exact op_fdivN pins s σ0 H _ _ vv uu Q I rv ru ⟨i, j, rfl, rfl, hm, O.ok R _ rfl⟩
      · refine op_fdivW pins s σ0 H _ _ vv uu Q I rv ru ⟨i, j, rfl, rfl, hm, ?_⟩
        show Q (V.int (i / j)) H
        have e2 : i.fdiv j = i / j := Int.fdiv_eq_ediv_of_nonneg i (by omega)
        rw [← e2]
        exact O.ok R _ rfl
    · cases e
  · cases e
theorem op_mod_ok : OpR X (binaryOp .Mod) (rVal X.K B ca W fun M x y => binD M .mod x y) := by
  intro pins s σ0 H v u vv uu Q I rv ru ⟨Z, φ, ρ, M, σ, x, y, R, rx, ry, O⟩
  obtain ⟨d, e0, O⟩ := O.look
  have e : modD x y = some d := e0
  clear e0
  unfold modD at e
  split at e
  · rename_i i j
    split at e
    · cases e
      rename_i hm
      cases rx; cases ry
      exact op_modN pins s σ0 H _ _ vv uu Q I rv ru ⟨i, j, rfl, rfl, hm, O.ok R _ rfl⟩
    · cases e
  · cases e
theorem op_pow_ok : OpR X (binaryOp .Pow) (rVal X.K B ca W fun M x y => binD M .pow x y) := by
  intro pins s σ0 H v u vv uu Q I rv ru ⟨Z, φ, ρ, M, σ, x, y, R, rx, ry, O⟩
  obtain ⟨d, e0, O⟩ := O.look
  have e : powD x y = some d := e0
  clear e0
  unfold powD at e
  split at e
  · rename_i i j
    split at e
    · cases e
      rename_i hm
      cases rx; cases ry
      exact op_pow pins s σ0 H _ _ vv uu Q I rv ru ⟨i, j, rfl, rfl, hm, O.ok R _ rfl⟩
    · cases e
  · cases e
def opE : BOp → Operator
  | .add => .Add | .sub => .Sub | .mul => .Mult | .fdiv => .FloorDiv | .mod => .Mod | .pow => .Pow
theorem op_bin_ok : ∀ op : BOp, OpR X (binaryOp (opE op)) (rVal X.K B ca W fun M x y => binD M op x y)
  | .add => op_add_ok | .sub => op_sub_ok | .mul => op_mul_ok | .fdiv => op_fdiv_ok | .mod => op_mod_ok | .pow => op_pow_ok

/-! ### comparisons -/
mutual
theorem Dp.of_D {rd : Nat → Option PyData} {K : PySem.W.Frag} {Z φ : List Addr} {H : Hp} (hr : ∀ n p v, rd n = some p → RelD K Z φ H (.ref n) v → Dp K H v p ∧ p.canLay0 = true) :
    ∀ (d : D) (p : PyData) (v : V), toPyW rd d = some p → RelD K Z φ H d v → Dp K H v p ∧ p.canLay0 = true
  | .non, p, v, e, r => by
    simp only [toPyW, Option.some.injEq] at e; subst e
    cases (show v = .non from r); exact ⟨.non, rfl⟩
  | .bl x, p, v, e, r => by
    simp only [toPyW, Option.some.injEq] at e; subst e
    cases (show v = .bl x from r); exact ⟨.bl x, rfl⟩
  | .int i, p, v, e, r => by
    simp only [toPyW, Option.some.injEq] at e; subst e
    cases (show v = .int i from r); exact ⟨.int i, rfl⟩
  | .str x, p, v, e, r => by
    simp only [toPyW, Option.some.injEq] at e; subst e
    obtain ⟨rfl, h1, h2⟩ := (show v = .str x ∧ PyData.strOk x = true ∧ x.length ≤ sizeLine from r)
    exact ⟨.str x, by simpa [PyData.canLay0] using h1⟩
  | .tup xs, p, v, e, r => by
    simp only [toPyW, Option.map_eq_some_iff] at e
    obtain ⟨ps, e1, rfl⟩ := e
    obtain ⟨a, vs, rfl, h1, h2⟩ := (show ∃ a vs, v = .ref a ∧ TupAt K Z φ H a vs ∧ RelDs K Z φ H xs vs from r)
    obtain ⟨h3, h4⟩ := DpAll.of_D hr xs ps vs e1 h2
    exact ⟨.tup h1.sq h3, by simpa [PyData.canLay0] using h4⟩
  | .lst xs, p, v, e, r => by
    simp only [toPyW, Option.map_eq_some_iff] at e
    obtain ⟨ps, e1, rfl⟩ := e
    obtain ⟨a, vs, rfl, h1, _, h2⟩ := (show ∃ a vs, v = .ref a ∧ H a = some (.lst vs) ∧ Nf Z φ a ∧ RelDs K Z φ H xs vs from r)
    obtain ⟨h3, h4⟩ := DpAll.of_D hr xs ps vs e1 h2
    exact ⟨.lst (SqL.of h1) h3, by simpa [PyData.canLay0] using h4⟩
  | .ref n, p, v, e, r => hr n p v e r
  | .dct _ _, p, v, e, r => by simp [toPyW] at e
  | .set _, p, v, e, r => by simp [toPyW] at e
  | .exc _ _, p, v, e, r => by simp [toPyW] at e
  | .scr _, p, v, e, r => by simp [toPyW] at e
theorem DpAll.of_D {rd : Nat → Option PyData} {K : PySem.W.Frag} {Z φ : List Addr} {H : Hp} (hr : ∀ n p v, rd n = some p → RelD K Z φ H (.ref n) v → Dp K H v p ∧ p.canLay0 = true) :
    ∀ (ds : List D) (ps : List PyData) (vs : List V), toPysW rd ds = some ps → RelDs K Z φ H ds vs → DpAll K H vs ps ∧ PyData.canLayAll0 ps = true
  | [], ps, vs, e, r => by
    simp only [toPysW, Option.some.injEq] at e; subst e
    cases (show vs = [] from r); exact ⟨.nil, rfl⟩
  | d :: ds, ps, vs, e, r => by
    obtain ⟨v, rs, rfl, h1, h2⟩ := (show ∃ v r, vs = v :: r ∧ RelD K Z φ H d v ∧ RelDs K Z φ H ds r from r)
    simp only [toPysW] at e
    cases e1 : toPyW rd d with
    | none => rw [e1] at e; cases e
    | some p =>
      cases e2 : toPysW rd ds with
      | none => rw [e1, e2] at e; cases e
      | some qs =>
        rw [e1, e2] at e
        cases e
        obtain ⟨h3, h4⟩ := Dp.of_D hr d p v e1 h1
        obtain ⟨h5, h6⟩ := DpAll.of_D hr ds qs rs e2 h2
        exact ⟨.cons h3 h5, by simp [PyData.canLayAll0, h4, h6]⟩
end
section
variable {ρ : Env} {σ : L2.St} {Z φ : List Addr} {H : Hp} {M : MH} {K : PySem.W.Frag}
theorem rdS_ok (R : Rel K Z φ B ρ M σ H) {rd : Nat → Option PyData} (hr : ∀ n p v, rd n = some p → RelD K Z φ H (.ref n) v → Dp K H v p ∧ p.canLay0 = true) :
    ∀ n p v, rdS M rd n = some p → RelD K Z φ H (.ref n) v → Dp K H v p ∧ p.canLay0 = true := fun n p v e r => by
  unfold rdS at e
  split at e
  · rename_i xs hx
    obtain ⟨ps, e1, rfl⟩ := Option.map_eq_some_iff.mp e
    obtain ⟨a, h1, rfl⟩ := r
    obtain ⟨vs, h3, h4⟩ := R.obj n a _ h1 hx
    obtain ⟨h5, h6⟩ := DpAll.of_D hr xs ps vs e1 h4
    exact ⟨.lst (SqL.of h3) h5, by simpa [PyData.canLay0] using h6⟩
  · cases e
theorem toPy_ok (R : Rel K Z φ B ρ M σ H) {d : D} {p : PyData} {v : V} (e : toPy M d = some p) (r : RelD K Z φ H d v) : Dp K H v p ∧ p.canLay0 = true :=
  Dp.of_D (rdS_ok R (rdS_ok R fun n p v e _ => by cases e)) d p v e r
theorem eqD_ok (R : Rel K Z φ B ρ M σ H) {x y : D} {v u : V} {k : Bool} (e : eqD M x y = some k) (rx : RelD K Z φ H x v) (ry : RelD K Z φ H y u) :
    ∃ d e', Dp K H v d ∧ Dp K H u e' ∧ SeqAt.shaped d = true ∧ SeqAt.shaped e' = true ∧ PyData.eqv d e' = k := by
  unfold eqD at e
  split at e
  · rename_i i j
    cases e
    cases rx; cases ry
    exact ⟨.int i, .int j, .int i, .int j, rfl, rfl, by simp only [PyData.eqv]; exact Bool.beq_eq_decide_eq i j⟩
  · rename_i i j
    cases e
    obtain ⟨rfl, h1, h2⟩ := rx
    obtain ⟨rfl, h3, h4⟩ := ry
    exact ⟨.str i, .str j, .str i, .str j, by simp [SeqAt.shaped, PyData.canLay0, h1, PyData.depth], by simp [SeqAt.shaped, PyData.canLay0, h3, PyData.depth], by simp only [PyData.eqv]; exact Bool.beq_eq_decide_eq i j⟩
  · rename_i i j
    cases e
    cases rx; cases ry
    exact ⟨.bool i, .bool j, .bl i, .bl j, rfl, rfl, by simp only [PyData.eqv]; exact Bool.beq_eq_decide_eq i j⟩
  · split at e
    · rename_i d e' h1 h2
      split at e
      · rename_i hd
        cases e
        obtain ⟨h3, h4⟩ := toPy_ok R h1 rx
        obtain ⟨h5, h6⟩ := toPy_ok R h2 ry
        exact ⟨d, e', h3, h5, by simp [SeqAt.shaped, h4, hd.1], by simp [SeqAt.shaped, h6, hd.2], rfl⟩
      · cases e
    · cases e
end
/-- a comparison on values that the evaluator tells by f -/
def rCmp (K : PySem.W.Frag) (B : List Nat) (ca : Nat → Addr) (W : WX) (f : MH → D → D → Option Bool) : R2 := fun v u H Q =>
  ∃ Z φ ρ M σ x y, Rel K Z φ B ρ M σ H ∧ RelD K Z φ H x v ∧ RelD K Z φ H y u ∧ Out K Z B ca W ρ σ φ H (Ev.look (fun M => f M x y) M) fun k _ _ H' => Q (.bl k) H'
def opC : COp → CmpOp
  | .eq => .Eq | .ne => .NotEq | .lt => .Lt | .le => .LtE | .gt => .Gt | .ge => .GtE | .isN => .Is | .notN => .IsNot | .isIn => .In | .notIn => .NotIn
theorem op_cmp_ok (hu : X.A.units + 64 < cLine) : ∀ op : COp, op ≠ .isN → op ≠ .notN → OpR X (compareOp (opC op)) (rCmp X.K B ca W fun M x y => cmpD M op x y) := by
  intro op n1 n2 pins s σ0 H v u vv uu Q I rv ru ⟨Z, φ, ρ, M, σ, x, y, R, rx, ry, O⟩
  obtain ⟨k, e, O⟩ := O.look
  have O := O.ok R
  cases op with
  | eq =>
    obtain ⟨d, e', h1, h2, h3, h4, rfl⟩ := eqD_ok R (show eqD M x y = some k from e) rx ry
    exact op_eqD hu pins s σ0 H v u vv uu Q I rv ru ⟨d, e', h1, h2, h3, h4, O⟩
  | ne =>
    have e : (eqD M x y).map (!·) = some k := e
    obtain ⟨k', e1, rfl⟩ := Option.map_eq_some_iff.mp e
    obtain ⟨d, e', h1, h2, h3, h4, rfl⟩ := eqD_ok R e1 rx ry
    exact op_neD hu pins s σ0 H v u vv uu Q I rv ru ⟨d, e', h1, h2, h3, h4, O⟩
  | lt =>
    have e : ltD x y = some k := e
    unfold ltD at e
    split at e
    · cases e; cases rx; cases ry
      exact op_lt pins s σ0 H _ _ vv uu Q I rv ru ⟨_, _, rfl, rfl, O⟩
    · cases e
      obtain ⟨rfl, _, _⟩ := rx
      obtain ⟨rfl, _, _⟩ := ry
      exact op_lt_str pins s σ0 H _ _ vv uu Q I rv ru ⟨_, _, rfl, rfl, O⟩
    · cases e
  | le =>
    have e : leD x y = some k := e
    unfold leD at e
    split at e
    · cases e; cases rx; cases ry
      exact op_le pins s σ0 H _ _ vv uu Q I rv ru ⟨_, _, rfl, rfl, O⟩
    · cases e
  | gt =>
    have e : gtD x y = some k := e
    unfold gtD at e
    split at e
    · cases e; cases rx; cases ry
      exact op_gt pins s σ0 H _ _ vv uu Q I rv ru ⟨_, _, rfl, rfl, O⟩
    · cases e
  | ge =>
    have e : geD x y = some k := e
    unfold geD at e
    split at e
    · cases e; cases rx; cases ry
      exact op_ge pins s σ0 H _ _ vv uu Q I rv ru ⟨_, _, rfl, rfl, O⟩
    · cases e
  | isIn =>
    have e : inD x y = some k := e
    unfold inD at e
    split at e
    · cases e
      obtain ⟨rfl, _, _⟩ := rx
      obtain ⟨rfl, _, _⟩ := ry
      exact op_in_str pins s σ0 H _ _ vv uu Q I rv ru ⟨_, _, rfl, rfl, O⟩
    · cases e
  | notIn =>
    have e : (inD x y).map (!·) = some k := e
    obtain ⟨k', e1, rfl⟩ := Option.map_eq_some_iff.mp e
    unfold inD at e1
    split at e1
    · cases e1
      obtain ⟨rfl, _, _⟩ := rx
      obtain ⟨rfl, _, _⟩ := ry
      exact op_notin_str pins s σ0 H _ _ vv uu Q I rv ru ⟨_, _, rfl, rfl, O⟩
    · cases e1
  | isN => exact absurd rfl n1
  | notN => exact absurd rfl n2
end
end MP

set_option Elab.async false
set_option linter.all false
set_option maxRecDepth 100000
set_option maxHeartbeats 1000000
namespace MP
open PySem PySem.Spec PyProof.Rows L2

theorem sum_rawT {prog : Program} {w : World} {A : Around} {E : Value → Shared → Prop} {s : Shared} {l : Addr} {its : List Value} {ns : List Int} {Q : Value → Shared → Prop} (hh : A.handled = none) (hl : s.heap.IsTuple l its.toArray) (hi : IntsAre its ns)
    (h : ∀ h' tk t', (∀ b o, s.heap.get? b = some o → h'.get? b = some o) → Q (.int ns.sum t') { s with heap := h', toks := tk }) : wpAny (model prog w) A (call (.builtin "sum") [.ref l]) Q E s := by
  obtain ⟨xs, e⟩ := hi.allInts.items
  have hn : numsOf (intItems xs).toList = ns := by rw [← e]; exact hi.numsOf
  rw [nums_intItems] at hn
  rw [e] at hl
  have hlt : l < s.heap.objs.size := by obtain ⟨_, e, _⟩ := hl; exact Heap.lt_size e
  refine call_sum_walkG (wpAny_pyIter_tuple hl ?_)
  refine ⟨_, _, _, _, _, _, numAt xs, rfl, Walks.tuple (A := A.in1) hh s.heap.objs.size l (Nat.ne_of_lt hlt) (intItems xs), ⟨⟨_, Heap.get?_push_size _ rfl, rfl, rfl⟩, (let ⟨o, e, c, d⟩ := hl; ⟨o, Heap.get?_push_of_some _ e, c, d⟩)⟩, fun b hb => ?_, (fun _ _ => intItems_at), fun h' tk t' hk => ?_⟩
  · rcases List.mem_cons.mp hb with rfl | hb
    · show s.heap.objs.size < _
      rw [Heap.size_push]; exact Nat.lt_succ_self _
    · rw [List.mem_singleton.mp hb]
      show l < _
      rw [Heap.size_push]; exact Nat.lt_succ_of_lt hlt
  · have := h h' tk t' (fun b o e => hk b o (fun z => by
      rw [List.mem_singleton.mp z] at e
      exact absurd (Heap.lt_size e) (Nat.lt_irrefl _)) (Heap.get?_push_of_some _ e))
    rw [preSum_eq, List.take_of_length_le (by simp [intItems]), hn]
    exact this

section
variable {X : Cx} {B : List Nat} {ca : Nat → Addr} {W : WX}
def rBi (K : PySem.W.Frag) (B : List Nat) (ca : Nat → Addr) (W : WX) (f : MH → List D → Option D) : List V → Hp → VK → Prop := fun vs H Q =>
  ∃ Z φ ρ M σ ds, Rel K Z φ B ρ M σ H ∧ RelDs K Z φ H ds vs ∧ Out K Z B ca W ρ σ φ H (Ev.look (fun M => f M ds) M) fun d _ φ' H' => ∀ z, RelD K Z φ' H' d z → Q z H'
section
variable {K : PySem.W.Frag} {Z φ : List Addr} {H : Hp}
theorem rel1 {d : D} {vs : List V} (h : RelDs K Z φ H [d] vs) : ∃ v, vs = [v] ∧ RelD K Z φ H d v := by
  obtain ⟨v, r, rfl, h1, h2⟩ := h
  cases (show r = [] from h2)
  exact ⟨v, rfl, h1⟩
theorem rel2 {d e : D} {vs : List V} (h : RelDs K Z φ H [d, e] vs) : ∃ v u, vs = [v, u] ∧ RelD K Z φ H d v ∧ RelD K Z φ H e u := by
  obtain ⟨v, r, rfl, h1, h2⟩ := h
  obtain ⟨u, rfl, h3⟩ := rel1 h2
  exact ⟨v, u, rfl, h1, h3⟩
theorem asInts_of : ∀ {ds : List D} {vs : List V} {ns : List Int}, asInts ds = some ns → RelDs K Z φ H ds vs → vs = ns.map V.int
  | [], _, _, e, h => by cases e; exact h
  | .int i :: r, _, _, e, h => by
    obtain ⟨v, u, rfl, h1, h2⟩ := (show ∃ v r', _ = v :: r' ∧ RelD K Z φ H (.int i) v ∧ RelDs K Z φ H r r' from h)
    obtain ⟨ns', e1, rfl⟩ := Option.map_eq_some_iff.mp (show (asInts r).map (i :: ·) = some _ from e)
    cases (show v = V.int i from h1)
    rw [asInts_of e1 h2]; rfl
  | .non :: r, _, _, e, h => by cases e
  | .bl _ :: r, _, _, e, h => by cases e
  | .str _ :: r, _, _, e, h => by cases e
  | .tup _ :: r, _, _, e, h => by cases e
  | .lst _ :: r, _, _, e, h => by cases e
  | .dct _ _ :: r, _, _, e, h => by cases e
  | .set _ :: r, _, _, e, h => by cases e
  | .ref _ :: r, _, _, e, h => by cases e
  | .exc _ _ :: r, _, _, e, h => by cases e
  | .scr _ :: r, _, _, e, h => by cases e
theorem asBls_of : ∀ {ds : List D} {vs : List V} {ns : List Bool}, asBls ds = some ns → RelDs K Z φ H ds vs → vs = ns.map V.bl
  | [], _, _, e, h => by cases e; exact h
  | .bl i :: r, _, _, e, h => by
    obtain ⟨v, u, rfl, h1, h2⟩ := (show ∃ v r', _ = v :: r' ∧ RelD K Z φ H (.bl i) v ∧ RelDs K Z φ H r r' from h)
    obtain ⟨ns', e1, rfl⟩ := Option.map_eq_some_iff.mp (show (asBls r).map (i :: ·) = some _ from e)
    cases (show v = V.bl i from h1)
    rw [asBls_of e1 h2]; rfl
  | .non :: r, _, _, e, h => by cases e
  | .int _ :: r, _, _, e, h => by cases e
  | .str _ :: r, _, _, e, h => by cases e
  | .tup _ :: r, _, _, e, h => by cases e
  | .lst _ :: r, _, _, e, h => by cases e
  | .dct _ _ :: r, _, _, e, h => by cases e
  | .set _ :: r, _, _, e, h => by cases e
  | .ref _ :: r, _, _, e, h => by cases e
  | .exc _ _ :: r, _, _, e, h => by cases e
  | .scr _ :: r, _, _, e, h => by cases e
end
theorem biR {f : Value} {g : MH → List D → Option D}
    (h : ∀ (pins : List (Addr × Obj)) (s : Shared) (σ0 : L2.St) (H : Hp) (vs : List V) (us : List Value) (Q : VK) (Z φ : List Addr) (ρ : Env) (M : MH) (σ : L2.St) (ds : List D) (d : D), Inv X pins σ0 H s → Vals vs us → Rel X.K Z φ B ρ M σ H → RelDs X.K Z φ H ds vs →
      g M ds = some d → (∀ φ' H' z, Rel X.K Z φ' B ρ M σ H' → Ext Z φ H φ' H' → RelD X.K Z φ' H' d z → Q z H') → wpAny (model X.prog X.w) X.A (call f us) (EP X pins σ0 Q) X.xe s) : CallR X f (rBi X.K B ca W g) := by
  intro pins s σ0 H vs us Q I rv ⟨Z, φ, ρ, M, σ, ds, R, rd, O⟩
  obtain ⟨d, e, O⟩ := O.look
  exact h pins s σ0 H vs us Q Z φ ρ M σ ds d I rv R rd e fun φ' H' z R' e' r => O φ' H' R' e' z r
theorem bi_len : CallR X (.builtin "len") (rBi X.K B ca W fun M ds => biD M .len ds) := by
  refine biR fun pins s σ0 H vs us Q Z φ ρ M σ ds d I rv R rd e O => ?_
  have O := fun z => O φ H z R (Ext.refl R)
  match ds, e with
  | [a], e =>
    have e : lenD M a = some d := e
    obtain ⟨v, rfl, r1⟩ := rel1 rd
    unfold lenD at e
    split at e
    · cases e
      obtain ⟨rfl, h1, h2⟩ := r1
      exact call_len pins s σ0 H _ us Q I rv ⟨_, _, rfl, ⟨h2, rfl⟩, O _ rfl⟩
    · obtain ⟨xs, e1, rfl⟩ := Option.map_eq_some_iff.mp e
      obtain ⟨a, ws, rfl, h1, h2⟩ := seq_of R r1 e1
      have O := O _ rfl
      rw [← h2.length] at O
      exact call_len pins s σ0 H _ us Q I rv ⟨_, _, rfl, h1.imp (fun h => ⟨ws, h, rfl⟩) (fun h => ⟨ws, h, rfl⟩), O⟩
theorem bi_all (hc : X.calm = true) : CallR X (.builtin "all") (rBi X.K B ca W fun M ds => biD M .all ds) := by
  refine biR fun pins s σ0 H vs us Q Z φ ρ M σ ds d I rv R rd e O => ?_
  have O := fun z => O φ H z R (Ext.refl R)
  match ds, e with
  | [a], e =>
    obtain ⟨v, rfl, r1⟩ := rel1 rd
    obtain ⟨bs, e1, rfl⟩ := Option.map_eq_some_iff.mp (show ((lstOf M a).bind asBls).map (fun bs => D.bl (bs.all id)) = some d from e)
    obtain ⟨xs, e2, e3⟩ := Option.bind_eq_some_iff.mp e1
    obtain ⟨p, ws, rfl, h1, h2⟩ := lst_of R r1 e2
    have e4 := asBls_of e3 h2
    subst e4
    exact cr_all hc pins s σ0 H _ us Q I rv ⟨p, bs, rfl, SqL.of h1, O _ rfl⟩
theorem bi_any (hc : X.calm = true) : CallR X (.builtin "any") (rBi X.K B ca W fun M ds => biD M .any ds) := by
  refine biR fun pins s σ0 H vs us Q Z φ ρ M σ ds d I rv R rd e O => ?_
  have O := fun z => O φ H z R (Ext.refl R)
  match ds, e with
  | [a], e =>
    obtain ⟨v, rfl, r1⟩ := rel1 rd
    obtain ⟨bs, e1, rfl⟩ := Option.map_eq_some_iff.mp (show ((lstOf M a).bind asBls).map (fun bs => D.bl (bs.any id)) = some d from e)
    obtain ⟨xs, e2, e3⟩ := Option.bind_eq_some_iff.mp e1
    obtain ⟨p, ws, rfl, h1, h2⟩ := lst_of R r1 e2
    have e4 := asBls_of e3 h2
    subst e4
    exact cr_any hc pins s σ0 H _ us Q I rv ⟨p, bs, rfl, SqL.of h1, O _ rfl⟩
theorem bi_sum (hc : X.calm = true) : CallR X (.builtin "sum") (rBi X.K B ca W fun M ds => biD M .sum ds) := by
  refine biR fun pins s σ0 H vs us Q Z φ ρ M σ ds d I rv R rd e O => ?_
  have O := fun z => O φ H z R (Ext.refl R)
  match ds, e with
  | [a], e =>
    obtain ⟨v, rfl, r1⟩ := rel1 rd
    obtain ⟨ns, e1, rfl⟩ := Option.map_eq_some_iff.mp (show ((seqOf M a).bind asInts).map (fun ns => D.int ns.sum) = some d from e)
    obtain ⟨xs, e2, e3⟩ := Option.bind_eq_some_iff.mp e1
    obtain ⟨p, ws, rfl, h1, h2⟩ := seq_of R r1 e2
    have e4 := asInts_of e3 h2
    subst e4
    rcases h1 with h1 | h1
    · exact cr_sum hc pins s σ0 H _ us Q I rv ⟨p, ns, rfl, h1, O _ rfl⟩
    · obtain ⟨its, r', hl, _⟩ := I.tuple h1
      rw [Vals.ref1 rv]
      exact sum_rawT (I.ok.hd hc) hl r'.ints fun h' tk t' hk => ⟨.int _, H, I.kept hk, ⟨_, rfl⟩, O _ rfl⟩
theorem bi_int : CallR X (.type "int") (rBi X.K B ca W fun M ds => biD M .int ds) := by
  refine biR fun pins s σ0 H vs us Q Z φ ρ M σ ds d I rv R rd e O => ?_
  have O := fun z => O φ H z R (Ext.refl R)
  match ds, e with
  | [a], e =>
    obtain ⟨v, rfl, r1⟩ := rel1 rd
    have e : intoD a = some d := e
    unfold intoD at e
    split at e
    · cases e; cases r1
      exact call_int1 pins s σ0 H _ us Q I rv (.inl ⟨_, rfl, O _ rfl⟩)
    · cases e; cases r1
      exact call_int1 pins s σ0 H _ us Q I rv (.inr ⟨_, rfl, O _ rfl⟩)
    · cases e
theorem strOk_of (x : String) : PyData.strOk (Str.ofString x) = true := by
  unfold PyData.strOk
  rw [Str.ofString_eq_toList]
  simp only [List.all_toArray, List.all_map, List.all_eq_true, Function.comp_apply, decide_eq_true_eq]
  intro c _
  have h := c.valid
  rcases h with h | h
  · exact Nat.lt_trans h (by decide)
  · exact h.2
theorem bi_str : CallR X (.type "str") (rBi X.K B ca W fun M ds => biD M .str ds) := by
  refine biR fun pins s σ0 H vs us Q Z φ ρ M σ ds d I rv R rd e O => ?_
  have O := fun z => O φ H z R (Ext.refl R)
  match ds, e with
  | [a], e =>
    obtain ⟨v, rfl, r1⟩ := rel1 rd
    have e : strD a = some d := e
    unfold strD at e
    split at e
    · split at e
      · rename_i hl
        cases e; cases r1
        exact call_str_int pins s σ0 H _ us Q I rv ⟨_, rfl, hl, O _ ⟨rfl, strOk_of _, int_text_fits hl⟩⟩
      · cases e
    · cases e
      obtain ⟨rfl, h1, h2⟩ := r1
      exact SkE.call_str_str pins s σ0 H _ us Q I rv ⟨_, rfl, O _ ⟨rfl, h1, h2⟩⟩
    · cases e
theorem bi_abs : CallR X (.builtin "abs") (rBi X.K B ca W fun M ds => biD M .abs ds) := by
  refine biR fun pins s σ0 H vs us Q Z φ ρ M σ ds d I rv R rd e O => ?_
  have O := fun z => O φ H z R (Ext.refl R)
  match ds, e with
  | [a], e =>
    obtain ⟨v, rfl, r1⟩ := rel1 rd
    have e : absD a = some d := e
    unfold absD at e
    split at e
    · cases e; cases r1
      exact call_abs pins s σ0 H _ us Q I rv ⟨_, rfl, O _ rfl⟩
    · cases e
theorem bi_min (hc : X.calm = true) : CallR X (.builtin "min") (rBi X.K B ca W fun M ds => biD M .min2 ds) := by
  refine biR fun pins s σ0 H vs us Q Z φ ρ M σ ds d I rv R rd e O => ?_
  have O := fun z => O φ H z R (Ext.refl R)
  match ds, e with
  | [a, c], e =>
    obtain ⟨v, u, rfl, r1, r2⟩ := rel2 rd
    have e : minD a c = some d := e
    unfold minD at e
    split at e
    · cases e; cases r1; cases r2
      exact call_min2 hc pins s σ0 H _ us Q I rv ⟨_, _, rfl, O _ rfl⟩
    · cases e
theorem bi_max (hc : X.calm = true) : CallR X (.builtin "max") (rBi X.K B ca W fun M ds => biD M .max2 ds) := by
  refine biR fun pins s σ0 H vs us Q Z φ ρ M σ ds d I rv R rd e O => ?_
  have O := fun z => O φ H z R (Ext.refl R)
  match ds, e with
  | [a, c], e =>
    obtain ⟨v, u, rfl, r1, r2⟩ := rel2 rd
    have e : maxD a c = some d := e
    unfold maxD at e
    split at e
    · cases e; cases r1; cases r2
      exact call_max2 hc pins s σ0 H _ us Q I rv ⟨_, _, rfl, O _ rfl⟩
    · cases e
theorem chr_ok {z : Str} {c : Nat} (h : PyData.strOk z = true) (hc : c ∈ z.cps.toList) : PyData.strOk (⟨#[c]⟩ : Str) = true := by
  unfold PyData.strOk at *
  rw [← Array.all_toList] at h
  have := List.all_eq_true.mp h c hc
  simpa using this
theorem chrs_rel {K : PySem.W.Frag} {Z φ : List Addr} {H : Hp} {z : Str} (h : PyData.strOk z = true) : ∀ l : List Nat, (∀ c ∈ l, c ∈ z.cps.toList) → RelDs K Z φ H (l.map fun c => D.str ⟨#[c]⟩) (l.map fun c => V.str ⟨#[c]⟩)
  | [], _ => rfl
  | c :: l, q => ⟨_, _, rfl, ⟨rfl, chr_ok h (q c List.mem_cons_self), by show 1 ≤ sizeLine; decide⟩, chrs_rel h l fun x hx => q x (List.mem_cons_of_mem _ hx)⟩
theorem bi_repr (hgd : X.A.guards = some []) (hu : X.A.units + 64 < cLine) : CallR X (.builtin "repr") (rBi X.K B ca W fun M ds => biD M .repr ds) := by
  refine biR fun pins s σ0 H vs us Q Z φ ρ M σ ds d I rv R rd e O => ?_
  have O := fun z => O φ H z R (Ext.refl R)
  match ds, e with
  | [a], e =>
    obtain ⟨v, rfl, r1⟩ := rel1 rd
    have e : reprD M a = some d := e
    unfold reprD at e
    split at e
    · rename_i p hp
      split at e
      · rename_i hc
        cases e
        obtain ⟨h1, h2, h3, h4⟩ := hc
        obtain ⟨q1, q2⟩ := toPy_ok R hp r1
        obtain ⟨u, rfl, ru⟩ := vals1 rv
        obtain ⟨as, rd⟩ := Dp.reads I p v u q1 ru
        have O := O _ ⟨rfl, h4, h3⟩
        have fin : ∀ (h' : Heap) (t : Tok) (tk : Nat), (∀ b o, s.heap.get? b = some o → h'.get? b = some o) → EP X pins σ0 Q (.str p.shown t) { s with heap := h', toks := tk } := fun h' t tk hk => ⟨.str p.shown, H, I.kept hk, ⟨t, rfl⟩, O⟩
        cases u with
        | ref a => exact PySem.repr_of_reads' rd h1 (PyData.noDict_hsm (PyData.hasDict_of_canLay p q2)) hgd (by omega) (fun _ _ e => e) (fun h' t tk hk => fin h' t tk hk) h3
        | none =>
          cases rd
          simp only [PyData.shown] at fin
          exact PySem.P.repr_of_none (fin s.heap _ _ fun _ _ e => e)
        | bool b =>
          cases rd
          simp only [PyData.shown] at fin
          exact PySem.P.repr_of_bool (fin s.heap _ _ fun _ _ e => e)
        | int i t =>
          cases rd
          simp only [PyData.shown] at fin
          exact PySem.P.repr_of_int (by simpa [PyData.showable] using h1) (fin s.heap _ _ fun _ _ e => e)
        | str x t =>
          cases rd
          simp only [PyData.shown] at fin h3
          exact PySem.P.repr_of_str (fin s.heap _ _ fun _ _ e => e) h3
        | _ => cases rd
      · cases e
    · cases e
theorem bi_tuple (hc : X.calm = true) : CallR X (.type "tuple") (rBi X.K B ca W fun M ds => biD M .tuple ds) := by
  refine biR fun pins s σ0 H vs us Q Z φ ρ M σ ds d I rv R rd e O => ?_
  match ds, e with
  | [a], e =>
    obtain ⟨v, rfl, r1⟩ := rel1 rd
    have e : tupD M a = some d := e
    unfold tupD at e
    split at e
    · cases e
      obtain ⟨p, ws, rfl, h1, h2⟩ := r1
      exact call_tuple_of pins s σ0 H _ us Q I rv ⟨p, ws, rfl, .inr ⟨h1.sq, O φ H _ R (Ext.refl R) ⟨p, ws, rfl, h1, h2⟩⟩⟩
    · split at e
      · rename_i hz
        cases e
        obtain ⟨rfl, h1, h2⟩ := r1
        refine call_tupleS hc pins s σ0 H _ us Q I rv ⟨_, rfl, hz, fun l hl => ?_⟩
        obtain ⟨R1, e1, r1⟩ := R.newT hl (chrs_rel (K := X.K) h1 _ fun c hc => hc)
        exact O _ _ _ R1 e1 r1
      · cases e
    · obtain ⟨xs, e1, rfl⟩ := Option.map_eq_some_iff.mp e
      obtain ⟨p, ws, rfl, h1, h2⟩ := lst_of R r1 e1
      refine call_tuple_of pins s σ0 H _ us Q I rv ⟨p, ws, rfl, .inl ⟨SqL.of h1, fun l hl => ?_⟩⟩
      obtain ⟨R1, e1, r1⟩ := R.newT hl h2
      exact O _ _ _ R1 e1 r1
end
end MP

set_option Elab.async false
set_option linter.all false
set_option maxRecDepth 100000
set_option maxHeartbeats 1000000
namespace MP
open PySem PySem.Spec PyProof.Rows L2 HT
/-! ### t[::-1] -/
section
variable {prog : Program} {w : World} {A : Around} {E : Value → Shared → Prop} {s : Shared}
theorem adjust_rev (n : Nat) : Builtin.Slice.sliceAdjust none none (-1) (n : Int) = ((n : Int) - 1, -1) := by
  unfold Builtin.Slice.sliceAdjust
  simp
theorem places_rev (n : Nat) : Builtin.Slice.slicePlaces ((n : Int) - 1) (-1) (-1) = n := by
  unfold Builtin.Slice.slicePlaces
  have h1 : ¬ ((-1 : Int) > 0) := by decide
  simp only [h1, if_false]
  split
  · have e : ((n : Int) - 1 - -1 - 1) / (- -1) + 1 = (n : Int) := by
      rw [show (- -1 : Int) = 1 by decide, Int.ediv_one]; omega
    rw [e]; exact Int.toNat_natCast n
  · have : n = 0 := by omega
    subst this; rfl
theorem fm_congr {α β : Type} {f g : α → Option β} : ∀ {l : List α}, (∀ x ∈ l, f x = g x) → l.filterMap f = l.filterMap g
  | [], _ => rfl
  | x :: l, h => by
    rw [List.filterMap_cons, List.filterMap_cons, h x List.mem_cons_self, fm_congr fun y hy => h y (List.mem_cons_of_mem _ hy)]
theorem pick_rev (xs : Array Value) : ((List.range xs.size).filterMap fun (m : Nat) => xs[(((xs.size : Int) - 1) + (m : Int) * (-1)).toNat]?).toArray = xs.toList.reverse.toArray := by
  have e : (List.range xs.size).filterMap (fun (m : Nat) => xs[(((xs.size : Int) - 1) + (m : Int) * (-1)).toNat]?) = ((List.range xs.size).map fun k => xs.size - 1 - k).filterMap (xs[·]?) := by
    rw [List.filterMap_map]
    refine fm_congr fun m hm => ?_
    have := List.mem_range.mp hm
    show xs[_]? = xs[xs.size - 1 - m]?
    have : (((xs.size : Int) - 1) + (m : Int) * (-1)).toNat = xs.size - 1 - m := by omega
    rw [this]
  rw [e, PySem.W.krv_range, List.filterMap_reverse, PySem.W.krv_all]
theorem sliceApplied_rev {sl : Addr} {vs : Value} {n : Nat} {Q : Int × Int × Nat → Shared → Prop} (hs : s.heap.IsSliceOf sl .none .none vs) (ps : IsPart vs (some (-1)))
    (h : Q ((n : Int) - 1, -1, n) s) : wpAny (model prog w) A (Builtin.Slice.sliceApplied (.ref sl) (pure (n : Int))) Q E s := by
  obtain ⟨os, hos, hcs, hds⟩ := id hs
  unfold Builtin.Slice.sliceApplied Builtin.Slice.sliceFields
  refine wpAny_bind (wpAny_bind (wpAny_field hos hds (x := .none) rfl (wpAny_bind (wpAny_field hos hds (x := .none) rfl (wpAny_bind (wpAny_field hos hds (x := vs) rfl (wpAny_pure ?_)))))))
  refine wpAny_bind (slicePart_ ps ?_)
  show wpAny _ _ (if ((-1 : Int) == 0) = true then _ else _) _ _ s
  rw [if_neg (by decide)]
  refine wpAny_bind (slicePart_ .none (wpAny_bind (slicePart_ .none (wpAny_bind (wpAny_pure ?_)))))
  show wpAny _ _ (match Builtin.Slice.sliceAdjust none none (-1) (n : Int) with | (lo, hi) => pure (lo, (-1 : Int), Builtin.Slice.slicePlaces lo hi (-1))) _ _ s
  rw [adjust_rev]
  show wpAny _ _ (pure ((n : Int) - 1, (-1 : Int), Builtin.Slice.slicePlaces ((n : Int) - 1) (-1) (-1))) _ _ s
  rw [places_rev]
  exact wpAny_pure h
theorem getItem_tuple_rev {t sl : Addr} {items : Array Value} {vs : Value} {Q : Value → Shared → Prop} (ht : IsTup s.heap t items) (hs : s.heap.IsSliceOf sl .none .none vs) (ps : IsPart vs (some (-1)))
    (h : Q (.ref s.heap.objs.size) { s with heap := s.heap.push { cls := .type "tuple", data := .seq items.toList.reverse.toArray } })
    (hsz : items.size ≤ sizeLine) : wpAny (model prog w) A (getItem (.ref t) (.ref sl)) Q E s := by
  have htake : sizeOk (.seq items.toList.reverse.toArray) := by
    show items.toList.reverse.toArray.size ≤ sizeLine
    rw [List.size_toArray, List.length_reverse, Array.length_toList]
    exact hsz
  obtain ⟨os, hos, hcs, hds⟩ := id hs
  have hTs : s.TypeIs (.ref sl) "slice" := ⟨os, hos, hcs⟩
  unfold getItem
  try with_reducible refine wpAny_holding ?_
  first | refine wpAny_bind (wpAny_pure ?_) | skip
  refine wpAny_bind (wpAny_sequenceKey ht.typeIs (by decide) ?_)
  refine wpAny_bind (wpAny_callSpecial?_slot (name := Str.ofString "__getitem__") ht.typeIs PyProof.Rows.slot_tuple_getitem
    (wpAny_call_entry PyProof.Rows.slot_tuple_getitem ht.typeIs entry_tuple_getitem ?_ (args_tuple_getitem _ _)))
  show wpAny _ _ (Builtin.Tuple.tupleItemsOf (.ref t) >>= _) _ _ s
  refine wpAny_bind (tupleItemsOf_ ht ?_)
  refine wpAny_bind (wpAny_typeOf hTs ?_)
  rw [if_pos (by decide)]
  refine wpAny_bind (sliceApplied_rev hs ps ?_)
  have hno : ¬ ((((items.size : Int) - 1) == 0 && (-1 : Int) == 1 && items.size == items.size) = true) := by
    intro q
    rw [Bool.and_eq_true, Bool.and_eq_true] at q
    exact absurd q.1.2 (by decide)
  show wpAny _ _ (if (((items.size : Int) - 1) == 0 && (-1 : Int) == 1 && items.size == items.size) = true then _ else _) _ _ s
  rw [if_neg hno, pick_rev]
  first
    | exact wpAny_bind (m := Builtin.Tuple.tupleExact _) (wpAny_newObj_type (wpAny_pure ⟨_, rfl, wpAny_pure h⟩) htake)
    | exact wpAny_bind (m := Builtin.Tuple.tupleExact _) (wpAny_newObj_type (wpAny_bind (wpAny_pure (wpAny_pure ⟨_, rfl, wpAny_pure h⟩))) htake)
    | exact wpAny_bind (wpAny_bind (m := Builtin.Tuple.tupleExact _) (wpAny_newObj_type (wpAny_pure (wpAny_pure ⟨_, rfl, wpAny_pure h⟩)) htake))
    | exact wpAny_bind (wpAny_bind (m := Builtin.Tuple.tupleExact _) (wpAny_newObj_type (wpAny_pure ⟨_, rfl, wpAny_pure h⟩) htake))
end
section
variable {X : Cx}
def tRevA (K : PySem.W.Frag) (te : TE) : TE := fun σ H Q => te σ H fun x H1 => ∃ a xs, x = .ref a ∧
  ((SqL K H1 a xs ∧ ∀ p, H1 p = none → Q (.ref p) (upd H1 p (.lst xs.reverse))) ∨ (SqT K H1 a xs ∧ ∀ p, H1 p = none → Q (.ref p) (upd H1 p (.tup xs.reverse))))
theorem pe_revA {e : Expr} {te : TE} {k : Nat} {p1 p2 p3 pos : Pos} (he : PE X e te) : PE X (.Subscript e (.Slice none none (some (.UnaryOp .USub (.Constant (.int 1) k p1) p2)) p3) pos) (tRevA X.K te) := by
  refine ⟨fun pins s σ H Q I h => ?_⟩
  refine Subscript_ (thn (he.run pins s σ H _ I h) fun v s1 ⟨x, H1, I1, r1, q1⟩ => ?_)
  obtain ⟨a, xs, ex, q⟩ := q1
  subst ex
  cases r1
  have hst : PO X (some (.UnaryOp .USub (.Constant (.int 1) k p1) p2)) (tPart (tUn (rU fun i => .int (-i)) (tC (.int 1)))) := po_some (pe_un un_neg pe_int)
  refine wpAny_Slice (thn (po_none.run pins s1 σ H1 (fun o H2 => o = none ∧ H2 = H1) I1 ⟨rfl, rfl⟩) fun vl s2 ⟨l, H2, I2, pl, el, e2⟩ => ?_)
  subst el e2
  refine thn (po_none.run pins s2 σ H2 (fun o H3 => o = none ∧ H3 = H2) I2 ⟨rfl, rfl⟩) fun vu s3 ⟨u, H3, I3, pu, eu, e3⟩ => ?_
  subst eu e3
  refine thn (hst.run pins s3 σ H3 (fun o H4 => o = some (-1) ∧ H4 = H3) I3 ⟨1, rfl, -1, rfl, rfl, rfl⟩) fun vs s4 ⟨o, H4, I4, ps, eo, e4⟩ => ?_
  subst eo e4
  have I5 : Inv X pins σ H4 { s4 with heap := s4.heap.push { cls := .type "slice", data := .fields #[vl, vu, vs] } } := I4.kept (t' := s4.toks) fun b ob q => Heap.get?_push_of_some _ q
  rcases q with ⟨hx, q⟩ | ⟨hx, q⟩
  · obtain ⟨its, r, ht, hz⟩ := I5.list hx
    have hlen := r.length
    show wpAny (model X.prog X.w) X.A (subscriptTail e (.Slice none none (some (.UnaryOp .USub (.Constant (.int 1) k p1) p2)) p3) (.ref a) (.ref s4.heap.objs.size)) (EP X pins σ Q) X.xe { s4 with heap := s4.heap.push { cls := .type "slice", data := .fields #[vl, vu, vs] } }
    refine tail_any (ops := [.ref a, .ref s4.heap.objs.size]) ht.isList.typeIs (PySem.slot_list_getitem.lookup) ?_ (by with_unfolding_all rfl)
    refine wpAny_getItem_list_slice ht.isList (Heap.IsSliceOf.new _ vl vu vs) pl pu ps (by decide) ?_ (by rw [List.size_toArray]; omega)
    rw [PySem.W.krv_pick]
    refine ⟨.ref _, _, I5.laid (t' := s4.toks) (o := .lst xs.reverse) (fun b ob q => Heap.get?_push_of_some _ q) (Nat.le_refl _) ?_, rfl, q _ (I5.hok.fresh (Nat.le_refl _))⟩
    exact ⟨by rw [List.length_reverse]; exact hz, _, 0, r.reverse, Heap.get?_push_size _ rfl⟩
  · obtain ⟨its, r, ht, hz⟩ := I5.tuple hx
    have hlen : its.toArray.size = xs.length := by rw [List.size_toArray]; exact r.length.symm
    cases pl
    cases pu
    show wpAny (model X.prog X.w) X.A (subscriptTail e (.Slice none none (some (.UnaryOp .USub (.Constant (.int 1) k p1) p2)) p3) (.ref a) (.ref s4.heap.objs.size)) (EP X pins σ Q) X.xe { s4 with heap := s4.heap.push { cls := .type "slice", data := .fields #[.none, .none, vs] } }
    refine tail_any (ops := [.ref a, .ref s4.heap.objs.size]) ht.typeIs (PyProof.Rows.slot_tuple_getitem.lookup) ?_ (by with_unfolding_all rfl)
    refine getItem_tuple_rev ht (Heap.IsSliceOf.new _ .none .none vs) ps ?_ (by rw [hlen]; exact hz)
    refine ⟨.ref _, _, I5.laid (t' := s4.toks) (o := .tup xs.reverse) (fun b ob q => Heap.get?_push_of_some _ q) (Nat.le_refl _) ?_, rfl, q _ (I5.hok.fresh (Nat.le_refl _))⟩
    exact ⟨by rw [List.length_reverse]; exact hz, _, r.reverse, IsTup.new _ _⟩
end
end MP

set_option Elab.async false
set_option linter.all false
set_option maxRecDepth 100000
set_option maxHeartbeats 1000000
namespace MP
open PySem PySem.Spec PyProof.Rows L2
section
variable {X : Cx} {pins : List (Addr × Obj)} {σ : L2.St} {H : Hp} {s : Shared}
/-- an object that is known gets tracked -/
theorem inv_track {a : Addr} {oe : Obj} {o : HO} (I : Inv X ((a, oe) :: pins) σ H s) (n0 : X.s_0.heap.get? a = none) (np : ∀ p ∈ X.pn ++ pins, p.1 ≠ a) (hd : ∀ v, oe.data ≠ .cell v) (new : ObjOk X.prog X.w (upd H a o) s.heap a o) : Inv X pins σ (upd H a o) s := by
  obtain ⟨ha, hn, nL, nF, _⟩ := I.pin (a, oe) (List.mem_append_right _ List.mem_cons_self)
  have ne0 : ∀ b u, X.s_0.heap.get? b = some u → b ≠ a := fun b u e z => by rw [z, n0] at e; cases e
  refine ⟨I.ok, I.os, I.bare, ⟨I.base.keep, I.base.slot, fun b u e n hx => ?_, I.base.there, fun b xs e => ?_, fun b u v e => ?_, fun b ps e => ?_⟩, I.loc, I.cell, ?_, fun x c e => ?_, fun p hp => ?_, HOk.laidN I.hok (fun _ _ e => e) hn new, I.len⟩
  · rw [upd_ne (ne0 b u e)]; exact I.base.free b u e n hx
  · have z := I.base.tups b xs e
    rw [upd_ne (ne_of_none z hn)]; exact z
  · have z := I.base.frzs b u v e
    rw [upd_ne (ne_of_none z hn)]; exact z
  · obtain ⟨more, z⟩ := I.base.tbls b ps e
    exact ⟨more, by rw [upd_ne (ne_of_none z hn)]; exact z⟩
  · rw [upd_ne (Ne.symm nL)]; exact I.free
  · obtain ⟨v, z⟩ := I.cell x c e
    have hca : c ≠ a := fun q => by
      obtain ⟨oc, e1, e2⟩ : ∃ oc, s.heap.get? c = some oc ∧ oc.data = .cell v := by
        obtain ⟨oc, e1, e2⟩ := z
        exact ⟨oc, e1, e2⟩
      rw [q, ha] at e1
      cases e1
      exact hd v e2
    rw [upd_ne hca]; exact I.freeC x c e
  · have hp' : p ∈ X.pn ++ ((a, oe) :: pins) := (List.mem_append.mp hp).elim (fun z => List.mem_append_left _ z) fun z => List.mem_append_right _ (List.mem_cons_of_mem _ z)
    obtain ⟨z1, z2, z3⟩ := I.pin p hp'
    exact ⟨z1, by rw [upd_ne (np p hp)]; exact z2, z3⟩
theorem unsuite' {a : Addr} {oe : Obj} {pn' : List (Addr × Obj)} (I : Inv (X.suite a ((a, oe) :: (X.pn ++ pins))) pn' σ H s) (ok : X.Ok) : Inv X ((a, oe) :: pins) σ H s :=
  ⟨ok, I.os, I.bare, I.base, I.loc, I.cell, I.free, I.freeC, fun p hp => by
    refine I.pin p (List.mem_append_left _ ?_)
    rcases List.mem_append.mp hp with z | z
    · exact List.mem_cons_of_mem _ (List.mem_append_left _ z)
    · rcases List.mem_cons.mp z with z | z
      · rw [z]; exact List.mem_cons_self
      · exact List.mem_cons_of_mem _ (List.mem_append_right _ z), I.hok, I.len⟩
end
/-- what 'except x as n: m = n' wishes: slot i is n's, slot j is m's -/
def wKp (K : PySem.W.Frag) (c : Value) (i j : Nat) (Wout : WX) (D : Ends) : WX := fun cls d σ H =>
  ∃ b, PySem.W.exmOne K cls c = some b ∧ (b = true → ∃ C dx, cls = .ref C ∧ d = some dx ∧ ∀ a, H a = none → D.nx (((σ.set i (some (.ref a))).set j (some (.ref a))).set i none) (upd H a (xcO C dx a))) ∧ (b = false → Wout cls d σ H)
section
variable {X : Cx} {x n m : Str} {c : Value} {i j : Nat} {body : List Stmt} {np mp ep apos pos pos' : Pos} {tb : WX → TS} {Wout : WX}
theorem ps_try_keep (hs : X.stack = X.env :: X.outer) (hf : X.env.frame = some X.env.locals) (hex : X.ex = []) (hN : X.N.Nodup) (hi : X.N[i]? = some n) (hj : X.N[j]? = some m) (hln : X.env.kindOf n = some .local) (hlm : X.env.kindOf m = some .local) (hc : Names X x c) (tk : Takes X Wout)
    (hd1 : (n == ("__debug__" : Str)) = false) (hd2 : (n == ("__classdict__" : Str)) = false)
    (hb : ∀ (W : WX) (pn : List (Addr × Obj)) (xe : Value → Shared → Prop), Takes (X.tr pn xe) W → PassesOwn (model X.prog X.w) X.A X.env xe → PSs (X.tr pn xe) body (tb W)) :
    PS X (.Try body [.ExceptHandler (some (.Name x np)) (some n) [.Assign [.Name m mp] (.Name n ep) apos] pos'] [] [] pos) (fun D σ H => tb (wKp X.K c i j Wout D) D σ H) := by
  refine ⟨fun pins s σ H D I h => ?_⟩
  have ok := I.ok
  have hfr : X.A.frames = some (X.env :: X.outer) := by rw [ok.frames, hs]
  have hloc : Loc X.env.scope n := .inl hln
  refine wpAny_Try_except ?_
  refine wpAny_mono ((hb (wKp X.K c i j Wout D) (X.pn ++ pins) (fun e s₁ => wpAny (model X.prog X.w) X.A (noteFrame e X.env) (fun _ s₂ => wpAny (model X.prog X.w) X.A (setFlight e none) (fun _ s₃ =>
    wpAny (model X.prog X.w) X.A (handleBy e X.env [.ExceptHandler (some (.Name x np)) (some n) [.Assign [.Name m mp] (.Name n ep) apos] pos']) (SP X pins D) X.xe s₃) X.xe s₂) X.xe s₁) (fun u s' xx => ?_) PassesOwn.looking).run [] s σ H D (I.toTry _) h) (fun f s1 hsp => ?_) (fun e s1 he => he)
  · -- the catch
    obtain ⟨a, B, sI, pins', σ', H', cls, d, rfl, J', nb, up, sky, na, os, ag, b, hb1, hyes, hno⟩ := xx
    have J : Inv X pins σ' H' sI := J'.ofTry ok
    have sky' : Sky B (X.env :: X.outer) a (Zc cls d) X.env.locals s'.heap := by rw [← hs]; exact sky
    show wpAny (model X.prog X.w) X.A (noteFrame (.ref a) X.env) _ _ _
    refine Sky.land Zc.steady hfr hf sky' fun h3 fl3 up3 => ?_
    have J3 : Inv X pins σ' H' { s' with heap := h3 } := J.landed nb fl3.1 (up.trans up3) os ag
    obtain ⟨oe3, vs3, he3, hz3, hd3⟩ := fl3.there
    have notFr : ∀ {h : Heap} {o : Obj} {vs : Array Value}, h.FunFrames B (X.env :: X.outer) → h.get? a = some o → o.data = .fields vs → a ∉ frs (X.env :: X.outer) := fun {h o vs} ff e dd hm => by
      obtain ⟨_, o', e', hnf⟩ := ff.mem hm
      rw [e] at e'; cases e'
      exact hnf _ dd
    have nfr := notFr fl3.2.2.1 he3 hd3
    have nL : a ≠ X.env.locals := fun z => nfr (List.mem_filterMap.mpr ⟨X.env, List.mem_cons_self, by rw [hf, z]⟩)
    have nF : a ∉ X.fs := fun hm => by
      obtain ⟨e, he, q⟩ := List.mem_filterMap.mp hm
      exact nfr (List.mem_filterMap.mpr ⟨e, List.mem_cons_of_mem _ he, q⟩)
    have nB : B.get? a = none := fl3.2.1
    have nI : sI.heap.get? a = none := by
      cases e : sI.heap.get? a with
      | none => rfl
      | some o =>
        have z := nb a o e (by rw [hs]; exact nfr)
        rw [nB] at z; cases z
    have n0 : X.s_0.heap.get? a = none := by
      cases e : X.s_0.heap.get? a with
      | none => rfl
      | some o =>
        obtain ⟨o', z⟩ := J.base.there a o e (by rw [hex]; exact fun z => nomatch z)
        rw [nI] at z; cases z
    have npn : ∀ p ∈ X.pn ++ pins, p.1 ≠ a := fun p hp z => by
      have q := (J.pin p hp).1
      rw [z, nI] at q; cases q
    have S3 := J3.suite he3 hd3 na nL nF
    refine wpAny_handleBy_cons (codeAny_handlers_test ?_) (by intro q; cases q)
    have LT : PySem.W.Looks (model X.prog X.w) h3 (typeOf (.ref a)) cls := fun A Q E s k q => wpAny_typeOf_ref (k _ _ he3) (by rw [hz3.1]; exact q)
    have LM := PySem.W.exm_one (M := model X.prog X.w) (J3.kIn) LT hb1
    have test : ∀ {Q : Value → Shared → Prop} {E : Value → Shared → Prop}, Q c { s' with heap := h3 } → wpAny (model X.prog X.w) (X.A.mark (some (.ref a))) (eval (.Name x np) X.env) Q E { s' with heap := h3 } := fun {Q E} q => by
      obtain ⟨hg, hdbg, hm | ⟨hm, hv, hnn⟩⟩ := hc
      · exact ld_glob (X := X.suite a ((a, oe3) :: (X.pn ++ pins))) S3 hg hm q hdbg
      · exact ld_blt (X := X.suite a ((a, oe3) :: (X.pn ++ pins))) S3 hg hm hv q hnn hdbg
    refine test (LM.here ?_)
    cases b with
    | true =>
      obtain ⟨C, dx, rfl, rfl, hy2⟩ := hyes rfl
      refine codeAny_handlers_suite_as ?_
      refine HandSPX.lands_againZ fl3 fun h4 fl4 up4 => ?_
      have J4 : Inv X pins σ' H' { s' with heap := h4 } := J.landed nb fl4.1 ((up.trans up3).trans up4) os ag
      obtain ⟨oe4, vs4, he4, hz4, hd4⟩ := fl4.there
      have S4 := J4.suite he4 hd4 na nL nF
      refine store_ok (X := X.suite a ((a, oe4) :: (X.pn ++ pins))) (v := .ref a) S4 hN hi hloc rfl (fun s5 S5 => ?_) (.inr hln)
      have hlen : i < σ'.length := by rw [J.len]; exact (List.getElem?_eq_some_iff.mp hi).1
      have hsu : PSs (X.suite a ((a, oe4) :: (X.pn ++ pins))) [.Assign [.Name m mp] (.Name n ep) apos] _ :=
        pss_one (ps_set (i := j) hN hj (.inl hlm) (pe_var (i := i) hi (.inl hln) hd1 hd2) rfl (.inr hlm))
      refine wpAny_mono (hsu.run [] s5 _ H' { nx := fun σ6 H6 => σ6 = (σ'.set i (some (.ref a))).set j (some (.ref a)) ∧ H6 = H', rt := fun _ _ => False, bk := fun _ _ => False, ct := fun _ _ => False } S5 ⟨.ref a, List.getElem?_set_self hlen, rfl, rfl⟩) (fun f s6 hsp => ?_) (fun _ _ z => False.elim z)
      cases f with
      | next =>
        obtain ⟨σ6, H6, S6, rfl, rfl⟩ := hsp
        refine gone_ok (unsuite' S6 ok) hN hi hln fun s7 J7 => ?_
        obtain ⟨ha7, _⟩ := J7.pin (a, oe4) (List.mem_append_right _ List.mem_cons_self)
        exact ⟨_, _, inv_track (o := xcO C dx a) J7 n0 npn (fun v z => by rw [hd4] at z; cases z) ⟨⟨oe4, vs4, ha7, hz4, hd4⟩, ⟨oe4, ha7⟩, fun h1 h2 z k => by
          obtain ⟨oe, vs, e1, e2, e3⟩ := z
          exact ⟨oe, vs, k _ e1, e2, e3⟩⟩, hy2 a na⟩
      | brk => obtain ⟨_, _, _, z⟩ := hsp; exact z.elim
      | cont => obtain ⟨_, _, _, z⟩ := hsp; exact z.elim
      | ret u => obtain ⟨_, _, _, _, _, z⟩ := hsp; exact z.elim
    | false =>
      show wpAny _ X.A (handleBy (.ref a) X.env []) _ _ _
      refine wpAny_handleBy_nil ?_
      obtain ⟨k1, k2, k3, oe, vs, T, oT, ts', he, hz, hd, h1, hr⟩ := id fl3
      unfold PySem.passOn
      refine wpAny_bind (wpAny_field he hd h1 ?_)
      rw [if_neg (show ¬ ((Value.ref T == Value.none) = true) from by simp)]
      have fin : wpAny (model X.prog X.w) X.A (setFlight (.ref a) X.env.frame) (fun _ s4 => wpAny (model X.prog X.w) X.A (throw (.ref a) : Sem Flow) (SP X pins D) X.xe s4) X.xe { s' with heap := h3 } := by
        rw [hf]
        refine HandSPX.setFlight_upZ fl3 fun h4 hh4 up4 => wpAny_throw (tk _ _ ?_)
        exact ⟨a, B, sI, pins, σ', H', cls, d, rfl, J, nb, (up.trans up3).trans up4, .inr (.inr (by rw [hs]; exact hh4)), na, os, ag, hno rfl⟩
      first
        | exact wpAny_bind (wpAny_pure (wpAny_bind fin))
        | exact wpAny_bind fin
  · cases f with
    | next =>
      obtain ⟨σ', H', J', q⟩ := hsp
      exact wpAny_execs_nil ⟨σ', H', J'.ofTry ok, q⟩
    | brk =>
      obtain ⟨σ', H', J', q⟩ := hsp
      exact ⟨σ', H', J'.ofTry ok, q⟩
    | cont =>
      obtain ⟨σ', H', J', q⟩ := hsp
      exact ⟨σ', H', J'.ofTry ok, q⟩
    | ret u =>
      obtain ⟨v, σ', H', J', r, q⟩ := hsp
      exact ⟨v, σ', H', J'.ofTry ok, r, q⟩
end
def tVal (K : PySem.W.Frag) (te : TE) : TE := fun σ H Q => te σ H fun x H1 => ∃ a C dx v, x = .ref a ∧ ExcRd K C ∧ H1 a = some (xcO C dx a) ∧ H1 dx = some (.xd [(("value" : Str), v)]) ∧ Q v H1
section
variable {X : Cx} {e : Expr} {te : TE} {pos : Pos}
theorem pe_val (he : PE X e te) (hb : attributeBase e "value" X.env (eval e X.env) = eval e X.env) : PE X (.Attribute e "value" pos) (tVal X.K te) := by
  refine ⟨fun pins s σ H Q I h => ?_⟩
  refine attr_of hb (thn (he.run pins s σ H _ I h) fun u s1 hh => ?_)
  obtain ⟨x, H1, I1, rx, a, C, dd, v, ex, T, ea, ed, q⟩ := hh
  subst ex
  obtain rfl : u = Value.ref a := rx
  have hxa : ObjOk X.prog X.w H1 s1.heap a (xcO C dd a) := I1.hok a _ ea
  obtain ⟨⟨oe, vs, ha, hz, hd⟩, _⟩ := (show (∃ (oe : Obj) (vs : Array Value), s1.heap.get? a = some oe ∧ Zc (.ref C) (some dd) oe ∧ oe.data = .fields vs) ∧ _ from hxa)
  have hx : ObjOk X.prog X.w H1 s1.heap dd (.xd [(("value" : Str), v)]) := I1.hok dd _ ed
  obtain ⟨mA, hns, hr⟩ := hx
  obtain ⟨od, ho, hl⟩ := lookIn_ns hns
  have l : List.lookup ("value" : Str) [(("value" : Str), v)] = some v := by simp [List.lookup]
  obtain ⟨u, hu, ru⟩ := RelO.some_of (v := v) (o := mA "value") (by rw [← l]; exact hr "value")
  have J : PySem.W.InstAt s1.heap a oe C (some od) := ⟨ha, hz.1, by unfold PySem.W.notCls; rw [hd] <;> rfl, by rw [hz.2]; exact ho⟩
  exact HandSPX.exc_get I1.kIn J T.ga T.gg T.ex (PySem.W.findObj_own T.hd T.no rfl (by rw [hl, hu])) (handed_of ru) ⟨v, H1, I1.tok _, ru, q⟩
end
end MP

set_option Elab.async false
set_option linter.all false
set_option maxRecDepth 100000
set_option maxHeartbeats 1000000
/-! MP4h: enumerate over a tuple -/
namespace PySem
open Sem (wp)
open AutoSeq1 (wpAny_loadPart')
theorem mp_enum_newT (l : Addr) (items : Array Value) (n : Nat) (dct : Option Addr) (sl : Array (Option Value)) :
    Meets (Builtin.«enumerate.__new__» ⟨[.type "enumerate", .ref l], []⟩) (fun _ R s => s.heap.get? l = some { cls := .type "tuple", dict := dct, data := .seq items n, slots := sl } ∧
      R (.ok (.ret (.ref (s.heap.push { cls := .type "tuple_iterator", data := .fields #[.ref l, .int 0 0] }).objs.size)))
        { s with heap := (s.heap.push { cls := .type "tuple_iterator", data := .fields #[.ref l, .int 0 0] }).push { cls := .type "enumerate", data := .fields #[.none, .bool false, .ref s.heap.objs.size, rawInt 0, .none, .none] } }) :=
  .of_wp fun prog w A R s h => by
    obtain ⟨hp, g, d, tk, os⟩ := s; obtain ⟨hl, h⟩ := h
    have hsub := sub_enumerate
    have hL : Heap.IsTuple (Shared.heap ⟨hp, g, d, tk, os⟩) l items := ⟨_, hl, rfl, n, rfl⟩
    wp_walk using wpAny_loadPart' hl
    refine wpAny_stack_any fun st => wpAny_pure ?_
    split
    · rename_i c _ _ _ _ _
      cases (c == Value.type "enumerate")
      · wp_walk using wpAny_loadPart' hl, wpAny_pyIter_tuple hL
        exact ⟨_, rfl, h⟩
      · wp_walk using wpAny_loadPart' hl, wpAny_pyIter_tuple hL
        exact ⟨_, rfl, h⟩
    · wp_walk using wpAny_loadPart' hl, wpAny_pyIter_tuple hL
      exact ⟨_, rfl, h⟩
section
variable {prog : Program} {w : World} {A : Around} {E : Value → Shared → Prop} {s : Shared}
theorem mp_call_enumT {l : Addr} {items : Array Value} {Q : Value → Shared → Prop} (hL : s.heap.IsTuple l items)
    (h : ∀ h', IsEnum h' (s.heap.objs.size + 1) s.heap.objs.size 0 .none → h'.IsTupleIter s.heap.objs.size l 0 → h'.objs.size = s.heap.objs.size + 2 →
      (∀ b o, s.heap.get? b = some o → h'.get? b = some o) → Q (.ref (s.heap.objs.size + 1)) { s with heap := h' }) :
    wpAny (model prog w) A (call (.type "enumerate") [.ref l]) Q E s := by
  obtain ⟨⟨c, dct, dt, sl⟩, hl, hc, n, hd⟩ := hL
  replace hc : c = .type "tuple" := hc
  replace hd : dt = .seq items n := hd
  subst hc hd
  refine callType_new F.called_enumerate (by decide) (F.typeCall_enumerate_1 _) (F.newCall_enumerate_1 _) (fun obj => F.args_object_init_2 obj _) F.entry_enumerate_new
    (mp_enum_newT l items n dct sl) ⟨hl, ?_⟩
  have hz : (s.heap.push { cls := .type "tuple_iterator", data := .fields #[.ref l, .int 0 0] }).objs.size = s.heap.objs.size + 1 := Heap.size_push ..
  show _ ∧ _
  rw [hz]
  have he : IsEnum ((s.heap.push { cls := .type "tuple_iterator", data := .fields #[.ref l, .int 0 0] }).push
      { cls := .type "enumerate", data := .fields #[.none, .bool false, .ref s.heap.objs.size, rawInt 0, .none, .none] }) (s.heap.objs.size + 1) s.heap.objs.size 0 .none := by
    have := Heap.get?_push_size (s.heap.push { cls := .type "tuple_iterator", data := .fields #[.ref l, .int 0 0] })
      (o := { cls := .type "enumerate", data := .fields #[.none, .bool false, .ref s.heap.objs.size, rawInt 0, .none, .none] }) rfl
    rw [hz] at this; exact this
  refine ⟨⟨_, he, rfl⟩, h _ he ⟨_, Heap.get?_push_of_some _ (Heap.get?_push_size _ rfl), rfl, rfl⟩ (by rw [Heap.size_push, hz]) fun b o x => Heap.get?_push_of_some _ (Heap.get?_push_of_some _ x)⟩
end
theorem Heap.IsTuple.mpBut {h h' : Heap} {it l : Addr} {items : Array Value} (t : h.IsTuple l items) (x : Heap.ExtBut it h h') (hne : l ≠ it) : h'.IsTuple l items :=
  let ⟨o, e, r⟩ := t
  ⟨o, x l o hne e, r⟩
theorem Draws.mpTuple {prog : Program} {w : World} {A : Around} (hh : A.handled = none) (it l : Addr) (hne : l ≠ it) (items : Array Value) :
    Draws prog w A it [it, l] items.size (fun i v => items[i]? = some v) (fun i h => h.IsTupleIter it l i ∧ h.IsTuple l items) where
  live := fun _ _ st => let ⟨o, ho, _⟩ := st.1; ⟨o, ho⟩
  frame := fun _ _ _ st hk => ⟨st.1.at fun o e => hk it (by simp) o e, let ⟨o, e, r⟩ := st.2; ⟨o, hk l (by simp) o e, r⟩⟩
  item := fun i s Q E hi st hQ => by
    refine RZ.nextOf_tuple_item st.1 st.2 (x := items[i]) (by simp [hi]) fun h' hit' hs' => ?_
    exact hQ _ h' s.toks (by simp [hi]) ⟨hit', st.2.mpBut hs'.extBut hne⟩ hs'
  done := fun s Q E st hE => RZ.nextOf_tuple_end hh st.1 st.2 (by simp) hE
end PySem
namespace MP
open PySem PySem.Spec PyProof.Rows L2
/-- the tuple at a, each item in a new pair -/
def IteT (K : PySem.W.Frag) (a : Addr) : It :=
  ⟨fun i H => ∃ (xs : List V) (x : V), SqT K H a xs ∧ xs[i]? = some x, fun i H v H' => ∃ T x, v = .ref T ∧ H T = none ∧ H' = upd H T (.tup [.int (i : Nat), x]) ∧ ∀ xs, SqT K H a xs → xs[i]? = some x, fun i H => ∃ xs : List V, SqT K H a xs ∧ xs.length ≤ i⟩
theorem turn_enumT {P : Program} {w : World} {K : PySem.W.Frag} {elts : List Expr} {kk : Nat} {tpos : Pos} (a e it : Addr) :
    Turn P w K (.Tuple elts kk tpos) (IteT K a) [e, it] e (fun i h => (∃ old, IsEnum h e it ((i : Nat) : Int) old) ∧ h.IsTupleIter it a i ∧ e ≠ it) where
  mem := by simp
  obj := fun i h st b hb => by
    obtain ⟨⟨old, he⟩, ⟨o, ho, hc, hd⟩, _⟩ := st
    have e' : b = e ∨ b = it := by simpa using hb
    rcases e' with z | z
    · rw [z]; exact ⟨_, he, fun v q => nomatch q⟩
    · rw [z]; exact ⟨o, ho, fun v q => by rw [hd] at q; cases q⟩
  keep := fun i h h' st k => let ⟨⟨old, he⟩, hi, hne⟩ := st; ⟨⟨old, k e (by simp) _ he⟩, hi.at fun o q => k it (by simp) o q, hne⟩
  item := by
    intro X hP hw hK hc i pins s σ H E I hf st hg
    subst hP hw hK
    obtain ⟨⟨old, he⟩, hit, hne⟩ := st
    obtain ⟨xs, x, hq, hx⟩ := hg
    obtain ⟨its, rv, p, hz⟩ := I.tuple hq
    obtain ⟨u, hu, ru⟩ := rv.get hx
    have p : s.heap.IsTuple a its.toArray := p
    have hel : e < s.heap.objs.size := Heap.lt_size he
    have hil : it < s.heap.objs.size := by obtain ⟨_, q, _⟩ := hit; exact Heap.lt_size q
    have hae : a ≠ e := fun z => by
      obtain ⟨o, h1, h2, _⟩ := p
      rw [z] at h1
      rw [show s.heap.get? e = _ from he] at h1
      cases h1
      injection h2 with h3
      exact absurd h3 (by decide)
    have hai : a ≠ it := fun z => by
      obtain ⟨o, h1, h2, _⟩ := p
      obtain ⟨o', h3, h4, _⟩ := hit
      rw [z, h3] at h1
      cases h1
      rw [h4] at h2
      injection h2 with h5
      exact absurd h5 (by decide)
    have hi : i < its.toArray.size := by
      have := (List.getElem?_eq_some_iff.mp hu).1
      simpa using this
    refine wpAny_pyNext_enum_itemD (Draws.mpTuple (show X.A.in1.handled = none from I.ok.hd hc) it a hai its.toArray) he ⟨hit, p⟩ hi hne (by simp [hne, Ne.symm hae]) fun x' h' tk hx' ho hit' hT hsz hk => ?_
    have ex : x' = u := by
      have := hx'
      rw [List.getElem?_toArray, hu] at this
      exact (Option.some.inj this).symm
    subst ex
    refine ⟨_, rfl, wpAny_letOwnedTupleGo_enum (s := { s with heap := h', toks := tk + 1 }) ho fun h'' he' sb => ?_⟩
    have hT2 : h''.get? s.heap.objs.size = some { cls := .type "tuple", data := .seq #[.int i tk, x'] } := (sb.2 _ (Nat.ne_of_gt hel)).trans hT
    have new : ObjOk X.prog X.w (upd H s.heap.objs.size (.tup [.int (i : Nat), x])) h'' s.heap.objs.size (.tup [.int (i : Nat), x]) :=
      ⟨by show 2 ≤ sizeLine; decide, [.int i tk, x'], .cons ⟨_, rfl⟩ (.cons ru .nil), ⟨_, hT2, rfl, _, rfl⟩⟩
    have I1 : Inv X pins σ (upd H s.heap.objs.size (.tup [.int (i : Nat), x])) { s with heap := h'', toks := tk + 1 } :=
      I.turnedNew (ch := [e, it]) (fun b ob hb q => (sb.2 b (fun z => hb (by simp [z]))).trans (hk b ob (fun z => hb (by simp [z])) (fun z => hb (by simp [z])) q)) hf (Nat.le_refl _) new
    refine ⟨.ref s.heap.objs.size, _, I1, rfl, ⟨_, x, rfl, I.hok.fresh (Nat.le_refl _), rfl, fun ys hy => by rw [I.tuple_inj hy hq]; exact hx⟩, ⟨⟨x', ?_⟩, hit'.1.at fun o q => (sb.2 it (Ne.symm hne)).trans q, hne⟩, fun b hb => ?_⟩
    · have e1 : ((i + 1 : Nat) : Int) = (i : Int) + 1 := by omega
      rw [e1]; exact he'
    · have hb' : b < s.heap.objs.size := by
        have e' : b = e ∨ b = it := by simpa using hb
        rcases e' with z | z
        · rw [z]; exact hel
        · rw [z]; exact hil
      rw [upd_ne (Nat.ne_of_lt hb')]
      exact (hf b hb).1
  done := by
    intro X hP hw hK hc i pins s σ H E I hf st hg
    subst hP hw hK
    obtain ⟨⟨old, he⟩, hit, hne⟩ := st
    obtain ⟨xs, hq, hx⟩ := hg
    obtain ⟨its, rv, p, hz⟩ := I.tuple hq
    obtain ⟨f0, f1, f2, f3, f4, f5⟩ := hf it (by simp)
    have hl := rv.length
    have p : s.heap.IsTuple a its.toArray := p
    have hT : s.TypeIs (.ref e) "enumerate" := ⟨_, he, rfl⟩
    unfold pyNext
    refine wpAny_bind (wpAny_attempt (wpAny_callSpecial?_slot (name := Str.ofString "__next__") hT F.slot_enumerate_next
      (wpAny_call_entry F.slot_enumerate_next hT F.entry_enumerate_next ?_ (F.args_enumerate_next_1 _))))
    show wpAny _ _ (field (.ref e) 2 >>= _) _ _ _
    refine wpAny_bind (wpAny_field he rfl (x := .ref it) rfl ?_)
    refine wpAny_bind (RZ.nextOf_tuple_end (I.ok.hd hc) hit p (by simp; omega) fun h' x he' hx' => ?_)
    obtain ⟨o, ho, hc'⟩ := hx'
    refine wpAny_bind (wpAny_isInstance (T := "StopIteration") (b := true) ⟨o, ho, hc'⟩ isSubtype_stop ?_)
    exact wpAny_pure ⟨rfl, I.turned (t' := s.toks) (fun b o hb q => he' b o hb q) f0 f1 f3 f4 f5⟩
  self := fun A i s Q E st h => let ⟨⟨_, he⟩, _⟩ := st; wpAny_pyIter_enum he h
def iEnumA (K : PySem.W.Frag) (ta : TA) : TI := fun σ H R => ta σ H fun vs H1 => ∃ a xs, vs = [.ref a] ∧ ((SqL K H1 a xs ∧ R (Ite K a) H1) ∨ (SqT K H1 a xs ∧ R (IteT K a) H1))
theorem pi_enumA {X : Cx} {e : Expr} {ta : TA} {p pos tpos : Pos} {elts : List Expr} {kk : Nat} (hg : Gl X "enumerate") (hm : X.mg "enumerate" = none) (ha : PA X [e] ta) (hs : starEach [e] X.env = [(false, eval e X.env)] := by rfl) :
    PI X (.Tuple elts kk tpos) (.Call (.Name "enumerate" p) [e] [] pos) (iEnumA X.K ta) := by
  refine ⟨fun pins s σ H R I h => ?_⟩
  refine Call_ (ld_blt I hg hm boot_enumerate (PyProof.Rows.callWith_type1 (thn (ha.run pos pins s σ H _ I h) fun us s1 ⟨vs, H1, I1, r1, q1⟩ => ?_) hs rfl))
  obtain ⟨a, xs, ex, hq⟩ := q1
  subst ex
  cases r1 with
  | cons r rr =>
    cases rr
    cases r
    have fp : ∀ b ∈ [s1.heap.objs.size + 1, s1.heap.objs.size], FpOk X pins H1 b := fun b hb => by
      have e' : b = s1.heap.objs.size + 1 ∨ b = s1.heap.objs.size := by simpa using hb
      have hle : s1.heap.objs.size ≤ b := by
        rcases e' with z | z
        · rw [z]; exact Nat.le_add_right _ _
        · rw [z]; exact Nat.le_refl _
      exact I1.fpOk hle (I1.hok.fresh hle)
    rcases hq with ⟨hq, q⟩ | ⟨hq, q⟩
    · obtain ⟨its, rv, p', hz⟩ := I1.list hq
      refine call_enumerate_list p'.isList fun h' he hit hsz hk => wpAny_pyIter_enum he ?_
      have I2 : Inv X pins σ H1 { s1 with heap := h' } := I1.kept (t' := s1.toks) hk
      exact ⟨s1.heap.objs.size + 1, [s1.heap.objs.size + 1, s1.heap.objs.size], _, _, H1, rfl, I2, turn_enum a (s1.heap.objs.size + 1) s1.heap.objs.size, ⟨⟨.none, he⟩, hit, Nat.succ_ne_self _⟩, fp, q⟩
    · obtain ⟨its, rv, p', hz⟩ := I1.tuple hq
      refine mp_call_enumT (show s1.heap.IsTuple a its.toArray from p') fun h' he hit hsz hk => wpAny_pyIter_enum he ?_
      have I2 : Inv X pins σ H1 { s1 with heap := h' } := I1.kept (t' := s1.toks) hk
      exact ⟨s1.heap.objs.size + 1, [s1.heap.objs.size + 1, s1.heap.objs.size], _, _, H1, rfl, I2, turn_enumT a (s1.heap.objs.size + 1) s1.heap.objs.size, ⟨⟨.none, he⟩, hit, Nat.succ_ne_self _⟩, fp, q⟩
end MP

set_option Elab.async false
set_option linter.all false
set_option maxRecDepth 100000
set_option maxHeartbeats 4000000
/-! MP4i: an exception of an own class made by a call with one keyword -/
namespace PySem
namespace HandSPX
open Builtin Builtin.ObjectAttr PySem.Calls PyProof.Rows
section
variable {M : Model} {A : Around} {E : Value → Shared → Prop} {h : Heap} {g : Array GenState} {d : Drawn} {t : Nat} {os : OsState}
variable {nm q : Str} {C N : Addr} {bs bm bmB : List Value} {hdct : Bool} {sn : List Str} {sub : List Value} {ab : Bool} {col : Option Bool} {dd : Option Addr} {k0 k1 k2 k3 k5 : Option Value} {B newId initId : String} {kx : Str} {kv : Value}
theorem check_new_kw (F : ExcBaseFacts B newId initId bmB) (hT : ∀ X : String, bm.contains (.type X) = bmB.contains (.type X)) {Q : Unit → Shared → Prop}
    (hC : h.get? C = some (excClassObj nm q C N bs bm hdct sn sub ab col dd k0 k1 k2 k3 k5 newId)) (hq : Q () ⟨h, g, d, t, os⟩) : wpAny M A (checkBuiltinCall newId ⟨[.ref C], [(kx, kv)]⟩) Q E ⟨h, g, d, t, os⟩ := by
  have hcont : (Value.ref C :: bm).contains (.type B) = true := by rw [List.contains_cons, hT, F.hasB, Bool.or_true]
  have hstar := F.noStar
  simp only [checkBuiltinCall, F.newKind, F.newSplit, F.newRow]
  repeat (first | refine wpAny_loadPart_at hC ?_ | (refine wpAny_isSubtype_exc hC ?_; rw [hcont]) | refine wpAny_staticBase_exc hC ?_ | refine wpAny_madeBy_exc hC ?_ | simp only [bne_self_eq_false, Bool.false_eq_true, if_false] | wp_step)
  exact hq
end
section
variable {prog : Program} {w : World} {A : Around} {E : Value → Shared → Prop} {R : Result → Shared → Prop} {h : Heap} {g : Array GenState} {d : Drawn} {t : Nat} {os : OsState}
variable {nm q : Str} {C N : Addr} {bs bm bmB : List Value} {hdct : Bool} {sn : List Str} {sub : List Value} {ab : Bool} {col : Option Bool} {dd : Option Addr} {k0 k1 k2 k3 k5 : Option Value} {B newId initId : String} {kx : Str} {kv : Value}
theorem new_kw (F : ExcBaseFacts B newId initId bmB) (hT : ∀ X : String, bm.contains (.type X) = bmB.contains (.type X))
    (hC : h.get? C = some (excClassObj nm q C N bs bm hdct sn sub ab col dd k0 k1 k2 k3 k5 newId))
    (hq : R (.ok (.ret (.ref (h.objs.size + 1)))) ⟨(h.push { cls := .type "tuple", data := .seq #[] }).push
      { cls := .ref C, data := .fields #[.ref h.objs.size, .none, .none, .none, .bool false, .none] }, g, d, t, os⟩) :
    codeAny (model prog w) A (.builtin newId ⟨[.ref C], [(kx, kv)]⟩) R ⟨h, g, d, t, os⟩ := by
  have hends := F.ends
  have hcB : (Value.ref C :: bm).contains (.type B) = true := by rw [List.contains_cons, hT, F.hasB, Bool.or_true]
  have hcA : (Value.ref C :: bm).contains (.type "AttributeError") = false := by rw [List.contains_cons, hT, F.noAttr]; rfl
  have hcN : (Value.ref C :: bm).contains (.type "NameError") = false := by rw [List.contains_cons, hT, F.noName]; rfl
  refine codeAny_builtinAt F.entry ?_
  unfold Builtin.«BaseException.__new__»
  refine wpAt_bind ?_
  show wpAt _ _ _ (stack >>= _) _ _ _
  refine wpAt_bind (wpAt_stack fun p below => wpAt_of_wpAny ?_)
  wp_walk
  refine wpAt_of_wpAny ?_
  rw [F.owner]
  repeat (first | with_reducible refine wpAny_madeHere_exc F.canon hC ?_ | with_reducible refine wpAny_loadPart_at hC ?_ | (with_reducible refine wpAny_isSubtype_exc hC ?_; first | rw [hcB] | rw [hcA] | rw [hcN]) | wp_step)
  show R _ _
  rw [Heap.size_push]
  exact hq
theorem type_call_kw (F : ExcBaseFacts B newId initId bmB) (hT : ∀ X : String, bm.contains (.type X) = bmB.contains (.type X)) {fI : Addr} {Q : Fin → Shared → Prop}
    (hC : h.get? C = some (excClassObj nm q C N bs bm hdct sn sub ab col dd k0 k1 k2 k3 k5 newId))
    (hi : W.Looks (model prog w) h (typeLookup (.ref C) "__init__") (some (.ref fI))) (hb : ∀ self, W.Looks (model prog w) h (bindSpecial (.ref fI) self) (.ref fI, [self]))
    (hq : codeAny (model prog w) A (.call (.ref fI) ⟨[.ref (h.objs.size + 1)], [(kx, kv)]⟩)
      (fun r s' => match r with | .ok (.ret v) => v = .none ∧ Q (.done (.ret (.ref (h.objs.size + 1)))) s' | .ok _ => False | .error e => E e s')
      ⟨(h.push (W.kdv_tup [])).push (excO C h.objs.size), g, d, t, os⟩) :
    wpAny (model prog w) A (Builtin.«type.__call__» ⟨[.ref C], [(kx, kv)]⟩) Q E ⟨h, g, d, t, os⟩ := by
  repeat (first | with_reducible refine wpAny_loadPart_at hC ?_ | with_reducible refine wpAny_madeBy_exc hC ?_ | wp_step)
  refine codeAny_call_builtin_code (Code.quiet_builtin _ F.quiet) (check_new_kw F hT hC ?_)
  refine new_kw F hT hC ?_
  show wpAny _ _ _ _ _ _
  have k : ∀ b o, h.get? b = some o → ((h.push (W.kdv_tup [])).push (excO C h.objs.size)).get? b = some o := fun b o e => Heap.get?_push_of_some _ (Heap.get?_push_of_some _ e)
  have hC₁ := k _ _ hC
  have hget : ((h.push (W.kdv_tup [])).push (excO C h.objs.size)).get? (h.objs.size + 1) = some (excO C h.objs.size) := by heap_get
  have hcC : (Value.ref C :: bm).contains (.ref C) = true := by simp
  have i1 := hi.keeps k
  have b1 := (hb (.ref (h.objs.size + 1))).keeps k
  unfold isInstance
  repeat (first | with_reducible refine wpAny_loadPart_at hget ?_ | (with_reducible refine wpAny_isSubtype_exc hC₁ ?_; rw [hcC]) | wp_step)
  show wpAny _ _ (typeLookup (.ref C) _) _ _ _
  refine i1.at ?_
  refine wpAny_holding (wpAny_bind (b1.at ?_))
  refine wpAny_bind (wpAny_call (codeAny_mono hq fun r s' z => ?_))
  rcases r with e | (v | _ | _ | _) <;> first | exact z | exact z.elim | skip
  obtain ⟨rfl, z⟩ := z
  first
    | exact wpAny_pure (wpAny_pure z)
    | (wp_walk; exact z)
theorem call_kw (F : ExcBaseFacts B newId initId bmB) (hT : ∀ X : String, bm.contains (.type X) = bmB.contains (.type X)) {fI : Addr}
    (hC : h.get? C = some (excClassObj nm q C N bs bm hdct sn sub ab col dd k0 k1 k2 k3 k5 newId))
    (hi : W.Looks (model prog w) h (typeLookup (.ref C) "__init__") (some (.ref fI))) (hb : ∀ self, W.Looks (model prog w) h (bindSpecial (.ref fI) self) (.ref fI, [self]))
    (hq : codeAny (model prog w) (A.under (.builtin "type.__call__" ⟨[.ref C], [(kx, kv)]⟩)) (.call (.ref fI) ⟨[.ref (h.objs.size + 1)], [(kx, kv)]⟩) (W.InitBack (h.objs.size + 1) R)
      ⟨(h.push (W.kdv_tup [])).push (excO C h.objs.size), g, d, t, os⟩) :
    codeAny (model prog w) A (.call (.ref C) ⟨[], [(kx, kv)]⟩) R ⟨h, g, d, t, os⟩ := by
  have f1 := tc_lookup
  have f2 := tc_bind (.ref C)
  have hTy : (⟨h, g, d, t, os⟩ : Shared).TypeIs (.ref C) "type" := ⟨_, hC, rfl⟩
  refine codeAny_of_tree ?_
  show wpAny _ _ (callAny (.ref C) _) _ _ _
  repeat (any_goals (first | assumption | with_reducible refine wpAny_loadPart_at hC ?_ | wp_step))
  refine ⟨rfl, ?_⟩
  refine codeAny_call_builtin_at (Code.quiet_builtin _ (by decide +kernel)) entry_typeCall (wpAny_check_type_call_sub hC (type_call_kw F hT hC hi hb ?_))
  refine codeAny_mono hq fun r s' z => ?_
  rcases r with e | (v | _ | _ | _) <;> exact z
end
end HandSPX
end PySem

set_option Elab.async false
set_option linter.all false
set_option maxRecDepth 100000
set_option maxHeartbeats 4000000
/-! MP4j: isinstance of an exception with its dict -/
namespace PySem.W
open PySem PySem.Spec PySem.Calls PyProof.Rows
section
variable {prog : Program} {w : World} {A : Around} {E : Value → Shared → Prop} {s : Shared} {K : Frag} {x D : Addr} {ox : Obj} {od : Option Obj}
theorem findObj_dataO {C : Addr} {name : Str} {a g : Value} (hc : (clsIn K C).isSome = true) (ha : findIn K (.ref C) name = some (some a)) (hg : specialIn K a "__get__" = some (some g)) (ht : takesIn K a = some true) : findObj K C od name = some (.bind g a) := by
  obtain ⟨cd, hc⟩ := Option.isSome_iff_exists.mp hc
  unfold findObj
  rw [hc, Option.bind_some, ha, Option.bind_some]
  simp [hg, ht]
theorem kin_classO {Q : Option Value → Shared → Prop} (hga : findIn K (.ref D) "__getattribute__" = some (some (.builtin "BaseException.__getattribute__"))) (hgt : findIn K (.ref D) "__getattr__" = some none) (hsub : subIn K (.ref D) (.type "BaseException") = some true)
    (hdct : hasDictIn K D = true) (ha : findIn K (.ref D) "__class__" = some (some (.builtin "object.__class__")))
    (hn : specialIn K (.builtin "object.__class__") "__get__" = some (some (.builtin "getset_descriptor.__get__"))) (htk : takesIn K (.builtin "object.__class__") = some true) (hm : mroIn K D (.type "object") = some true)
    (X : K.In s.heap) (I : InstAt s.heap x ox D od) (h : Q (some (.ref D)) { s with toks := s.toks + 1 }) : wpAny (model prog w) A (getAttr? (.ref x) "__class__") Q E s := by
  have hf : findObj K D od "__class__" = some (.bind (.builtin "getset_descriptor.__get__") (.builtin "object.__class__")) := findObj_dataO (by obtain ⟨cd, hc, _⟩ := any_some hdct; rw [hc]; rfl) ha hn htk
  obtain ⟨hp, g, d, t, os⟩ := s
  have L0 := I.type (M := model prog w)
  have L1 := looks_findIn (M := model prog w) X hga
  have L2 := looks_findIn (M := model prog w) X hgt
  have L3 := looks_find (M := model prog w) X I hf
  have sub : Looks (model prog w) hp (isInstance (.ref x) (.type "BaseException")) true := L0.andThen (looks_subIn X hsub)
  have hx0 : (false && onTheHeap (Value.builtin "BaseException.__getattribute__")) = false := rfl
  have hx2 : (Value.builtin "BaseException.__getattribute__" == Value.builtin "object.__getattribute__") = false := by decide +kernel
  have hx1 : (onTheHeap (Value.ref D) && Value.builtin "BaseException.__getattribute__" == Value.builtin "object.__getattribute__") = false := by rw [hx2]; rfl
  unfold getAttr? getAttrBy? getAttrBy
  refine wpAny_bind (wpAny_mkText (wpAny_bind (wpAny_attempt (wpAny_holding (wpAny_bind (L0.at (wpAny_bind (L1.at ?_))))))))
  show wpAny _ _ (if (onTheHeap (Value.ref D) && Value.builtin "BaseException.__getattribute__" == Value.builtin "object.__getattribute__") = true then _ else _) _ _ _
  rw [hx1, if_neg Bool.false_ne_true]
  unfold getAttrByItsOwn hookBefore
  refine wpAny_bind ?_
  rw [if_pos (show onTheHeap (Value.ref D) = true from rfl)]
  refine L2.at ?_
  refine wpAny_bind (wpAny_attempt (wpAny_holding ?_))
  unfold callGetattribute
  rw [hx0, if_neg Bool.false_ne_true]
  unfold boundAndCalled
  rw [PySem.F.excAttr_ValueError.ga.bind (.ref x)]
  refine wpAny_bind (wpAny_pure ?_)
  show wpAny _ _ (call (.builtin "BaseException.__getattribute__") [.ref x, .str "__class__" t]) _ _ _
  refine wpAny_call (codeAny_call_builtin PySem.F.excAttr_ValueError.ga.plain PySem.F.entry_bexc_ga ?_)
  refine @check_slot (model prog w) _ _ ⟨hp, g, d, t + 1, os⟩ "BaseException.__getattribute__" "BaseException" "__getattribute__" (.ref x) [.str "__class__" t] [] _ (by decide +kernel) (by decide +kernel) sub (PySem.F.args_bexc_ga (.ref x) (.str "__class__" t)) ?_
  unfold Builtin.«object.__getattribute__»
  refine wpAny_bind (wpAny_of_eq (a := ((Value.ref x : Value), [Value.str "__class__" t])) (by first | rfl | (simp only [slotArgs]; rfl)) ?_)
  refine wpAny_bind (wpAny_pure (wpAny_bind (L0.at (wpAny_bind (L3.at ?_)))))
  show wpAny _ _ (holding [Value.builtin "object.__class__"] (call (.builtin "getset_descriptor.__get__") [.builtin "object.__class__", .ref x, .ref D]) >>= ret) _ _ _
  refine wpAny_bind (wpAny_holding (wpAny_call (class_get (s := ⟨hp, g, d, t + 1, os⟩) (ox := ox) (od := od) X I hm ?_)))
  refine wpAny_pure ?_
  show wpAny _ _ (handedOut (.ref D)) _ _ _
  rw [handedOut_of (v := .ref D) rfl]
  first
    | exact wpAny_pure (wpAny_pure h)
    | exact wpAny_pure h
    | exact wpAny_pure (wpAny_bind (wpAny_pure (wpAny_pure h)))
theorem kitx_excO (hga : findIn K (.ref D) "__getattribute__" = some (some (.builtin "BaseException.__getattribute__"))) (hgt : findIn K (.ref D) "__getattr__" = some none) (hsub : subIn K (.ref D) (.type "BaseException") = some true) (hdct : hasDictIn K D = true) (ha : findIn K (.ref D) "__class__" = some (some (.builtin "object.__class__")))
    (hn : specialIn K (.builtin "object.__class__") "__get__" = some (some (.builtin "getset_descriptor.__get__"))) (htk : takesIn K (.builtin "object.__class__") = some true) (hm : mroIn K D (.type "object") = some true) :
    KitX K (.ref x) (.ref D) (fun h => InstAt h x ox D od) where
  ty := fun _ _ _ I => I.type
  it := fun _ _ X _ => by
    obtain ⟨cdD, hcD, _⟩ := any_some hdct
    unfold clsIn at hcD
    split at hcD
    · rename_i c' d' cd' sl' ho
      intro A' Q' E' s' k q
      unfold isType loadHead
      exact wpAny_bind (wpAny_loadPart (k _ _ (X _ _ ho)) (wpAny_pure q))
    · cases hcD
  ne := fun h tp dd its n sl X htp => by
    obtain ⟨cdD, hcD, _⟩ := any_some hdct
    refine Bool.eq_false_iff.mpr fun q => ?_
    have e : D = tp := Value.ref.inj (beq_iff_eq.mp q)
    subst e
    unfold clsIn at hcD
    split at hcD
    · rename_i c' d' cd' sl' ho
      have z := (X _ _ ho).symm.trans htp
      cases z
    · cases hcD
  ca := fun X I k => kin_classO hga hgt hsub hdct ha hn htk hm X I k
end
end PySem.W
namespace MP
open PySem PySem.Spec PyProof.Rows L2
/-- isinstance(e, c), e an exception that is tracked -/
def rIsX (K : PySem.W.Frag) : List V → Hp → VK → Prop := fun xs H Q => ∃ (a D dx : Addr) (v c : V) (cv : Value) (b : Bool), xs = [.ref a, c] ∧ ExcRd K D ∧ H a = some (xcO D dx a) ∧ H dx = some (.xd [(("value" : Str), v)]) ∧ (∀ u, RelV c u → u = cv) ∧ PySem.W.kitOne K (.ref D) cv = some b ∧ Q (.bl b) H
theorem call_isX {X : Cx} : CallR X (.builtin "isinstance") (rIsX X.K) := by
  intro pins s σ H xs us Q I r h
  obtain ⟨a, D, dd, v, c, cv, b, rfl, T, ea, ed, hcv, e, q⟩ := h
  cases r with
  | cons rx rr =>
    cases rr with
    | cons rt rr =>
      cases rr
      cases rx
      have ec := hcv _ rt
      subst ec
      have hxa : ObjOk X.prog X.w H s.heap a (xcO D dd a) := I.hok a _ ea
      obtain ⟨⟨oe, vs, ha, hz, hd⟩, _⟩ := (show (∃ (oe : Obj) (vs : Array Value), s.heap.get? a = some oe ∧ Zc (.ref D) (some dd) oe ∧ oe.data = .fields vs) ∧ _ from hxa)
      have hx : ObjOk X.prog X.w H s.heap dd (.xd [(("value" : Str), v)]) := I.hok dd _ ed
      obtain ⟨mA, hns, hr⟩ := hx
      obtain ⟨od, ho, hl⟩ := lookIn_ns hns
      have J : PySem.W.InstAt s.heap a oe D (some od) := ⟨ha, hz.1, by unfold PySem.W.notCls; rw [hd] <;> rfl, by rw [hz.2]; exact ho⟩
      exact PySem.W.kia_one (PySem.W.kitx_excO T.ga T.gg T.ex T.hd T.ca T.cg T.ct T.cm) I.kIn J e (fun z => nomatch z) fun tk => ⟨.bl b, H, I.kept (t' := tk) fun _ _ z => z, rfl, q⟩
end MP

set_option Elab.async false
set_option linter.all false
set_option maxRecDepth 100000
set_option maxHeartbeats 1000000
namespace MP
open PySem PySem.Spec PyProof.Rows L2

/-! ### from the text to the small language -/
structure Sc where
  N : List Str
  sc : Scope
  blk : Option Scope
/-- which own cells may be stored -/
def Sc.fn (S : Sc) (x : Str) : Bool := match S.blk with
  | none => true
  | some s => s.names.lookup x == some .cell
structure GE where
  fns : List (Str × List Str)
  cls : List Str
  csts : List (Str × D)
  /-- where a new list may change: (line, column) -/
  muts : List (Nat × Nat)
  /-- calls with keywords: def, how many by place, the names, whose value each parameter gets -/
  kws : List (Nat × Nat × List Str × List Nat)
  /-- except clauses' classes: which classes of the text they take -/
  kids : List (Str × List Nat) := []
  /-- classes that isinstance asks of an exception: which classes of the text count -/
  isxs : List (Str × List Str) := []

def slotOf : List Str → Str → Option Nat
  | [], _ => none
  | y :: N, x => if y = x then some 0 else (slotOf N x).map (· + 1)
theorem slotOf_get : ∀ {N : List Str} {x : Str} {i : Nat}, slotOf N x = some i → N[i]? = some x
  | y :: N, x, i, h => by
    unfold slotOf at h
    split at h
    · rename_i e
      cases h; subst e; rfl
    · obtain ⟨j, e, rfl⟩ := Option.map_eq_some_iff.mp h
      simpa using slotOf_get e
def visB (sc : Scope) (x : Str) : Bool := match sc.names.lookup x with
  | some .local => true | some .cell => true | some .free => true | _ => false
def glB (sc : Scope) (x : Str) : Bool := match sc.names.lookup x with
  | some .globalImplicit => true | _ => false
def stB (S : Sc) (x : Str) : Bool := match S.sc.names.lookup x with
  | some .local => true | some .cell => S.fn x | _ => false
def locB (sc : Scope) (x : Str) : Bool := match sc.names.lookup x with
  | some .local => true | _ => false
def nameOk (x : Str) : Bool := !(x == ("__debug__" : Str)) && !(x == ("__classdict__" : Str)) && !(x == ("__name__" : Str))
def strGood (s : Str) : Bool := PyData.strOk s && decide (s.length ≤ sizeLine)

def opOf : Operator → Option BOp
  | .Add => some .add | .Sub => some .sub | .Mult => some .mul | .FloorDiv => some .fdiv | .Mod => some .mod | .Pow => some .pow
  | _ => none
def cmpOf : CmpOp → Option COp
  | .Eq => some .eq | .NotEq => some .ne | .Lt => some .lt | .LtE => some .le | .Gt => some .gt | .GtE => some .ge
  | .In => some .isIn | .NotIn => some .notIn | _ => none
def isNone : Expr → Bool
  | .Constant .none _ _ => true
  | _ => false
def isSlice : Expr → Bool
  | .Slice .. => true
  | _ => false
def isSet : Expr → Bool
  | .Set .. => true
  | _ => false
def isStar : Expr → Bool
  | .Starred .. => true
  | _ => false
def isTupE : Expr → Bool
  | .Tuple .. => true
  | _ => false
def nameOf : Expr → Option Str
  | .Name x _ => some x
  | _ => none
def mutAt (g : GE) (p : Pos) : Bool := g.muts.contains (p.line, p.col)
def tyOfName (x : Str) : Option Ty :=
  if x = "int" then some .int else if x = "bool" then some .bool else if x = "str" then some .str else if x = "list" then some .list else if x = "tuple" then some .tuple else none
/-- built-ins that are called by name -/
def biOf (x : Str) (n : Nat) : Option BI :=
  if n = 1 then
    (if x = "len" then some .len else if x = "all" then some .all else if x = "any" then some .any else if x = "sum" then some .sum else if x = "int" then some .int
      else if x = "str" then some .str else if x = "abs" then some .abs else if x = "tuple" then some .tuple else if x = "repr" then some .repr else none)
  else if n = 2 then (if x = "min" then some .min2 else if x = "max" then some .max2 else none)
  else none
def isDef (g : GE) (x : Str) : Option Nat := slotOf (g.fns.map (·.1)) x

/-- several -/
def cList (r : Expr → Option CE) : List Expr → Option CEs
  | [] => some .nil
  | e :: es => if isStar e then none else match r e, cList r es with
    | some c, some cs => some (.cons c cs)
    | _, _ => none
def cKws (r : Expr → Option CE) : List Keyword → Option CEs
  | [] => some .nil
  | k :: ks => match r k.value, cKws r ks with
    | some c, some cs => some (.cons c cs)
    | _, _ => none
def CEs.app : CEs → CEs → CEs
  | .nil, r => r
  | .cons e es, r => .cons e (es.app r)
def bcomb : BoolOp → CE → CE → CE
  | .And, c, d => .and c d
  | .Or, c, d => .or c d
def cBool (r : Expr → Option CE) (op : BoolOp) : List Expr → Option CE
  | [] => none
  | [e] => r e
  | e :: es => match r e, cBool r op es with
    | some c, some d => some (bcomb op c d)
    | _, _ => none
def cName (g : GE) (S : Sc) (x : Str) : Option CE :=
  if nameOk x then match slotOf S.N x with
    | some i => if visB S.sc x then some (.var i) else none
    | none => if glB S.sc x then (g.csts.lookup x).map .cst else none
  else none
def cConst : Const → Option CE
  | .none => some (.cst .non)
  | .bool b => some (.cst (.bl b))
  | .int i => some (.cst (.int i))
  | .str s => if strGood s then some (.cst (.str s)) else none
  | _ => none
def cBin (g : GE) (r : Expr → Option CE) (a : Expr) (op : Operator) (b : Expr) (pos : Pos) : Option CE :=
  match opOf op, r a, r b with
  | some o, some c, some d => if mutAt g pos then (match o with | .add => some (.mk true (.cat c d)) | .mul => some (.mk true (.rep c d)) | _ => none) else some (.bin o c d)
  | _, _, _ => none
def cUn (r : Expr → Option CE) (op : UnaryOp) (a : Expr) : Option CE :=
  match op, r a with
  | .Not, some c => some (.not c)
  | .USub, some c => some (.neg c)
  | _, _ => none
def cCmp (r : Expr → Option CE) (a : Expr) (op : CmpOp) (b : Expr) : Option CE :=
  match op with
  | .Is => if isNone b then (r a).map fun c => .cmp .isN c (.cst .non) else none
  | .IsNot => if isNone b then (r a).map fun c => .cmp .notN c (.cst .non) else none
  | op => if isSet b then none else match cmpOf op, r a, r b with
    | some o, some c, some d => some (.cmp o c d)
    | _, _, _ => none
def cCmp2 (r : Expr → Option CE) (a : Expr) (op op2 : CmpOp) (b c : Expr) : Option CE :=
  if isSet b || isSet c then none else match cmpOf op, cmpOf op2, r a, r b, r c with
    | some o, some o2, some x, some y, some z => some (.cmp2 o o2 x y z)
    | _, _, _, _, _ => none
def cIf (r : Expr → Option CE) (c a b : Expr) : Option CE :=
  match r c, r a, r b with
  | some c, some a, some b => some (.ite c a b)
  | _, _, _ => none
def cSub (r : Expr → Option CE) (a i : Expr) : Option CE :=
  match r a with
  | none => none
  | some a => match i with
    | .Slice (some lo) none none _ => (r lo).map fun lo => .slLo a lo
    | .Slice none (some hi) none _ => (r hi).map fun hi => .slHi a hi
    | .Slice (some lo) (some hi) none _ => match r lo, r hi with | some lo, some hi => some (.slLH a lo hi) | _, _ => none
    | .Slice none none (some (.UnaryOp .USub (.Constant (.int 1) _ _) _)) _ => some (.rev a)
    | .Slice _ _ _ _ => none
    | i => (r i).map fun i => .ix a i
/-- isinstance's classes -/
def cTys : List Expr → Option (List Ty)
  | [] => some []
  | .Name x _ :: es => match tyOfName x, cTys es with
    | some t, some ts => some (t :: ts)
    | _, _ => none
  | _ :: _ => none
def namesGl (S : Sc) : List Expr → Bool
  | [] => true
  | .Name x _ :: es => glB S.sc x && (slotOf S.N x).isNone && namesGl S es
  | _ :: _ => false
def cIsi (g : GE) (S : Sc) (r : Expr → Option CE) (a t : Expr) : Option CE :=
  if isStar a then none else match r a with
  | none => none
  | some c => match t with
    | .Name x _ => if glB S.sc x then (match tyOfName x with
      | some t => some (.isi c [t])
      | none => (g.isxs.lookup x).map fun hits => .isx c hits g.cls) else none
    | .Tuple es _ _ => if namesGl S es && decide (es.length ≤ 8) then (cTys es).map fun ts => .isi c ts else none
    | _ => none
def kwNames : List Keyword → Option (List Str)
  | [] => some []
  | ⟨some x, _, _⟩ :: ks => (kwNames ks).map (x :: ·)
  | ⟨none, _, _⟩ :: _ => none
def cCall (g : GE) (S : Sc) (r : Expr → Option CE) (x : Str) (args : List Expr) (kws : List Keyword) (pos : Pos) : Option CE :=
  if !nameOk x || !glB S.sc x then none
  else match isDef g x with
  | some f => match g.fns[f]? with
    | none => none
    | some (_, ps) => match cList r args, cKws r kws, kwNames kws with
      | some es, some ks, some ns =>
        if kws.isEmpty then (if args.length = ps.length then some (.call f es (List.range ps.length)) else none)
        else match g.kws.find? fun k => k.1 == f && k.2.1 == args.length && k.2.2.1 == ns with
          | some k => some (.call f (es.app ks) k.2.2.2)
          | none => none
      | _, _, _ => none
  | none => if !kws.isEmpty then none
    else if x = "isinstance" then (match args with | [a, t] => cIsi g S r a t | _ => none)
    else if x = "list" then (match args with | [a] => if isStar a then none else (r a).map fun c => .mk (mutAt g pos) (.list c) | _ => none)
    else match biOf x args.length, cList r args with
      | some b, some es => some (.bi b es)
      | _, _ => none
def isCallE : Expr → Bool
  | .Call .. => true
  | _ => false
def cMeth (r : Expr → Option CE) (o : Expr) (m : Str) (ap : Pos) (args : List Expr) (kws : List Keyword) (pos : Pos) : Option CE :=
  if !(ap.endLine == pos.line) || !kws.isEmpty || isCallE o then none
  else if m = "pop" then (match args with | [] => (r o).map .pop | _ => none)
  else if m = "join" then (match args with | [a] => if isStar a then none else (match r o, r a with | some c, some d => some (.join c d) | _, _ => none) | _ => none)
  else none
/-- what is walked -/
def cIter (S : Sc) (r : Expr → Option CE) (single : Bool) (e : Expr) : Option SE :=
  if isSet e then none else match e with
  | .Call (.Name x _) args [] _ =>
    if x = "range" ∧ glB S.sc x = true then (match args with
      | [a] => if isStar a then none else (r a).map .rng1
      | [a, b] => if isStar a || isStar b then none else (match r a, r b with | some a, some b => some (.rng2 a b) | _, _ => none)
      | _ => none)
    else if x = "enumerate" ∧ glB S.sc x = true then (match args with
      | [a] => if isStar a || single then none else (r a).map .enum
      | _ => none)
    else if x = "zip" ∧ glB S.sc x = true then (match args with
      | [a, b] => if isStar a || isStar b || single then none else (match r a, r b with | some a, some b => some (.zip a b) | _, _ => none)
      | _ => none)
    else (r e).map .seq
  | e => (r e).map .seq
def cTgs (S : Sc) : List Expr → Option (List Nat)
  | [] => some []
  | .Name x _ :: es => match slotOf S.N x, cTgs S es with
    | some i, some is => if stB S x then some (i :: is) else none
    | _, _ => none
  | _ :: _ => none
/-- a target: one name, or a tuple of names -/
def cTg (S : Sc) : Expr → Option (List Nat × Bool)
  | .Name x _ => match slotOf S.N x with
    | some i => if stB S x then some ([i], true) else none
    | none => none
  | .Tuple es _ _ => (cTgs S es).map fun is => (is, false)
  | _ => none
def ownOf (N : List Str) (scope : Scope) : List (Str × Nat) :=
  scope.names.filterMap fun y => match y.2 with
    | .local => (slotOf N y.1).map fun i => (y.1, i)
    | .cell => (slotOf N y.1).map fun i => (y.1, i)
    | _ => none
def cComp (g : GE) (S : Sc) (r : Sc → Expr → Option CE) (elt : Expr) (gs : List Comprehension) (scope : Scope) : Option LE :=
  match gs with
  | [⟨tg, iter, ifs, 0⟩] =>
    if blkC S.N S.sc scope (ownOf S.N scope) then
      match cTg ⟨S.N, relS scope S.sc, some scope⟩ tg with
      | some (t, single) => match cIter S (r S) single iter, (match ifs with | [] => some CEs.nil | [c] => (r ⟨S.N, relS scope S.sc, some scope⟩ c).map fun c => CEs.cons c .nil | _ => none), r ⟨S.N, relS scope S.sc, some scope⟩ elt with
        | some s, some c, some e => if t.all ((ownOf S.N scope).map (·.2)).contains then some (.comp s t single c e ((ownOf S.N scope).map (·.2))) else none
        | _, _, _ => none
      | none => none
    else none
  | _ => none
def stepE (g : GE) (r : Sc → Expr → Option CE) (S : Sc) : Expr → Option CE
  | .Name x _ => cName g S x
  | .Constant c _ _ => cConst c
  | .BinOp a op b pos => cBin g (r S) a op b pos
  | .UnaryOp op a _ => cUn (r S) op a
  | .BoolOp op vs _ => cBool (r S) op vs
  | .Compare a [op] [b] _ => cCmp (r S) a op b
  | .Compare a [op, op2] [b, c] _ => cCmp2 (r S) a op op2 b c
  | .IfExp c a b _ => cIf (r S) c a b
  | .Tuple es _ _ => (cList (r S) es).map .tup
  | .List es pos => (cList (r S) es).map fun cs => .mk (mutAt g pos) (.disp cs)
  | .Subscript a i _ => cSub (r S) a i
  | .ListComp elt gs scope pos => (cComp g S r elt gs scope).map fun l => .mk (mutAt g pos) l
  | .Attribute (.Name x p) f _ => if f = "value" then (r S (.Name x p)).map .val else none
  | .Call (.Name x _) args kws pos => cCall g S (r S) x args kws pos
  | .Call (.Attribute o m ap) args kws pos => cMeth (r S) o m ap args kws pos
  | _ => none
def cE (g : GE) : Nat → Sc → Expr → Option CE
  | 0 => fun _ _ => none
  | n + 1 => stepE g (cE g n)
end MP

set_option Elab.async false
set_option linter.all false
set_option maxRecDepth 100000
set_option maxHeartbeats 1000000
namespace MP
open PySem PySem.Spec PyProof.Rows L2

/-- the readings that the evaluator gives -/
def tOf (K : PySem.W.Frag) (B : List Nat) (ca : Nat → Addr) (W : WX) (cl : Nat → List D → Ev D) (c : CE) : TE := fun σ H Q =>
  ∃ Z φ ρ M, Rel K Z φ B ρ M σ H ∧ Out K Z B ca W ρ σ φ H (ev cl c ρ M) fun d _ φ' H' => ∀ v, RelD K Z φ' H' d v → Q v H'
def tOfs (K : PySem.W.Frag) (B : List Nat) (ca : Nat → Addr) (W : WX) (cl : Nat → List D → Ev D) (es : CEs) : TA := fun σ H Q =>
  ∃ Z φ ρ M, Rel K Z φ B ρ M σ H ∧ Out K Z B ca W ρ σ φ H (evs cl es ρ M) fun ds _ φ' H' => ∀ vs, RelDs K Z φ' H' ds vs → Q vs H'
/-- a new list at D -/
def OutL (K : PySem.W.Frag) (Z : List Addr) (B : List Nat) (ca : Nat → Addr) (W : WX) (ρ : Env) (σ : L2.St) (φ : List Addr) (H : Hp) (r : Option (Rs (List D))) (Q : V → Hp → Prop) : Prop :=
  match r with
  | none => False
  | some (.ok xs M') => ∀ φ' H' D vs, Rel K (D :: Z) φ' B ρ M' σ H' → D ∉ Z → H D = none → Ext Z φ H φ' H' → H' D = some (.lst vs) → RelDs K (D :: Z) φ' H' xs vs → Q (.ref D) H'
  | some (.ex c d M') => ∀ φ' H' v dx, Rel K Z φ' B ρ M' σ H' → Ext Z φ H φ' H' → Nf Z φ' dx → H' dx = some (.xd [("value", v)]) → RelD K Z φ' H' d v → W (.ref (ca c)) (some dx) σ H'
def tOfL (K : PySem.W.Frag) (B : List Nat) (ca : Nat → Addr) (W : WX) (cl : Nat → List D → Ev D) (l : LE) : TE := fun σ H Q =>
  ∃ Z φ ρ M, Rel K Z φ B ρ M σ H ∧ OutL K Z B ca W ρ σ φ H (evL cl l ρ M) Q

theorem _root_.L2.PE.imp {X : Cx} {e : Expr} {t t' : TE} (h : PE X e t) (i : ∀ σ H Q, t' σ H Q → t σ H Q) : PE X e t' := ⟨fun pins s σ H Q I q => h.run pins s σ H Q I (i σ H Q q)⟩
theorem _root_.L2.PT.imp {X : Cx} {e : Expr} {t t' : TT} (h : PT X e t) (i : ∀ σ H Q, t' σ H Q → t σ H Q) : PT X e t' := ⟨fun pins s σ H Q I q => h.run pins s σ H Q I (i σ H Q q)⟩
theorem _root_.L2.PW.imp {X : Cx} {e : Expr} {t t' : TT} (h : PW X e t) (i : ∀ σ H Q, t' σ H Q → t σ H Q) : PW X e t' := ⟨fun w pins s σ H Q I q => h.run w pins s σ H Q I (i σ H Q q)⟩
theorem _root_.L2.PA.imp {X : Cx} {es : List Expr} {t t' : TA} (h : PA X es t) (i : ∀ σ H Q, t' σ H Q → t σ H Q) : PA X es t' := ⟨fun pos pins s σ H Q I q => h.run pos pins s σ H Q I (i σ H Q q)⟩

section
variable {K : PySem.W.Frag} {Z : List Addr} {B : List Nat} {ca : Nat → Addr} {W : WX} {cl : Nat → List D → Ev D} {ρ : Env} {σ : L2.St} {φ : List Addr} {H : Hp} {M : MH}
theorem tOf.mono {c : CE} {Q Q' : VK} (h : tOf K B ca W cl c σ H Q) (i : ∀ v H', Q v H' → Q' v H') : tOf K B ca W cl c σ H Q' := by
  obtain ⟨Z, φ, ρ, M, R, O⟩ := h
  exact ⟨Z, φ, ρ, M, R, O.imp fun d M' φ' H' _ _ q v r => i _ _ (q v r)⟩
theorem tOfs.mono {es : CEs} {Q Q' : List V → Hp → Prop} (h : tOfs K B ca W cl es σ H Q) (i : ∀ v H', Q v H' → Q' v H') : tOfs K B ca W cl es σ H Q' := by
  obtain ⟨Z, φ, ρ, M, R, O⟩ := h
  exact ⟨Z, φ, ρ, M, R, O.imp fun d M' φ' H' _ _ q v r => i _ _ (q v r)⟩
/-- behind the first part: the small state, the value, the rest -/
theorem tOf.step {α : Type} {c : CE} {f : D → Ev α} {Q : α → MH → List Addr → Hp → Prop} (R : Rel K Z φ B ρ M σ H) (O : Out K Z B ca W ρ σ φ H (Ev.bind (ev cl c ρ) f M) Q) :
    tOf K B ca W cl c σ H fun v H1 => ∃ φ1 M1 d, Rel K Z φ1 B ρ M1 σ H1 ∧ Ext Z φ H φ1 H1 ∧ RelD K Z φ1 H1 d v ∧ Out K Z B ca W ρ σ φ1 H1 (f d M1) Q :=
  ⟨Z, φ, ρ, M, R, O.bind.imp fun d M1 φ1 H1 R1 e1 o v r => ⟨φ1, M1, d, R1, e1, r, o⟩⟩
theorem tOfs.step {α : Type} {es : CEs} {f : List D → Ev α} {Q : α → MH → List Addr → Hp → Prop} (R : Rel K Z φ B ρ M σ H) (O : Out K Z B ca W ρ σ φ H (Ev.bind (evs cl es ρ) f M) Q) :
    tOfs K B ca W cl es σ H fun vs H1 => ∃ φ1 M1 ds, Rel K Z φ1 B ρ M1 σ H1 ∧ Ext Z φ H φ1 H1 ∧ RelDs K Z φ1 H1 ds vs ∧ Out K Z B ca W ρ σ φ1 H1 (f ds M1) Q :=
  ⟨Z, φ, ρ, M, R, O.bind.imp fun d M1 φ1 H1 R1 e1 o v r => ⟨φ1, M1, d, R1, e1, r, o⟩⟩
theorem Ext.none {φ' : List Addr} {H' : Hp} {M' : MH} {a : Addr} (e : Ext Z φ H φ' H') (R : Rel K Z φ' B ρ M' σ H') (h : H' a = Option.none) : H a = Option.none := by
  cases q : H a with
  | none => rfl
  | some o =>
    by_cases h1 : a ∈ φ
    · obtain ⟨m, rfl⟩ := e.pre
      obtain ⟨vs, h2⟩ := R.there (List.mem_append_left m h1)
      rw [h] at h2; cases h2
    · by_cases h2 : a ∈ Z
      · rw [e.zs a h2, q] at h; cases h
      · rw [(e.keep a o q ⟨h1, h2⟩).1] at h; cases h
theorem OutL.bind {α : Type} {x : Ev α} {f : α → Ev (List D)} {Q : V → Hp → Prop} (h : OutL K Z B ca W ρ σ φ H (Ev.bind x f M) Q) :
    Out K Z B ca W ρ σ φ H (x M) fun a M1 φ1 H1 => OutL K Z B ca W ρ σ φ1 H1 (f a M1) Q := by
  unfold Ev.bind at h
  cases hx : x M with
  | none => rw [hx] at h; exact h
  | some r =>
    rw [hx] at h
    cases r with
    | ok a M1 =>
      intro φ1 H1 R1 e1
      have h : OutL K Z B ca W ρ σ φ H (f a M1) Q := h
      cases hf : f a M1 with
      | none => rw [hf] at h; exact h
      | some r =>
        rw [hf] at h
        cases r with
        | ok c M2 => exact fun φ2 H2 D vs R2 hz hd e2 hD rv => h φ2 H2 D vs R2 hz (e1.none R1 hd) (e1.trans e2) hD rv
        | ex c d M2 => exact fun φ2 H2 v dx R2 e2 n hd rv => h φ2 H2 v dx R2 (e1.trans e2) n hd rv
    | ex c d M1 => exact h
theorem OutL.step {c : CE} {f : D → Ev (List D)} {Q : V → Hp → Prop} (R : Rel K Z φ B ρ M σ H) (O : OutL K Z B ca W ρ σ φ H (Ev.bind (ev cl c ρ) f M) Q) :
    tOf K B ca W cl c σ H fun v H1 => ∃ φ1 M1 d, Rel K Z φ1 B ρ M1 σ H1 ∧ Ext Z φ H φ1 H1 ∧ RelD K Z φ1 H1 d v ∧ OutL K Z B ca W ρ σ φ1 H1 (f d M1) Q :=
  ⟨Z, φ, ρ, M, R, O.bind.imp fun d M1 φ1 H1 R1 e1 o v r => ⟨φ1, M1, d, R1, e1, r, o⟩⟩
theorem OutL.steps {es : CEs} {f : List D → Ev (List D)} {Q : V → Hp → Prop} (R : Rel K Z φ B ρ M σ H) (O : OutL K Z B ca W ρ σ φ H (Ev.bind (evs cl es ρ) f M) Q) :
    tOfs K B ca W cl es σ H fun vs H1 => ∃ φ1 M1 ds, Rel K Z φ1 B ρ M1 σ H1 ∧ Ext Z φ H φ1 H1 ∧ RelDs K Z φ1 H1 ds vs ∧ OutL K Z B ca W ρ σ φ1 H1 (f ds M1) Q :=
  ⟨Z, φ, ρ, M, R, O.bind.imp fun d M1 φ1 H1 R1 e1 o v r => ⟨φ1, M1, d, R1, e1, r, o⟩⟩
/-- a list laid at once -/
theorem OutL.laid {xs : List D} {vs : List V} {Q : V → Hp → Prop} (R : Rel K Z φ B ρ M σ H) (O : OutL K Z B ca W ρ σ φ H (some (.ok xs M)) Q) (h : RelDs K Z φ H xs vs) {p : Addr} (hp : H p = Option.none) : Q (.ref p) (upd H p (.lst vs)) := by
  have np := R.fresh hp
  refine O φ _ p vs (R.hold hp) np.2 hp (R.new hp).2 upd_same (RelDs.hold (fun a u h1 h2 => ?_) _ _ h)
  have ne := ne_of_none h1 hp
  exact ⟨by rw [upd_ne ne]; exact h1, h2.1, fun z => (List.mem_cons.mp z).elim ne h2.2⟩
/-- a new list as a value -/
theorem tOf_mk {m : Bool} {l : LE} {Q : VK} (h : tOf K B ca W cl (.mk m l) σ H Q) : tOfL K B ca W cl l σ H Q := by
  obtain ⟨Z, φ, ρ, M, R, O⟩ := h
  refine ⟨Z, φ, ρ, M, R, ?_⟩
  simp only [ev] at O
  unfold Ev.bind at O
  cases hx : evL cl l ρ M with
  | none => rw [hx] at O; exact O
  | some r =>
    rw [hx] at O
    cases r with
    | ex c d M1 => exact O
    | ok xs M1 =>
      intro φ' H' D vs R' hz hd e hD rv
      cases m with
      | false => exact O φ' H' R'.unhold e _ ⟨D, vs, rfl, hD, ⟨(R'.zz D List.mem_cons_self).2, hz⟩, RelDs.less (fun _ => nf_less) _ _ rv⟩
      | true =>
        refine O (φ' ++ [D]) H' (R'.place hz hD rv) ⟨?_, fun a o h n => ?_, e.zs, e.old⟩ _ ⟨D, ?_, rfl⟩
        · obtain ⟨m, rfl⟩ := e.pre
          exact ⟨m ++ [D], by rw [List.append_assoc]⟩
        · obtain ⟨h1, h2⟩ := e.keep a o h n
          refine ⟨h1, fun z => ?_, h2.2⟩
          rcases List.mem_append.mp z with z | z
          · exact h2.1 z
          · rw [List.mem_singleton.mp z, hd] at h; cases h
        · show (φ' ++ [D])[M1.length]? = some D
          rw [← R'.len, List.getElem?_append_right (Nat.le_refl _)]
          simp
end

/-! ### the context -/
/-- a def's call, as the evaluator tells it -/
def spF (K : PySem.W.Frag) (ca : Nat → Addr) (cl : Nat → List D → Ev D) (f : Nat) (n : Nat) : Sp := fun vs H Q E =>
  ∃ Z φ B ρ M σ ds, Rel K Z φ B ρ M σ H ∧ RelDs K Z φ H ds vs ∧ ds.length = n ∧ Out K Z B ca (fun cls d _ H' => E cls d H') ρ σ φ H (cl f ds M) fun d _ φ' H' => ∀ v, RelD K Z φ' H' d v → Q v H'
/-- a def's promise, as the layer's, where nothing is being shown above -/
structure FnG (P : Program) (w : World) (K : PySem.W.Frag) (mg : Str → Option Value) (base : Heap) (C : CXT) (k : Nat) (f : Addr) (fd : FuncData) (ps : List Str) (sp : Sp) : Prop where
  len : ∀ vs H Q E, sp vs H Q E → vs.length = ps.length
  run : ∀ (A : Around) (outer : List PySem.Env) (s : Shared) (H : Hp) (args : Args) (us : List Value) (vs : List V) (Q : VK) (E : XK), Room k A → A.guards = some [] → Env0 P w K mg base A outer s H → BindsTo s fd args (ps.zip us) → Vals vs us → sp vs H Q E →
    codeAny (model P w) A (.call (.ref f) args) (CR C outer P w H s Q E) s
/-- a def of the text: where it stands, what it keeps, how it is called -/
structure CallOk (P : Program) (w : World) (K : PySem.W.Frag) (mg : Str → Option Value) (base : Heap) (ca : Nat → Addr) (cl : Nat → List D → Ev D) (k : Nat) (g : GE) (f : Nat) (name : Str) (ps : List Str) : Prop where
  ex : ∃ (a : Addr) (fd : FuncData), mg name = some (.ref a) ∧ PySem.W.keepIn K (.ref a) = true ∧ FnG P w K mg base (L2.CX P w) k a fd ps (spF K ca cl f ps.length) ∧ Binds K fd ps [] ∧
    ∀ np ns perm, (f, np, ns, perm) ∈ g.kws → perm.length = ps.length ∧ ∀ (s : Shared) (us ws zs : List Value), us.length = np → ws.length = ns.length → perm.mapM (fun i => (us ++ ws)[i]?) = some zs → BindsTo s fd ⟨us, ns.zip ws⟩ (ps.zip zs)
/-- names that stand for built-ins -/
def bnames : List Str := ["len", "all", "any", "sum", "int", "str", "abs", "tuple", "min", "max", "isinstance", "list", "range", "enumerate", "zip", "bool", "repr"]
/-- C(e), an exception of the text -/
def tMkE (C : Addr) (ta : TA) : L2.St → Hp → XK → Prop := fun σ H Q => ta σ H fun vs H1 => ∃ v, vs = [v] ∧ ∀ d, H1 d = none → Q (.ref C) (some d) (upd H1 d (.xd [(("value" : Str), v)]))
structure GO (P : Program) (w : World) (K : PySem.W.Frag) (mg : Str → Option Value) (base : Heap) (ca : Nat → Addr) (cl : Nat → List D → Ev D) (k : Nat) (g : GE) : Prop where
  bn : ∀ x ∈ bnames, mg x = none
  cst : ∀ x d, g.csts.lookup x = some d → ∃ u, mg x = some u ∧ ((∃ i t, d = .int i ∧ u = .int i t) ∨ ∃ z t, d = .str z ∧ u = .str z t ∧ strGood z = true)
  call : ∀ f name ps, g.fns[f]? = some (name, ps) → CallOk P w K mg base ca cl k g f name ps
  kid : ∀ x hits, g.kids.lookup x = some hits → ∃ C, mg x = some (.ref C) ∧ ∀ c, c < g.cls.length → PySem.W.exmOne K (.ref (ca c)) (.ref C) = some (hits.contains c)
  xcl : ∀ c name, g.cls[c]? = some name → ca c = He.ga K name ∧ ExcRd K (He.ga K name)
  isx : ∀ x hits, g.isxs.lookup x = some hits → (x == ("__debug__" : Str)) = false ∧ ∃ u, ((∃ C, mg x = some (.ref C) ∧ u = .ref C) ∨ (∃ T, mg x = none ∧ bootBuiltins x = some (.type T) ∧ x ≠ "__name__" ∧ u = .type T)) ∧ ∀ y, g.cls.contains y = true → PySem.W.kitOne K (.ref (He.ga K y)) u = some (hits.contains y)
  exk : ∀ c name, g.cls[c]? = some name → ∀ (X : Cx) (a : Expr) (ta : TA) (p pos kp : Pos), X.prog = P → X.w = w → X.K = K → X.mg = mg → X.base = base → X.calm = true → Room k X.A → Gl X name → PK X [⟨some "value", a, kp⟩] ta → PMk X (.Call (.Name name p) [] [⟨some "value", a, kp⟩] pos) (tMkE (ca c) ta)
  exc : ∀ c name, g.cls[c]? = some name → ∀ (X : Cx) (a : Expr) (ta : TA) (p pos : Pos), X.prog = P → X.w = w → X.K = K → X.mg = mg → X.base = base → X.calm = true → Room k X.A → Gl X name → PA X [a] ta → isStar a = false → PMk X (.Call (.Name name p) [a] [] pos) (tMkE (ca c) ta)
structure XO (X : Cx) (W : WX) (ca : Nat → Addr) (cl : Nat → List D → Ev D) (k : Nat) (g : GE) (S : Sc) : Prop where
  N : X.N = S.N
  sc : X.env.scope = S.sc
  fn : ∀ x, S.fn x = true → X.fn x = true
  nd : X.N.Nodup
  calm : X.calm = true
  room : Room k X.A
  gd : X.A.guards = some []
  takes : Takes X W
  go : GO X.prog X.w X.K X.mg X.base ca cl k g
/-- an expression is what the evaluator says -/
structure EOk (X : Cx) (W : WX) (ca : Nat → Addr) (cl : Nat → List D → Ev D) (B : List Nat) (e : Expr) (c : CE) : Prop where
  pe : PE X e (tOf X.K B ca W cl c)
  pt : PT X e (tB (tOf X.K B ca W cl c))

section
variable {X : Cx} {W : WX} {ca : Nat → Addr} {cl : Nat → List D → Ev D} {k : Nat} {g : GE} {S : Sc} {B : List Nat}
theorem XO.gl (o : XO X W ca cl k g S) {x : Str} (h : glB S.sc x = true) : Gl X x := by
  show X.env.scope.names.lookup x = some .globalImplicit
  rw [o.sc]
  unfold glB at h
  split at h
  · assumption
  · cases h
theorem XO.vis (o : XO X W ca cl k g S) {x : Str} (h : visB S.sc x = true) : Vis X.env.scope x := by
  rw [o.sc]
  unfold visB at h
  split at h
  · exact .inl (by assumption)
  · exact .inr (.inl (by assumption))
  · exact .inr (.inr (by assumption))
  · cases h
theorem XO.loc (o : XO X W ca cl k g S) {x : Str} (h : stB S x = true) : Loc X.env.scope x ∧ (X.fn x = true ∨ X.env.scope.names.lookup x = some .local) := by
  rw [o.sc]
  unfold stB at h
  split at h
  · exact ⟨.inl (by assumption), .inr (by assumption)⟩
  · exact ⟨.inr (by assumption), .inl (o.fn x h)⟩
  · cases h
theorem XO.slot (o : XO X W ca cl k g S) {x : Str} {i : Nat} (h : slotOf S.N x = some i) : X.N[i]? = some x := by rw [o.N]; exact slotOf_get h
theorem nameOk_d {x : Str} (h : nameOk x = true) : (x == ("__debug__" : Str)) = false ∧ (x == ("__classdict__" : Str)) = false ∧ x ≠ "__name__" := by
  unfold nameOk at h
  simp only [Bool.and_eq_true, Bool.not_eq_true'] at h
  exact ⟨h.1.1, h.1.2, fun z => by rw [z] at h; simp at h⟩

theorem ok_name (o : XO X W ca cl k g S) {x : Str} {pos : Pos} {c : CE} (h : cName g S x = some c) : PE X (.Name x pos) (tOf X.K B ca W cl c) := by
  unfold cName at h
  split at h
  · rename_i hn
    obtain ⟨n1, n2, n3⟩ := nameOk_d hn
    split at h
    · rename_i i hi
      split at h
      · rename_i hv
        cases h
        refine (pe_var (o.slot hi) (o.vis hv) n1 n2).imp fun σ H Q ⟨Z, φ, ρ, M, R, O⟩ => ?_
        simp only [ev] at O
        obtain ⟨d, e, O⟩ := O.lift
        have hd : ρ[i]? = some (some d) := by
          unfold getS at e
          split at e
          · cases e; assumption
          · cases e
        obtain ⟨v, h1, h2⟩ := R.env i d hd
        exact ⟨v, h1, O.ok R v h2⟩
      · cases h
    · split at h
      · rename_i hg
        obtain ⟨d, e, rfl⟩ := Option.map_eq_some_iff.mp h
        obtain ⟨u, hm, hu⟩ := o.go.cst x d e
        rcases hu with ⟨i, t, rfl, rfl⟩ | ⟨z, t, rfl, rfl, hz⟩
        · refine (pe_glob (v := .int i) (o.gl hg) hm ⟨t, rfl⟩ n1).imp fun σ H Q ⟨Z, φ, ρ, M, R, O⟩ => ?_
          simp only [ev] at O
          exact Out.ok O R _ rfl
        · refine (pe_glob (v := .str z) (o.gl hg) hm ⟨t, rfl⟩ n1).imp fun σ H Q ⟨Z, φ, ρ, M, R, O⟩ => ?_
          simp only [ev] at O
          unfold strGood at hz
          simp only [Bool.and_eq_true, decide_eq_true_eq] at hz
          exact Out.ok O R _ ⟨rfl, hz.1, hz.2⟩
      · cases h
  · cases h
theorem ok_const {c : Const} {kk : Nat} {pos : Pos} {d : CE} (h : cConst c = some d) : PE X (.Constant c kk pos) (tOf X.K B ca W cl d) := by
  unfold cConst at h
  split at h
  · cases h
    exact pe_non.imp fun σ H Q ⟨Z, φ, ρ, M, R, O⟩ => by simp only [ev] at O; exact Out.ok O R _ rfl
  · cases h
    exact pe_bl.imp fun σ H Q ⟨Z, φ, ρ, M, R, O⟩ => by simp only [ev] at O; exact Out.ok O R _ rfl
  · cases h
    exact pe_int.imp fun σ H Q ⟨Z, φ, ρ, M, R, O⟩ => by simp only [ev] at O; exact Out.ok O R _ rfl
  · split at h
    · rename_i hz
      cases h
      unfold strGood at hz
      simp only [Bool.and_eq_true, decide_eq_true_eq] at hz
      exact pe_str.imp fun σ H Q ⟨Z, φ, ρ, M, R, O⟩ => by simp only [ev] at O; exact Out.ok O R _ ⟨rfl, hz.1, hz.2⟩
    · cases h
  · cases h
theorem opOf_opE {op : Operator} {o : BOp} (h : opOf op = some o) : opE o = op := by
  unfold opOf at h
  split at h <;> first | (cases h; rfl) | cases h
theorem ok_bin {a b : Expr} {op : Operator} {o : BOp} {ca' cb' : CE} {pos : Pos} (ho : opOf op = some o) (ha : PE X a (tOf X.K B ca W cl ca')) (hb : PE X b (tOf X.K B ca W cl cb')) : PE X (.BinOp a op b pos) (tOf X.K B ca W cl (.bin o ca' cb')) := by
  have h := op_bin_ok (X := X) (B := B) (ca := ca) (W := W) o
  rw [opOf_opE ho] at h
  refine (pe_op h ha hb).imp fun σ H Q ⟨Z, φ, ρ, M, R, O⟩ => ?_
  simp only [ev] at O
  refine (tOf.step R O).mono fun x H1 ⟨φ1, M1, d1, R1, e1, r1, O1⟩ => ?_
  refine (tOf.step R1 O1).mono fun y H2 ⟨φ2, M2, d2, R2, e2, r2, O2⟩ => ?_
  exact ⟨Z, φ2, ρ, M2, σ, d1, d2, R2, RelD.ext e2 _ _ r1, r2, O2⟩
end
end MP

set_option Elab.async false
set_option linter.all false
set_option maxRecDepth 100000
set_option maxHeartbeats 1000000
namespace MP
open PySem PySem.Spec PyProof.Rows L2
section
variable {X : Cx} {W : WX} {ca : Nat → Addr} {cl : Nat → List D → Ev D} {k : Nat} {g : GE} {S : Sc} {B : List Nat} {a b c : Expr} {ca' cb' cc : CE} {pos : Pos}
theorem ok_neg (ha : PE X a (tOf X.K B ca W cl ca')) : PE X (.UnaryOp .USub a pos) (tOf X.K B ca W cl (.neg ca')) := by
  refine (pe_un un_neg ha).imp fun σ H Q ⟨Z, φ, ρ, M, R, O⟩ => ?_
  simp only [ev] at O
  refine (tOf.step R O).mono fun x H1 ⟨φ1, M1, d1, R1, e1, r1, O1⟩ => ?_
  obtain ⟨d, e, O1⟩ := O1.lift
  obtain ⟨i, e2, rfl⟩ := Option.map_eq_some_iff.mp e
  unfold intD at e2
  split at e2
  · cases e2; cases r1
    exact ⟨_, rfl, O1.ok R1 _ rfl⟩
  · cases e2
theorem cmpOf_op {op : CmpOp} {o : COp} (h : cmpOf op = some o) : o ≠ .isN ∧ o ≠ .notN ∧ opC o = op := by
  unfold cmpOf at h
  split at h <;> first | (cases h; exact ⟨by decide, by decide, rfl⟩) | cases h
theorem mark_no {op : CmpOp} {b : Expr} (h : isSet b = false) : behindInMarks op b = false := by
  cases b <;> first | rfl | (simp [isSet] at h)
theorem cmpR_ok (o : XO X W ca cl k g S) {op : CmpOp} {p : COp} (h : cmpOf op = some p) : OpR X (compareOp op) (rCmp X.K B ca W fun M x y => cmpD M p x y) := by
  obtain ⟨h1, h2, h3⟩ := cmpOf_op h
  have q := op_cmp_ok (X := X) (B := B) (ca := ca) (W := W) o.room.units p h1 h2
  rw [h3] at q
  exact q
theorem rd_cmp {op : CmpOp} {p : COp} {σ : L2.St} {H : Hp} {Q : VK} (h : tOf X.K B ca W cl (.cmp p ca' cb') σ H Q) : tOp (rCmp X.K B ca W fun M x y => cmpD M p x y) (tOf X.K B ca W cl ca') (tOf X.K B ca W cl cb') σ H Q := by
  obtain ⟨Z, φ, ρ, M, R, O⟩ := h
  simp only [ev] at O
  refine (tOf.step R O).mono fun x H1 ⟨φ1, M1, d1, R1, e1, r1, O1⟩ => ?_
  refine (tOf.step R1 O1).mono fun y H2 ⟨φ2, M2, d2, R2, e2, r2, O2⟩ => ?_
  refine ⟨Z, φ2, ρ, M2, σ, d1, d2, R2, RelD.ext e2 _ _ r1, r2, ?_⟩
  obtain ⟨d, e, O2⟩ := O2.look
  obtain ⟨q, e3, rfl⟩ := Option.map_eq_some_iff.mp e
  refine Out.ofLook e3 ?_
  exact fun φ' H' R' e' => O2 φ' H' R' e' _ rfl
theorem ok_cmp (o : XO X W ca cl k g S) {op : CmpOp} {p : COp} (hp : cmpOf op = some p) (hs : isSet b = false) (ha : PE X a (tOf X.K B ca W cl ca')) (hb : PE X b (tOf X.K B ca W cl cb')) : EOk X W ca cl B (.Compare a [op] [b] pos) (.cmp p ca' cb') :=
  ⟨(pe_cmpR (cmpR_ok o hp) ha hb (mark_no hs)).imp fun σ H Q h => rd_cmp (op := op) h, (pt_cmpR (cmpR_ok o hp) ha hb (mark_no hs)).imp fun σ H Q h => rd_cmp (op := op) h⟩
/-- is None -/
theorem rd_isN {neg : Bool} {σ : L2.St} {H : Hp} {Q : VK} (h : tOf X.K B ca W cl (.cmp (if neg then .notN else .isN) ca' (.cst .non)) σ H Q) :
    tOf X.K B ca W cl ca' σ H fun x H1 => Q (.bl (if neg then !decide (x = .non) else decide (x = .non))) H1 := by
  obtain ⟨Z, φ, ρ, M, R, O⟩ := h
  simp only [ev] at O
  refine (tOf.step R O).mono fun x H1 ⟨φ1, M1, d1, R1, e1, r1, O1⟩ => ?_
  have O1 := O1.bind
  have O1 := Out.ok (a := D.non) O1 R1
  obtain ⟨d, e, O2⟩ := O1.look
  have key : isNonD d1 = decide (x = .non) := by
    cases d1 with
    | non => cases (show x = .non from r1); rfl
    | bl _ => cases (show x = .bl _ from r1); rfl
    | int _ => cases (show x = .int _ from r1); rfl
    | str _ => obtain ⟨rfl, _⟩ := (show x = .str _ ∧ _ from r1); rfl
    | tup _ => obtain ⟨_, _, rfl, _⟩ := (show ∃ a vs, x = .ref a ∧ _ from r1); rfl
    | lst _ => obtain ⟨_, _, rfl, _⟩ := (show ∃ a vs, x = .ref a ∧ _ from r1); rfl
    | dct _ _ => exact r1.elim
    | set _ => exact r1.elim
    | ref _ => obtain ⟨_, _, rfl⟩ := (show ∃ a, _ ∧ x = .ref a from r1); rfl
    | exc _ _ => obtain ⟨_, _, _, ⟨rfl, _⟩, _⟩ := r1; rfl
    | scr _ => obtain ⟨_, rfl, _⟩ := (show ∃ a, x = .ref a ∧ _ from r1); rfl
  cases neg with
  | false =>
    have e : some (D.bl (isNonD d1)) = some d := e
    cases e
    rw [key] at O2
    exact O2.ok R1 _ rfl
  | true =>
    have e : some (D.bl (!isNonD d1)) = some d := e
    cases e
    rw [key] at O2
    exact O2.ok R1 _ rfl
theorem ok_isN {kk : Nat} {p : Pos} (ha : PE X a (tOf X.K B ca W cl ca')) : EOk X W ca cl B (.Compare a [.Is] [.Constant .none kk p] pos) (.cmp .isN ca' (.cst .non)) :=
  ⟨(pe_cmp (pc_isN ha) rfl).imp fun σ H Q h => rd_isN (neg := false) h, (pt_cmp (pc_isN ha) rfl).imp fun σ H Q h => rd_isN (neg := false) h⟩
theorem ok_notN {kk : Nat} {p : Pos} (ha : PE X a (tOf X.K B ca W cl ca')) : EOk X W ca cl B (.Compare a [.IsNot] [.Constant .none kk p] pos) (.cmp .notN ca' (.cst .non)) :=
  ⟨(pe_cmp (pc_notN ha) rfl).imp fun σ H Q h => rd_isN (neg := true) h, (pt_cmp (pc_notN ha) rfl).imp fun σ H Q h => rd_isN (neg := true) h⟩
/-- a op b op2 c -/
theorem rd_chain {p p2 : COp} {σ : L2.St} {H : Hp} {Q : VK} (h : tOf X.K B ca W cl (.cmp2 p p2 ca' cb' cc) σ H Q) :
    tChain (rCmp X.K B ca W fun M x y => cmpD M p x y) (rCmp X.K B ca W fun M x y => cmpD M p2 x y) (tOf X.K B ca W cl ca') (tOf X.K B ca W cl cb') (tOf X.K B ca W cl cc) σ H Q := by
  obtain ⟨Z, φ, ρ, M, R, O⟩ := h
  simp only [ev] at O
  refine (tOf.step R O).mono fun x H1 ⟨φ1, M1, d1, R1, e1, r1, O1⟩ => ?_
  refine (tOf.step R1 O1).mono fun y H2 ⟨φ2, M2, d2, R2, e2, r2, O2⟩ => ?_
  refine ⟨Z, φ2, ρ, M2, σ, d1, d2, R2, RelD.ext e2 _ _ r1, r2, ?_⟩
  refine O2.bind.imp fun q M3 φ3 H3 R3 e3 O3 => ?_
  refine ⟨q, rfl, ?_⟩
  cases q with
  | false => exact Out.ok O3 R3 _ rfl
  | true =>
    refine (tOf.step R3 O3).mono fun z H4 ⟨φ4, M4, d4, R4, e4, r4, O4⟩ => ?_
    refine ⟨Z, φ4, ρ, M4, σ, d2, d4, R4, RelD.ext (e3.trans e4) _ _ r2, r4, ?_⟩
    obtain ⟨d, e, O4⟩ := O4.look
    obtain ⟨q, e5, rfl⟩ := Option.map_eq_some_iff.mp e
    refine Out.ofLook e5 ?_
    exact fun φ' H' R' e' => O4 φ' H' R' e' _ rfl
theorem ok_cmp2 (o : XO X W ca cl k g S) {op op2 : CmpOp} {p p2 : COp} (hp : cmpOf op = some p) (hp2 : cmpOf op2 = some p2) (hs : isSet b = false) (hs2 : isSet c = false) (ha : PE X a (tOf X.K B ca W cl ca')) (hb : PE X b (tOf X.K B ca W cl cb'))
    (hc : PE X c (tOf X.K B ca W cl cc)) : EOk X W ca cl B (.Compare a [op, op2] [b, c] pos) (.cmp2 p p2 ca' cb' cc) := by
  refine ⟨?_, ?_⟩
  · exact (pe_chain (cmpR_ok o hp) (cmpR_ok o hp2) ha hb hc (show behindInMarks op2 c = false from mark_no hs2)).imp fun σ H Q h => rd_chain h
  · exact (pt_chain (cmpR_ok o hp) (cmpR_ok o hp2) ha hb hc (show behindInMarks op2 c = false from mark_no hs2)).imp fun σ H Q h => rd_chain h
end
end MP

set_option Elab.async false
set_option linter.all false
set_option maxRecDepth 100000
set_option maxHeartbeats 1000000
namespace MP
open PySem PySem.Spec PyProof.Rows L2
section
variable {X : Cx} {W : WX} {ca : Nat → Addr} {cl : Nat → List D → Ev D} {k : Nat} {g : GE} {S : Sc} {B : List Nat} {a b c : Expr} {ca' cb' cc : CE} {pos : Pos}
theorem truD_of {d : D} {q : Bool} (h : truD d = some q) : d = .bl q := by
  unfold truD at h
  split at h
  · cases h; rfl
  · cases h
/-- a truth value comes -/
theorem rd_tru {α : Type} {Z φ : List Addr} {ρ : Env} {M : MH} {σ : L2.St} {H : Hp} {f : Bool → Ev α} {Q : α → MH → List Addr → Hp → Prop} (R : Rel X.K Z φ B ρ M σ H)
    (O : Out X.K Z B ca W ρ σ φ H (Ev.bind (ev cl ca' ρ) (fun x => Ev.bind (Ev.lift (truD x)) f) M) Q) :
    tOf X.K B ca W cl ca' σ H fun v H1 => ∃ q, v = .bl q ∧ ∃ φ1 M1, Rel X.K Z φ1 B ρ M1 σ H1 ∧ Ext Z φ H φ1 H1 ∧ Out X.K Z B ca W ρ σ φ1 H1 (f q M1) Q := by
  refine (tOf.step R O).mono fun x H1 ⟨φ1, M1, d1, R1, e1, r1, O1⟩ => ?_
  have O1 := O1.bind
  obtain ⟨q, e, O1⟩ := O1.lift
  have := truD_of e
  subst this
  cases (show x = .bl q from r1)
  exact ⟨q, rfl, φ1, M1, R1, e1, Out.ok O1 R1⟩
theorem rd_and {σ : L2.St} {H : Hp} {Q : VK} (h : tOf X.K B ca W cl (.and ca' cb') σ H Q) :
    tOf X.K B ca W cl ca' σ H fun x H1 => ∃ q, x = .bl q ∧ if q = true then tOf X.K B ca W cl cb' σ H1 Q else Q (.bl false) H1 := by
  obtain ⟨Z, φ, ρ, M, R, O⟩ := h
  simp only [ev] at O
  refine (rd_tru R O).mono fun x H1 ⟨q, e, φ1, M1, R1, e1, O1⟩ => ⟨q, e, ?_⟩
  cases q with
  | true => exact iteT ⟨Z, φ1, ρ, M1, R1, O1⟩
  | false => exact iteF (Out.ok O1 R1 _ rfl)
theorem rd_or {σ : L2.St} {H : Hp} {Q : VK} (h : tOf X.K B ca W cl (.or ca' cb') σ H Q) :
    tOf X.K B ca W cl ca' σ H fun x H1 => ∃ q, x = .bl q ∧ if q = true then Q (.bl true) H1 else tOf X.K B ca W cl cb' σ H1 Q := by
  obtain ⟨Z, φ, ρ, M, R, O⟩ := h
  simp only [ev] at O
  refine (rd_tru R O).mono fun x H1 ⟨q, e, φ1, M1, R1, e1, O1⟩ => ⟨q, e, ?_⟩
  cases q with
  | false => exact iteF ⟨Z, φ1, ρ, M1, R1, O1⟩
  | true => exact iteT (Out.ok O1 R1 _ rfl)
theorem rd_not {σ : L2.St} {H : Hp} {Q : VK} (h : tOf X.K B ca W cl (.not ca') σ H Q) :
    tOf X.K B ca W cl ca' σ H fun x H1 => ∃ q, x = .bl q ∧ Q (.bl (!q)) H1 := by
  obtain ⟨Z, φ, ρ, M, R, O⟩ := h
  simp only [ev] at O
  refine (rd_tru R O).mono fun x H1 ⟨q, e, φ1, M1, R1, e1, O1⟩ => ⟨q, e, ?_⟩
  exact Out.ok O1 R1 _ rfl
theorem rd_ite {σ : L2.St} {H : Hp} {Q : VK} (h : tOf X.K B ca W cl (.ite cc ca' cb') σ H Q) :
    tOf X.K B ca W cl cc σ H fun x H1 => ∃ q, x = .bl q ∧ if q = true then tOf X.K B ca W cl ca' σ H1 Q else tOf X.K B ca W cl cb' σ H1 Q := by
  obtain ⟨Z, φ, ρ, M, R, O⟩ := h
  simp only [ev] at O
  refine (rd_tru R O).mono fun x H1 ⟨q, e, φ1, M1, R1, e1, O1⟩ => ⟨q, e, ?_⟩
  cases q with
  | true => exact iteT ⟨Z, φ1, ρ, M1, R1, O1⟩
  | false => exact iteF ⟨Z, φ1, ρ, M1, R1, O1⟩
theorem ok_not (ha : EOk X W ca cl B a ca') : EOk X W ca cl B (.UnaryOp .Not a pos) (.not ca') := by
  refine ⟨(pe_not ha.pe).imp fun σ H Q h => rd_not h, (pt_not ha.pt).imp fun σ H Q h => ?_⟩
  refine (rd_not h).mono fun x H1 ⟨q, e, r, e2, h2⟩ => ⟨q, e, ?_⟩
  cases e2
  exact h2
theorem ok_ite (hc : EOk X W ca cl B c cc) (ha : EOk X W ca cl B a ca') (hb : EOk X W ca cl B b cb') : PE X (.IfExp c a b pos) (tOf X.K B ca W cl (.ite cc ca' cb')) :=
  (pe_ifExp hc.pt ha.pe hb.pe).imp fun σ H Q h => rd_ite h
/-- a if c else b as a test -/
theorem pt_ifExp {tc ta tb : TT} (hc : PT X c tc) (ha : PT X a ta) (hb : PT X b tb) : PT X (.IfExp c a b pos) (fun σ H Q => tc σ H fun q H1 => if q = true then ta σ H1 Q else tb σ H1 Q) := by
  refine ⟨fun pins s σ H Q I h => ?_⟩
  refine isTrue_IfExp (thn (hc.run pins s σ H _ I h) fun d s1 ⟨H1, I1, q1⟩ => ?_)
  cases d with
  | true => exact ha.run pins s1 σ H1 _ I1 q1
  | false => exact hb.run pins s1 σ H1 _ I1 q1
theorem ok_iteT (hc : EOk X W ca cl B c cc) (ha : EOk X W ca cl B a ca') (hb : EOk X W ca cl B b cb') : EOk X W ca cl B (.IfExp c a b pos) (.ite cc ca' cb') :=
  ⟨ok_ite hc ha hb, (pt_ifExp hc.pt ha.pt hb.pt).imp fun σ H Q h => rd_ite h⟩
/-- and, or -/
theorem ok_bool {r : Expr → Option CE} (ih : ∀ e c, r e = some c → EOk X W ca cl B e c) {op : BoolOp} : ∀ {vs : List Expr} {d : CE}, cBool r op vs = some d → PE X (.BoolOp op vs pos) (tOf X.K B ca W cl d) ∧ PW X (.BoolOp op vs pos) (tB (tOf X.K B ca W cl d))
  | [], _, h => by cases h
  | [e], d, h => by
    have q := ih e d h
    cases op with
    | And => exact ⟨pe_one q.pe, pw_and1 q.pt⟩
    | Or => exact ⟨pe_one q.pe, pw_or1 q.pt⟩
  | e :: e2 :: es, d, h => by
    have h : (match r e, cBool r op (e2 :: es) with | some c, some d => some (bcomb op c d) | _, _ => none) = some d := h
    split at h
    · rename_i c d' h1 h2
      cases h
      have q1 := ih e c h1
      have q2 := ok_bool ih h2
      cases op with
      | And =>
        exact ⟨(pe_and q1.pe q2.1).imp fun σ H Q h => rd_and h, (pw_and q1.pt q2.2).imp fun σ H Q h => (rd_and h).mono fun x H1 ⟨q, e, h3⟩ => ⟨q, e, by
          cases q with
          | true => exact iteT (by rw [if_pos rfl] at h3; exact h3)
          | false =>
            rw [if_neg Bool.false_ne_true] at h3
            obtain ⟨z, e4, h4⟩ := h3
            cases e4
            exact iteF h4⟩⟩
      | Or =>
        exact ⟨(pe_or q1.pe q2.1).imp fun σ H Q h => rd_or h, (pw_or q1.pt q2.2).imp fun σ H Q h => (rd_or h).mono fun x H1 ⟨q, e, h3⟩ => ⟨q, e, by
          cases q with
          | false => exact iteF (by rw [if_neg Bool.false_ne_true] at h3; exact h3)
          | true =>
            rw [if_pos rfl] at h3
            obtain ⟨z, e4, h4⟩ := h3
            cases e4
            exact iteT h4⟩⟩
    · cases h
/-- several, from the left -/
theorem star_no {e : Expr} {es : List Expr} {env : PySem.Env} (h : isStar e = false) : starEach (e :: es) env = (false, eval e env) :: starEach es env := by
  cases e <;> first | rfl | (simp [isStar] at h)
theorem ok_list {r : Expr → Option CE} (ih : ∀ e c, r e = some c → EOk X W ca cl B e c) : ∀ {es : List Expr} {cs : CEs}, cList r es = some cs → PA X es (tOfs X.K B ca W cl cs) ∧ ∀ e ∈ es, isStar e = false
  | [], cs, h => by
    cases h
    exact ⟨pa_nil.imp fun σ H Q ⟨Z, φ, ρ, M, R, O⟩ => by
      simp only [evs] at O
      exact Out.ok O R _ rfl, by simp⟩
  | e :: es, cs, h => by
    unfold cList at h
    split at h
    · cases h
    · rename_i hs
      have hs : isStar e = false := by simpa using hs
      split at h
      · rename_i c cs' h1 h2
        cases h
        have q1 := ih e c h1
        obtain ⟨q2, q3⟩ := ok_list ih h2
        refine ⟨(pa_cons q1.pe q2 (star_no hs)).imp fun σ H Q ⟨Z, φ, ρ, M, R, O⟩ => ?_, fun x hx => (List.mem_cons.mp hx).elim (fun z => by rw [z]; exact hs) (q3 x)⟩
        simp only [evs] at O
        refine (tOf.step R O).mono fun x H1 ⟨φ1, M1, d1, R1, e1, r1, O1⟩ => ?_
        refine (tOfs.step R1 O1).mono fun xs H2 ⟨φ2, M2, ds, R2, e2, r2, O2⟩ => ?_
        exact Out.ok O2 R2 _ ⟨x, xs, rfl, RelD.ext e2 _ _ r1, r2⟩
      · cases h
theorem ok_tup {es : List Expr} {cs : CEs} {kk : Nat} (h : PA X es (tOfs X.K B ca W cl cs)) : PE X (.Tuple es kk pos) (tOf X.K B ca W cl (.tup cs)) := by
  refine (pe_tup h).imp fun σ H Q ⟨Z, φ, ρ, M, R, O⟩ => ?_
  simp only [ev] at O
  refine (tOfs.step R O).mono fun xs H2 ⟨φ2, M2, ds, R2, e2, r2, O2⟩ => ?_
  split at O2
  · rename_i hl
    refine ⟨by rw [r2.length]; exact hl, fun p hp => ?_⟩
    obtain ⟨R3, e3, r3⟩ := R2.newT hp r2
    exact O2 _ _ R3 e3 _ r3
  · exact O2.elim
theorem ok_disp {es : List Expr} {cs : CEs} (h : PA X es (tOfs X.K B ca W cl cs)) : PE X (.List es pos) (tOfL X.K B ca W cl (.disp cs)) := by
  refine (pe_lst h).imp fun σ H Q ⟨Z, φ, ρ, M, R, O⟩ => ?_
  simp only [evL] at O
  refine (OutL.steps R O).mono fun xs H2 ⟨φ2, M2, ds, R2, e2, r2, O2⟩ => ?_
  split at O2
  · rename_i hl
    exact ⟨by rw [r2.length]; exact hl, fun p hp => OutL.laid R2 O2 r2 hp⟩
  · exact O2.elim
theorem ok_mk {e : Expr} {l : LE} {m : Bool} (h : PE X e (tOfL X.K B ca W cl l)) : PE X e (tOf X.K B ca W cl (.mk m l)) := h.imp fun σ H Q q => tOf_mk q
theorem OutL.look {K : PySem.W.Frag} {Z : List Addr} {ρ : Env} {σ : L2.St} {φ : List Addr} {H : Hp} {M : MH} {f : MH → Option (List D)} {Q : V → Hp → Prop} (h : OutL K Z B ca W ρ σ φ H (Ev.look f M) Q) : ∃ a, f M = some a ∧ OutL K Z B ca W ρ σ φ H (some (.ok a M)) Q := by
  unfold Ev.look at h
  cases e : f M with
  | none => rw [e] at h; exact h.elim
  | some a => rw [e] at h; exact ⟨a, rfl, h⟩
theorem ok_cat (ha : PE X a (tOf X.K B ca W cl ca')) (hb : PE X b (tOf X.K B ca W cl cb')) : PE X (.BinOp a .Add b pos) (tOfL X.K B ca W cl (.cat ca' cb')) := by
  refine (pe_op op_cat ha hb).imp fun σ H Q ⟨Z, φ, ρ, M, R, O⟩ => ?_
  simp only [evL] at O
  refine (OutL.step R O).mono fun x H1 ⟨φ1, M1, d1, R1, e1, r1, O1⟩ => ?_
  refine (tOf.mono (OutL.step R1 O1)) fun y H2 ⟨φ2, M2, d2, R2, e2, r2, O2⟩ => ?_
  obtain ⟨zs, e, O2⟩ := O2.look
  split at e
  · rename_i xs ys e3 e4
    split at e
    · cases e
      rename_i hl
      obtain ⟨p, vs, rfl, h1, h2⟩ := lst_of R2 (RelD.ext e2 _ _ r1) e3
      obtain ⟨q, ws, rfl, h3, h4⟩ := lst_of R2 r2 e4
      exact ⟨p, q, vs, ws, rfl, rfl, h1, h3, by rw [h2.length, h4.length]; exact hl, fun p hp => OutL.laid R2 O2 (h2.app h4) hp⟩
    · cases e
  · cases e
theorem ok_rep (ha : PE X a (tOf X.K B ca W cl ca')) (hb : PE X b (tOf X.K B ca W cl cb')) : PE X (.BinOp a .Mult b pos) (tOfL X.K B ca W cl (.rep ca' cb')) := by
  refine (pe_op op_rep ha hb).imp fun σ H Q ⟨Z, φ, ρ, M, R, O⟩ => ?_
  simp only [evL] at O
  refine (OutL.step R O).mono fun x H1 ⟨φ1, M1, d1, R1, e1, r1, O1⟩ => ?_
  refine (tOf.mono (OutL.step R1 O1)) fun y H2 ⟨φ2, M2, d2, R2, e2, r2, O2⟩ => ?_
  obtain ⟨zs, e, O3⟩ := O2.look
  split at e
  · rename_i xs i e3 e4
    split at e
    · cases e
      rename_i hl
      obtain ⟨p, vs, rfl, h1, h2⟩ := lst_of R2 (RelD.ext e2 _ _ r1) e3
      have : d2 = .int i := by
        unfold intD at e4
        split at e4
        · cases e4; rfl
        · cases e4
      subst this
      cases (show y = .int i from r2)
      exact ⟨p, i, vs, rfl, rfl, h1, hl.1, hl.2.1, by rw [h2.length]; exact hl.2.2, fun p hp => OutL.laid R2 O3 (h2.rep i.toNat) hp⟩
    · cases e
  · cases e
end
end MP

set_option Elab.async false
set_option linter.all false
set_option maxRecDepth 100000
set_option maxHeartbeats 1000000
namespace MP
open PySem PySem.Spec PyProof.Rows L2
section
variable {X : Cx} {W : WX} {ca : Nat → Addr} {cl : Nat → List D → Ev D} {k : Nat} {g : GE} {S : Sc} {B : List Nat} {a b c : Expr} {ca' cb' cc : CE} {pos : Pos}
theorem intD_of {d : D} {q : Int} (h : intD d = some q) : d = .int q := by
  unfold intD at h
  split at h
  · cases h; rfl
  · cases h
/-- an int comes -/
theorem rd_int {α : Type} {Z φ : List Addr} {ρ : Env} {M : MH} {σ : L2.St} {H : Hp} {f : Int → Ev α} {Q : α → MH → List Addr → Hp → Prop} (R : Rel X.K Z φ B ρ M σ H)
    (O : Out X.K Z B ca W ρ σ φ H (Ev.bind (ev cl ca' ρ) (fun x => Ev.bind (Ev.lift (intD x)) f) M) Q) :
    tOf X.K B ca W cl ca' σ H fun v H1 => ∃ q, v = .int q ∧ ∃ φ1 M1, Rel X.K Z φ1 B ρ M1 σ H1 ∧ Ext Z φ H φ1 H1 ∧ Out X.K Z B ca W ρ σ φ1 H1 (f q M1) Q := by
  refine (tOf.step R O).mono fun x H1 ⟨φ1, M1, d1, R1, e1, r1, O1⟩ => ?_
  have O1 := O1.bind
  obtain ⟨q, e, O1⟩ := O1.lift
  have := intD_of e
  subst this
  cases (show x = .int q from r1)
  exact ⟨q, rfl, φ1, M1, R1, e1, Out.ok O1 R1⟩
theorem strOk_one {z : Str} {c : Nat} (h : PyData.strOk z = true) (hc : c ∈ z.cps.toList) : PyData.strOk ⟨#[c]⟩ = true := by
  unfold PyData.strOk at *
  rw [← Array.all_toList] at h
  have := List.all_eq_true.mp h c hc
  simpa using this
theorem one_fits : (1 : Nat) ≤ sizeLine := by rw [sizeLine_eq]; decide
theorem plain_ix {b : Expr} (h : isSlice b = false) : PlainIx b := by
  cases b <;> first | (exact fun _ _ => rfl) | (simp [isSlice] at h)
theorem atI_rel {K : PySem.W.Frag} {Z φ : List Addr} {H : Hp} {ds : List D} {vs : List V} {i : Int} {d : D} (h : RelDs K Z φ H ds vs) (e : atI ds i = some d) : ∃ v, atI vs i = some v ∧ RelD K Z φ H d v := by
  unfold atI at e ⊢
  rw [h.length]
  obtain ⟨j, h1, h2⟩ := Option.bind_eq_some_iff.mp e
  obtain ⟨v, h3, h4⟩ := h.get h2
  exact ⟨v, by rw [h1]; exact h3, h4⟩
theorem ok_ix {i : Expr} {ci : CE} (hs : isSlice i = false) (ha : PE X a (tOf X.K B ca W cl ca')) (hi : PE X i (tOf X.K B ca W cl ci)) : PE X (.Subscript a i pos) (tOf X.K B ca W cl (.ix ca' ci)) := by
  refine (pe_ix ix_seq ha hi (plain_ix hs)).imp fun σ H Q ⟨Z, φ, ρ, M, R, O⟩ => ?_
  simp only [ev] at O
  refine (tOf.step R O).mono fun x H1 ⟨φ1, M1, d1, R1, e1, r1, O1⟩ => ?_
  refine (rd_int R1 O1).mono fun y H2 ⟨i, e, φ2, M2, R2, e2, O2⟩ => ?_
  subst e
  obtain ⟨d, e3, O2⟩ := O2.look
  have O2 := O2.ok R2
  have r1 := RelD.ext e2 _ _ r1
  unfold ixD at e3
  split at e3
  · obtain ⟨cp, e4, rfl⟩ := Option.map_eq_some_iff.mp e3
    obtain ⟨rfl, h1, h2⟩ := r1
    refine .inr (.inr ⟨_, i, cp, rfl, rfl, h2, e4, O2 _ ⟨rfl, strOk_one h1 ?_, one_fits⟩⟩)
    obtain ⟨j, _, hj, _⟩ := atI_get e4
    exact List.mem_of_getElem? hj
  · split at e3
    · rename_i xs e4
      obtain ⟨p, vs, rfl, h1, h2⟩ := seq_of R2 r1 e4
      obtain ⟨v, h3, h4⟩ := atI_rel h2 e3
      rcases h1 with h1 | h1
      · exact .inl ⟨p, vs, i, v, rfl, rfl, h1, h3, O2 _ h4⟩
      · exact .inr (.inl ⟨p, vs, i, v, rfl, rfl, h1, h3, O2 _ h4⟩)
    · cases e3
theorem cut_rel {K : PySem.W.Frag} {Z φ : List Addr} {H : Hp} {ds : List D} {vs : List V} (h : RelDs K Z φ H ds vs) (lo hi : Option Int) : RelDs K Z φ H (cutD ds lo hi) (cutV vs lo hi) := by
  unfold cutD cutV
  rw [h.length]
  exact (h.drop _).take _
theorem strOk_cut {z : Str} (h : PyData.strOk z = true) (lo hi : Option Int) : PyData.strOk (cutS z lo hi) = true := by
  unfold PyData.strOk cutS at *
  rw [← Array.all_toList] at h
  simp only [List.all_toArray, List.all_eq_true] at h ⊢
  exact fun c hc => h c (List.mem_of_mem_drop (List.mem_of_mem_take hc))
theorem len_cut (z : Str) (lo hi : Option Int) : (cutS z lo hi).length ≤ z.length := by
  unfold cutS
  show (List.toArray _).size ≤ z.cps.size
  simp only [List.size_toArray, List.length_take, List.length_drop, Array.length_toList]
  omega
/-- the cut itself -/
def rCut (K : PySem.W.Frag) (B : List Nat) (ca : Nat → Addr) (W : WX) : V → Option Int → Option Int → Hp → VK → Prop := fun v lo hi H Q =>
  ∃ Z φ ρ M σ x, Rel K Z φ B ρ M σ H ∧ RelD K Z φ H x v ∧ Out K Z B ca W ρ σ φ H (Ev.look (fun M => slD M x lo hi) M) fun d _ φ' H' => ∀ z, RelD K Z φ' H' d z → Q z H'
theorem sl_cut : SlR X (rCut X.K B ca W) := by
  intro pins s σ0 H v vv vl vu lo hi sl Q I rv hs pl pu ⟨Z, φ, ρ, M, σ, x, R, rx, O⟩
  obtain ⟨d, e, O⟩ := O.look
  unfold slD at e
  split at e
  · rename_i z
    cases e
    obtain ⟨rfl, h1, h2⟩ := rx
    exact sl_str pins s σ0 H _ vv vl vu lo hi sl Q I rv hs pl pu ⟨z, rfl, h2, O.ok R _ ⟨rfl, strOk_cut h1 lo hi, Nat.le_trans (len_cut z lo hi) h2⟩⟩
  · rename_i xs
    cases e
    obtain ⟨p, vs, rfl, h1, h2⟩ := rx
    refine sl_tupA pins s σ0 H _ vv vl vu lo hi sl Q I rv hs pl pu ⟨p, vs, rfl, h1.sq, fun hw => ?_, fun _ q hq => ?_⟩
    · have e2 : cutD xs lo hi = xs := by
        unfold cutD
        rw [← h2.length, hw.1, hw.2, h2.length]
        simp
      rw [e2] at O
      exact O.ok R _ ⟨p, vs, rfl, h1, h2⟩
    · obtain ⟨R3, e3, r3⟩ := R.newT hq (cut_rel h2 lo hi)
      exact O _ _ R3 e3 _ r3
  · obtain ⟨xs, e1, rfl⟩ := Option.map_eq_some_iff.mp e
    obtain ⟨p, vs, rfl, h1, h2⟩ := lst_of R rx e1
    refine sl_list pins s σ0 H _ vv vl vu lo hi sl Q I rv hs pl pu ⟨p, vs, rfl, SqL.of h1, fun q hq => ?_⟩
    obtain ⟨R3, e3, r3⟩ := R.newL hq (cut_rel h2 lo hi)
    exact O _ _ R3 e3 _ r3
theorem ok_slLo {lo : Expr} {cl' : CE} {p2 : Pos} (ha : PE X a (tOf X.K B ca W cl ca')) (hi : PE X lo (tOf X.K B ca W cl cl')) : PE X (.Subscript a (.Slice (some lo) none none p2) pos) (tOf X.K B ca W cl (.slLo ca' cl')) := by
  refine (pe_slice (sl_cut (B := B) (ca := ca) (W := W)) ha (po_some hi) po_none).imp fun σ H Q ⟨Z, φ, ρ, M, R, O⟩ => ?_
  simp only [ev] at O
  refine (tOf.step R O).mono fun x H1 ⟨φ1, M1, d1, R1, e1, r1, O1⟩ => ?_
  refine (rd_int R1 O1).mono fun y H2 ⟨i, e, φ2, M2, R2, e2, O2⟩ => ⟨i, e, ?_⟩
  exact ⟨Z, φ2, ρ, M2, σ, d1, R2, RelD.ext e2 _ _ r1, O2⟩
theorem ok_slHi {hi : Expr} {cl' : CE} {p2 : Pos} (ha : PE X a (tOf X.K B ca W cl ca')) (hi' : PE X hi (tOf X.K B ca W cl cl')) : PE X (.Subscript a (.Slice none (some hi) none p2) pos) (tOf X.K B ca W cl (.slHi ca' cl')) := by
  refine (pe_slice (sl_cut (B := B) (ca := ca) (W := W)) ha po_none (po_some hi')).imp fun σ H Q ⟨Z, φ, ρ, M, R, O⟩ => ?_
  simp only [ev] at O
  refine (tOf.step R O).mono fun x H1 ⟨φ1, M1, d1, R1, e1, r1, O1⟩ => ?_
  refine (rd_int R1 O1).mono fun y H2 ⟨i, e, φ2, M2, R2, e2, O2⟩ => ⟨i, e, ?_⟩
  exact ⟨Z, φ2, ρ, M2, σ, d1, R2, RelD.ext e2 _ _ r1, O2⟩
theorem ok_slLH {lo hi : Expr} {cl1 cl2 : CE} {p2 : Pos} (ha : PE X a (tOf X.K B ca W cl ca')) (h1 : PE X lo (tOf X.K B ca W cl cl1)) (h2 : PE X hi (tOf X.K B ca W cl cl2)) : PE X (.Subscript a (.Slice (some lo) (some hi) none p2) pos) (tOf X.K B ca W cl (.slLH ca' cl1 cl2)) := by
  refine (pe_slice (sl_cut (B := B) (ca := ca) (W := W)) ha (po_some h1) (po_some h2)).imp fun σ H Q ⟨Z, φ, ρ, M, R, O⟩ => ?_
  simp only [ev] at O
  refine (tOf.step R O).mono fun x H1 ⟨φ1, M1, d1, R1, e1, r1, O1⟩ => ?_
  refine (rd_int R1 O1).mono fun y H2 ⟨i, e, φ2, M2, R2, e2, O2⟩ => ⟨i, e, ?_⟩
  refine (rd_int R2 O2).mono fun y H3 ⟨j, e', φ3, M3, R3, e3, O3⟩ => ⟨j, e', ?_⟩
  exact ⟨Z, φ3, ρ, M3, σ, d1, R3, RelD.ext (e2.trans e3) _ _ r1, O3⟩

theorem rev_rel {K : PySem.W.Frag} {Z φ : List Addr} {H : Hp} : ∀ {ds : List D} {vs : List V}, RelDs K Z φ H ds vs → RelDs K Z φ H ds.reverse vs.reverse
  | [], _, h => by cases (show _ = [] from h); exact rfl
  | d :: ds, _, h => by
    obtain ⟨v, r, rfl, h2, h3⟩ := (show ∃ v r, _ = v :: r ∧ RelD K Z φ H d v ∧ RelDs K Z φ H ds r from h)
    rw [List.reverse_cons, List.reverse_cons]
    exact (rev_rel h3).app (RelDs.one h2)
theorem ok_rev {j : Nat} {p1 p2 p3 : Pos} (ha : PE X a (tOf X.K B ca W cl ca')) : PE X (.Subscript a (.Slice none none (some (.UnaryOp .USub (.Constant (.int 1) j p1) p2)) p3) pos) (tOf X.K B ca W cl (.rev ca')) := by
  refine (pe_revA ha).imp fun σ H Q ⟨Z, φ, ρ, M, R, O⟩ => ?_
  simp only [ev] at O
  refine (tOf.step R O).mono fun x H1 ⟨φ1, M1, d1, R1, e1, r1, O1⟩ => ?_
  obtain ⟨d, e, O2⟩ := O1.look
  unfold revD at e
  split at e
  · rename_i xs
    cases e
    obtain ⟨p, vs, rfl, h1, h2⟩ := r1
    refine ⟨p, vs, rfl, .inr ⟨h1.sq, fun q hq => ?_⟩⟩
    obtain ⟨R3, e3, r3⟩ := R1.newT hq (rev_rel h2)
    exact O2 _ _ R3 e3 _ r3
  · obtain ⟨xs, e1, rfl⟩ := Option.map_eq_some_iff.mp e
    obtain ⟨p, vs, rfl, h1, h2⟩ := lst_of R1 r1 e1
    refine ⟨p, vs, rfl, .inl ⟨SqL.of h1, fun q hq => ?_⟩⟩
    obtain ⟨R3, e3, r3⟩ := R1.newL hq (rev_rel h2)
    exact O2 _ _ R3 e3 _ r3

theorem ok_val {x : Str} {p : Pos} (ha : PE X (.Name x p) (tOf X.K B ca W cl ca')) : PE X (.Attribute (.Name x p) "value" pos) (tOf X.K B ca W cl (.val ca')) := by
  refine (pe_val ha rfl).imp fun σ H Q ⟨Z, φ, ρ, M, R, O⟩ => ?_
  simp only [ev] at O
  refine (tOf.step R O).mono fun y H1 ⟨φ1, M1, d1, R1, e1, r1, O1⟩ => ?_
  obtain ⟨d, e, O2⟩ := O1.lift
  unfold valD at e
  split at e
  · rename_i c z
    cases e
    obtain ⟨a, dx, w, ⟨rfl, h0⟩, h2, h3, h4, h5, h6⟩ := r1
    exact ⟨a, _, dx, w, rfl, h0, h2, h4, O2.ok R1 _ h6⟩
  · cases e

/-! ### isinstance -/
def tyS : Ty → String
  | .int => "int" | .bool => "bool" | .str => "str" | .list => "list" | .tuple => "tuple" | .none => "NoneType"
theorem kit_all (s t : Ty) : kitB (tyS s) (tyS t) = some (t == s || (s == .bool && t == .int)) ∨ t = .none := by
  cases s <;> cases t <;> first | exact .inr rfl | exact .inl (by kernel_rfl)
theorem tyX_of {Z φ : List Addr} {ρ : Env} {M : MH} {σ : L2.St} {H : Hp} {K : PySem.W.Frag} (R : Rel K Z φ B ρ M σ H) {d : D} {v : V} {t : Ty} (h : tyD M d = some t) (r : RelD K Z φ H d v) : TyX K H v (.type (tyS t)) := by
  unfold tyD at h
  split at h
  · cases h; cases (show v = .non from r); exact .base .non
  · cases h; cases (show v = .bl _ from r); exact .base (.bl _)
  · cases h; cases (show v = .int _ from r); exact .base (.int _)
  · cases h; obtain ⟨rfl, _⟩ := (show v = .str _ ∧ _ from r); exact .base (.str _)
  · cases h
    obtain ⟨p, vs, rfl, h1, _⟩ := (show ∃ a vs, v = .ref a ∧ TupAt K Z φ H a vs ∧ _ from r)
    rcases h1 with h1 | ⟨o, its, n, h1, h2, _⟩
    · exact .base (.tup h1.1)
    · exact .kTuple h1 h2
  · cases h
    obtain ⟨p, vs, rfl, h1, _⟩ := (show ∃ a vs, v = .ref a ∧ H a = some (.lst vs) ∧ _ from r)
    exact .base (.lst h1)
  · rename_i n
    split at h
    · rename_i xs e
      cases h
      obtain ⟨p, h1, rfl⟩ := (show ∃ a, φ[n]? = some a ∧ v = .ref a from r)
      obtain ⟨vs, h3, _⟩ := R.obj n p _ h1 e
      exact .base (.lst h3)
    · cases h
  · cases h
theorem kitAny_all (s : Ty) : ∀ ts : List Ty, (∀ t ∈ ts, t ≠ .none) → ∀ {K : PySem.W.Frag}, PySem.W.kitAny K (.type (tyS s)) (ts.map fun t => .type (tyS t)) = some (isiT s ts)
  | [], _, K => kitAny_nil
  | t :: ts, h, K => by
    have h1 := (kit_all s t).resolve_right (h t List.mem_cons_self)
    have ih := kitAny_all s ts (fun u hu => h u (List.mem_cons_of_mem _ hu)) (K := K)
    have e : (s == t || (s == .bool && t == .int)) = (t == s || (s == .bool && t == .int)) := by cases s <;> cases t <;> rfl
    refine kitAny_cons (b := (t == s || (s == .bool && t == .int))) (kit_ty h1) (fun hb => ?_) (fun hb => ?_)
    · rw [ih]
      show some (isiT s ts) = some ((t :: ts).any _)
      rw [List.any_cons]
      show _ = some ((s == t || (s == .bool && t == .int)) || isiT s ts)
      rw [e, hb, Bool.false_or]
    · show (t :: ts).any _ = true
      rw [List.any_cons]
      show ((s == t || (s == .bool && t == .int)) || _) = true
      rw [e, hb, Bool.true_or]
theorem tyName_of {x : Str} {t : Ty} (h : tyOfName x = some t) : t ≠ .none ∧ x ∈ bnames ∧ bootBuiltins x = some (.type (tyS t)) ∧ x ≠ "__name__" ∧ (x == ("__debug__" : Str)) = false := by
  unfold tyOfName at h
  split at h
  · rename_i e; cases h; subst e; exact ⟨by decide, by decide +kernel, by decide +kernel, by decide +kernel, by decide +kernel⟩
  split at h
  · rename_i e; cases h; subst e; exact ⟨by decide, by decide +kernel, by decide +kernel, by decide +kernel, by decide +kernel⟩
  split at h
  · rename_i e; cases h; subst e; exact ⟨by decide, by decide +kernel, by decide +kernel, by decide +kernel, by decide +kernel⟩
  split at h
  · rename_i e; cases h; subst e; exact ⟨by decide, by decide +kernel, by decide +kernel, by decide +kernel, by decide +kernel⟩
  split at h
  · rename_i e; cases h; subst e; exact ⟨by decide, by decide +kernel, by decide +kernel, by decide +kernel, by decide +kernel⟩
  · cases h
theorem pe_ty (o : XO X W ca cl k g S) {x : Str} {t : Ty} {p : Pos} (h : tyOfName x = some t) (hg : glB S.sc x = true) : PE X (.Name x p) (tC (.ty (tyS t))) := by
  obtain ⟨_, h1, h2, h3, h4⟩ := tyName_of h
  exact pe_bltn (o.gl hg) (o.go.bn x h1) h2 rfl h3 h4
theorem isi_facts : ("isinstance" : Str) ∈ bnames ∧ bootBuiltins "isinstance" = some (.builtin "isinstance") ∧ ("isinstance" : Str) ≠ "__name__" ∧ (("isinstance" : Str) == ("__debug__" : Str)) = false := by
  exact ⟨by decide +kernel, by decide +kernel, by decide +kernel, by decide +kernel⟩
theorem ok_isi1 (o : XO X W ca cl k g S) {x : Str} {t : Ty} {p q : Pos} (hs : isStar a = false) (hx : tyOfName x = some t) (hg : glB S.sc x = true) (hi : glB S.sc "isinstance" = true) (ha : PE X a (tOf X.K B ca W cl ca')) :
    PE X (.Call (.Name "isinstance" p) [a, .Name x q] [] pos) (tOf X.K B ca W cl (.isi ca' [t])) := by
  obtain ⟨f1, f2, f3, f4⟩ := isi_facts
  refine (pe_callB call_isi (o.gl hi) (o.go.bn _ f1) f2 (pa_cons ha (pa_cons (pe_ty o hx hg) pa_nil) (star_no hs)) f3 f4 (star_no hs) rfl).imp fun σ H Q ⟨Z, φ, ρ, M, R, O⟩ => ?_
  simp only [ev] at O
  refine (tOf.step R O).mono fun x H1 ⟨φ1, M1, d1, R1, e1, r1, O1⟩ => ?_
  obtain ⟨d, e, O1⟩ := O1.look
  obtain ⟨s, e2, rfl⟩ := Option.map_eq_some_iff.mp e
  have hn := (tyName_of hx).1
  refine ⟨x, .ty (tyS t), .type (tyS s), .type (tyS t), isiT s [t], rfl, .ty _, tyX_of R1 e2 r1, kit_ty ?_, O1.ok R1 _ rfl⟩
  rw [(kit_all s t).resolve_right hn]
  have e : (s == t) = (t == s) := by cases s <;> cases t <;> rfl
  show _ = some ([t].any _)
  rw [List.any_cons, List.any_nil, Bool.or_false, e]
theorem ok_isx (o : XO X W ca cl k g S) {x : Str} {hits : List Str} {p q : Pos} (hs : isStar a = false) (hx : g.isxs.lookup x = some hits) (hg : glB S.sc x = true) (hi : glB S.sc "isinstance" = true) (ha : PE X a (tOf X.K B ca W cl ca')) :
    PE X (.Call (.Name "isinstance" p) [a, .Name x q] [] pos) (tOf X.K B ca W cl (.isx ca' hits g.cls)) := by
  obtain ⟨f1, f2, f3, f4⟩ := isi_facts
  obtain ⟨hd, u, hu, hk⟩ := o.go.isx x hits hx
  obtain ⟨c, hc, hpe⟩ : ∃ c : V, (∀ u', RelV c u' → u' = u) ∧ PE X (.Name x q) (tC c) := by
    rcases hu with ⟨C, h1, rfl⟩ | ⟨T, h1, h2, h3, rfl⟩
    · exact ⟨.ref C, fun u' h => h, ⟨fun pins s σ H Q I h => ld_glob I (o.gl hg) h1 ⟨.ref C, H, I, rfl, h⟩ hd⟩⟩
    · exact ⟨.ty T, fun u' h => h, pe_bltn (o.gl hg) h1 h2 rfl h3 hd⟩
  refine (pe_callB call_isX (o.gl hi) (o.go.bn _ f1) f2 (pa_cons ha (pa_cons hpe pa_nil) (star_no hs)) f3 f4 (star_no hs) rfl).imp fun σ H Q ⟨Z, φ, ρ, M, R, O⟩ => ?_
  simp only [ev] at O
  refine (tOf.step R O).mono fun x H1 ⟨φ1, M1, d1, R1, e1, r1, O1⟩ => ?_
  obtain ⟨d, e, O1⟩ := O1.lift
  unfold isxD at e
  split at e
  · rename_i y z
    split at e
    · rename_i hy
      cases e
      obtain ⟨a, dx, w, ⟨rfl, h0⟩, h2, h3, h4, h5, h6⟩ := r1
      exact ⟨a, _, dx, w, c, u, _, rfl, h0, h2, h4, hc, hk y hy, O1.ok R1 _ rfl⟩
    · cases e
  · cases e
/-- the classes' names, as values -/
def tyVs (ts : List Ty) : List V := ts.map fun t => V.ty (tyS t)
theorem pa_tys (o : XO X W ca cl k g S) : ∀ {es : List Expr} {ts : List Ty}, cTys es = some ts → namesGl S es = true → PA X es (fun _ H Q => Q (tyVs ts) H)
  | [], _, h, _ => by cases h; exact pa_nil
  | .Name x p :: es, ts, h, hg => by
    unfold cTys at h
    split at h
    · rename_i t ts' h1 h2
      cases h
      unfold namesGl at hg
      simp only [Bool.and_eq_true] at hg
      exact pa_cons (pe_ty o h1 hg.1.1) (pa_tys o h2 hg.2) rfl
    · cases h
theorem cTys_of : ∀ {es : List Expr} {ts : List Ty}, cTys es = some ts → ts.length = es.length ∧ ∀ t ∈ ts, t ≠ .none
  | [], _, h => by cases h; exact ⟨rfl, by simp⟩
  | .Name x p :: es, ts, h => by
    unfold cTys at h
    split at h
    · rename_i t ts' h1 h2
      cases h
      obtain ⟨i1, i2⟩ := cTys_of h2
      exact ⟨by simp [i1], fun u hu => (List.mem_cons.mp hu).elim (fun z => by rw [z]; exact (tyName_of h1).1) (i2 u)⟩
    · cases h
theorem pairs_tys : ∀ ts : List Ty, Paired ClsV (tyVs ts) (ts.map fun t => .type (tyS t))
  | [] => .nil
  | t :: ts => .cons (.ty _) (pairs_tys ts)
theorem ok_isiT (o : XO X W ca cl k g S) {es : List Expr} {ts : List Ty} {p q : Pos} {kk : Nat} (h8 : es.length ≤ 8) (hs : isStar a = false) (hx : cTys es = some ts) (hg : namesGl S es = true) (hi : glB S.sc "isinstance" = true) (ha : PE X a (tOf X.K B ca W cl ca')) :
    PE X (.Call (.Name "isinstance" p) [a, .Tuple es kk q] [] pos) (tOf X.K B ca W cl (.isi ca' ts)) := by
  obtain ⟨f1, f2, f3, f4⟩ := isi_facts
  refine (pe_callB call_isiT (o.gl hi) (o.go.bn _ f1) f2 (pa_cons ha (pa_cons (pe_tup (pa_tys o hx hg)) pa_nil rfl) (star_no hs)) f3 f4 (star_no hs) rfl).imp fun σ H Q ⟨Z, φ, ρ, M, R, O⟩ => ?_
  simp only [ev] at O
  refine (tOf.step R O).mono fun x H1 ⟨φ1, M1, d1, R1, e1, r1, O1⟩ => ?_
  obtain ⟨d, e, O1⟩ := O1.look
  obtain ⟨s, e2, rfl⟩ := Option.map_eq_some_iff.mp e
  refine ⟨?_, fun tp htp => ?_⟩
  · show (ts.map _).length ≤ sizeLine
    rw [List.length_map, (cTys_of hx).1, sizeLine_eq]; omega
  · obtain ⟨R2, e3⟩ := R1.new (o := .tup (tyVs ts)) htp
    refine ⟨x, tp, tyVs ts, .type (tyS s), ts.map fun t => .type (tyS t), isiT s ts, rfl, upd_same, pairs_tys ts, tyX_of R2 e2 (RelD.ext e3 _ _ r1), kitAny_all s ts (cTys_of hx).2, O1 _ _ R2 e3 _ rfl⟩
end
end MP

set_option Elab.async false
set_option linter.all false
set_option maxRecDepth 100000
set_option maxHeartbeats 1000000
namespace MP
open PySem PySem.Spec PyProof.Rows L2
section
variable {X : Cx} {W : WX} {ca : Nat → Addr} {cl : Nat → List D → Ev D} {k : Nat} {g : GE} {S : Sc} {B : List Nat} {a b c : Expr} {ca' cb' cc : CE} {pos : Pos}
theorem back_plain {env : PySem.Env} : ∀ {es : List Expr}, (∀ e ∈ es, isStar e = false) → (backTo pos (starEach es env)).any (·.1) = false
  | [], _ => rfl
  | e :: es, h => by
    rw [star_no (h e List.mem_cons_self)]
    have ih := back_plain (env := env) (es := es) fun x hx => h x (List.mem_cons_of_mem _ hx)
    show (false || (backTo pos (starEach es env)).any (·.1)) = false
    rw [ih]; rfl
theorem kw_facts {env : PySem.Env} : ∀ {kws : List Keyword} {ns : List Str}, kwNames kws = some ns →
    (backToKw pos (keywordEach kws env)).all (·.1.isSome) = true ∧ (backToKw pos (keywordEach kws env)).filterMap (·.1) = ns ∧ (backToKw pos (keywordEach kws env)).any (·.1.isNone) = false
  | [], ns, h => by cases h; exact ⟨rfl, rfl, rfl⟩
  | ⟨some x, v, p⟩ :: kws, ns, h => by
    obtain ⟨ns', e, rfl⟩ := Option.map_eq_some_iff.mp (show (kwNames kws).map (x :: ·) = some ns from h)
    obtain ⟨h1, h2, h3⟩ := kw_facts (env := env) e
    refine ⟨?_, ?_, ?_⟩
    · show (true && (backToKw pos (keywordEach kws env)).all (·.1.isSome)) = true
      rw [h1]; rfl
    · show x :: (backToKw pos (keywordEach kws env)).filterMap (·.1) = _
      rw [h2]
    · show (false || (backToKw pos (keywordEach kws env)).any (·.1.isNone)) = false
      rw [h3]; rfl
  | ⟨none, v, p⟩ :: kws, ns, h => by cases h

/-! ### built-ins -/
def biV : BI → Value
  | .len => .builtin "len" | .all => .builtin "all" | .any => .builtin "any" | .sum => .builtin "sum" | .int => .type "int" | .str => .type "str"
  | .repr => .builtin "repr" | .min2 => .builtin "min" | .max2 => .builtin "max" | .tuple => .type "tuple" | .abs => .builtin "abs"
theorem bi_R (hc : X.calm = true) (hgd : X.A.guards = some []) (hu : X.A.units + 64 < cLine) : ∀ q : BI, CallR X (biV q) (rBi X.K B ca W fun M ds => biD M q ds)
  | .len => bi_len | .all => bi_all hc | .any => bi_any hc | .sum => bi_sum hc | .int => bi_int | .str => bi_str
  | .repr => bi_repr hgd hu | .min2 => bi_min hc | .max2 => bi_max hc | .tuple => bi_tuple hc | .abs => bi_abs
theorem biOf_facts {x : Str} {n : Nat} {q : BI} (h : biOf x n = some q) : x ∈ bnames ∧ bootBuiltins x = some (biV q) ∧ 1 ≤ n := by
  unfold biOf at h
  split at h
  · rename_i hn
    have h1 : 1 ≤ n := by omega
    split at h
    · rename_i e; cases h; subst e; exact ⟨by decide +kernel, by decide +kernel, h1⟩
    split at h
    · rename_i e; cases h; subst e; exact ⟨by decide +kernel, by decide +kernel, h1⟩
    split at h
    · rename_i e; cases h; subst e; exact ⟨by decide +kernel, by decide +kernel, h1⟩
    split at h
    · rename_i e; cases h; subst e; exact ⟨by decide +kernel, by decide +kernel, h1⟩
    split at h
    · rename_i e; cases h; subst e; exact ⟨by decide +kernel, by decide +kernel, h1⟩
    split at h
    · rename_i e; cases h; subst e; exact ⟨by decide +kernel, by decide +kernel, h1⟩
    split at h
    · rename_i e; cases h; subst e; exact ⟨by decide +kernel, by decide +kernel, h1⟩
    split at h
    · rename_i e; cases h; subst e; exact ⟨by decide +kernel, by decide +kernel, h1⟩
    split at h
    · rename_i e; cases h; subst e; exact ⟨by decide +kernel, by decide +kernel, h1⟩
    · cases h
  · split at h
    · have h1 : 1 ≤ n := by omega
      split at h
      · rename_i e; cases h; subst e; exact ⟨by decide +kernel, by decide +kernel, h1⟩
      split at h
      · rename_i e; cases h; subst e; exact ⟨by decide +kernel, by decide +kernel, h1⟩
      · cases h
    · cases h
theorem room_units {A : Around} {k : Nat} (r : Room k A) : A.units + 64 < cLine := by have := r.un; omega
theorem rd_bi {q : BI} {cs : CEs} {σ : L2.St} {H : Hp} {Q : VK} (h : tOf X.K B ca W cl (.bi q cs) σ H Q) : tCB (rBi X.K B ca W fun M ds => biD M q ds) (tOfs X.K B ca W cl cs) σ H Q := by
  obtain ⟨Z, φ, ρ, M, R, O⟩ := h
  simp only [ev] at O
  refine (tOfs.step R O).mono fun vs H1 ⟨φ1, M1, ds, R1, e1, r1, O1⟩ => ?_
  exact ⟨Z, φ1, ρ, M1, σ, ds, R1, r1, O1⟩
theorem ok_bi (o : XO X W ca cl k g S) {x : Str} {p : Pos} {args : List Expr} {cs : CEs} {q : BI} (hn : nameOk x = true) (hg : glB S.sc x = true) (hq : biOf x args.length = some q) (ha : PA X args (tOfs X.K B ca W cl cs)) (hs : ∀ e ∈ args, isStar e = false) :
    PE X (.Call (.Name x p) args [] pos) (tOf X.K B ca W cl (.bi q cs)) := by
  obtain ⟨n1, n2, n3⟩ := nameOk_d hn
  obtain ⟨f2, f3, f4⟩ := biOf_facts hq
  match args, f4 with
  | e :: es, _ =>
    have he := star_no (es := es) (env := X.env) (hs e List.mem_cons_self)
    have hp := back_plain (pos := pos) (env := X.env) (es := es) fun x hx => hs x (List.mem_cons_of_mem _ hx)
    have R := bi_R (X := X) (B := B) (ca := ca) (W := W) o.calm o.gd (room_units o.room) q
    have hb := o.go.bn x f2
    cases q with
    | int => exact (pe_callTy R (o.gl hg) hb f3 ha n3 n1 he hp).imp fun σ H Q h => rd_bi h
    | str => exact (pe_callTy R (o.gl hg) hb f3 ha n3 n1 he hp).imp fun σ H Q h => rd_bi h
    | tuple => exact (pe_callTy R (o.gl hg) hb f3 ha n3 n1 he hp).imp fun σ H Q h => rd_bi h
    | repr => exact (pe_callB R (o.gl hg) hb f3 ha n3 n1 he hp).imp fun σ H Q h => rd_bi h
    | len => exact (pe_callB R (o.gl hg) hb f3 ha n3 n1 he hp).imp fun σ H Q h => rd_bi h
    | all => exact (pe_callB R (o.gl hg) hb f3 ha n3 n1 he hp).imp fun σ H Q h => rd_bi h
    | any => exact (pe_callB R (o.gl hg) hb f3 ha n3 n1 he hp).imp fun σ H Q h => rd_bi h
    | sum => exact (pe_callB R (o.gl hg) hb f3 ha n3 n1 he hp).imp fun σ H Q h => rd_bi h
    | min2 => exact (pe_callB R (o.gl hg) hb f3 ha n3 n1 he hp).imp fun σ H Q h => rd_bi h
    | max2 => exact (pe_callB R (o.gl hg) hb f3 ha n3 n1 he hp).imp fun σ H Q h => rd_bi h
    | abs => exact (pe_callB R (o.gl hg) hb f3 ha n3 n1 he hp).imp fun σ H Q h => rd_bi h
theorem list_facts : ("list" : Str) ∈ bnames ∧ bootBuiltins "list" = some (.type "list") ∧ ("list" : Str) ≠ "__name__" ∧ (("list" : Str) == ("__debug__" : Str)) = false :=
  ⟨by decide +kernel, by decide +kernel, by decide +kernel, by decide +kernel⟩
theorem ok_listc (o : XO X W ca cl k g S) {p : Pos} (hg : glB S.sc "list" = true) (ha : PE X a (tOf X.K B ca W cl ca')) (hs : isStar a = false) : PE X (.Call (.Name "list" p) [a] [] pos) (tOfL X.K B ca W cl (.list ca')) := by
  obtain ⟨f1, f2, f3, f4⟩ := list_facts
  refine (pe_callTy call_list_of (o.gl hg) (o.go.bn _ f1) f2 (pa_cons ha pa_nil (star_no hs)) f3 f4 (star_no hs) rfl).imp fun σ H Q ⟨Z, φ, ρ, M, R, O⟩ => ?_
  simp only [evL] at O
  refine (OutL.step R O).mono fun x H1 ⟨φ1, M1, d1, R1, e1, r1, O1⟩ => ?_
  obtain ⟨zs, e, O1⟩ := O1.look
  obtain ⟨p, vs, rfl, h1, h2⟩ := seq_of R1 r1 e
  exact ⟨p, vs, rfl, h1, fun l hl => OutL.laid R1 O1 h2 hl⟩
theorem attr_base {o : Expr} {m : Str} {env : PySem.Env} (h : isCallE o = false) : attributeBase o m env (eval o env) = eval o env := by
  cases o <;> first | rfl | (simp [isCallE] at h)
theorem belows_mem {n : Nat} : ∀ {ds : List D}, belows n ds = true → ∀ d ∈ ds, below n d = true
  | [], _, _, h => by cases h
  | e :: ds, h, d, hd => by
    obtain ⟨h1, h2⟩ := Bool.and_eq_true_iff.mp (show (below n e && belows n ds) = true from h)
    rcases List.mem_cons.mp hd with rfl | hd
    · exact h1
    · exact belows_mem h2 d hd
theorem belows_all {n : Nat} : ∀ {ds : List D}, (∀ d ∈ ds, below n d = true) → belows n ds = true
  | [], _ => rfl
  | e :: ds, h => by
    show (below n e && belows n ds) = true
    rw [h e List.mem_cons_self, belows_all fun d hd => h d (List.mem_cons_of_mem _ hd)]; rfl
theorem ok_pop {ap : Pos} (hb : isCallE a = false) (hl : (ap.endLine == pos.line) = true) (ha : PE X a (tOf X.K B ca W cl ca')) : PE X (.Call (.Attribute a "pop" ap) [] [] pos) (tOf X.K B ca W cl (.pop ca')) := by
  refine (pe_bm0 PySem.F.plainAttrs_list PySem.F.slot_list_pop PySem.F.type_list_pop mt_pop ha (attr_base hb) hl).imp fun σ H Q ⟨Z, φ, ρ, M, R, O⟩ => ?_
  simp only [ev] at O
  refine (tOf.step R O).mono fun x H1 ⟨φ1, M1, d1, R1, e1, r1, O1⟩ => ?_
  cases d1 with
  | ref n =>
    obtain ⟨p, h1, rfl⟩ := (show ∃ a, φ1[n]? = some a ∧ x = .ref a from r1)
    simp only at O1
    split at O1
    · rename_i xs hx
      split at O1
      · rename_i d hd
        obtain ⟨vs, h3, h4⟩ := R1.obj n p _ h1 hx
        have hl := h4.length
        rw [List.getLast?_eq_getElem?] at hd
        obtain ⟨v, h5, h6⟩ := h4.get hd
        have h7 : RelDs X.K Z φ1 H1 xs.dropLast vs.dropLast := by
          rw [List.dropLast_eq_take, List.dropLast_eq_take, hl]
          exact h4.take _
        obtain ⟨R2, e2⟩ := R1.write h1 hx h7 (fun b hb hn => belows_all fun d hd => belows_mem (R1.old b hb n _ hn hx) d (List.mem_of_mem_take (by rw [List.dropLast_eq_take] at hd; exact hd)))
        exact ⟨.inl ⟨rfl, vs, SqL.of h3⟩, p, vs, v, rfl, rfl, h3, by rw [hl]; exact h5, O1 _ _ R2 e2 _ (RelD.ext e2 _ _ h6)⟩
      · exact O1.elim
    · exact O1.elim
  | _ => exact O1.elim

theorem asStrs_of {K : PySem.W.Frag} {Z φ : List Addr} {H : Hp} : ∀ {ds : List D} {vs : List V} {ys : List Str}, asStrs ds = some ys → RelDs K Z φ H ds vs → vs = ys.map V.str ∧ ∀ y ∈ ys, PyData.strOk y = true
  | [], _, _, e, h => by cases e; exact ⟨h, fun y hy => absurd hy (by simp)⟩
  | .str i :: r, _, _, e, h => by
    obtain ⟨v, u, rfl, h1, h2⟩ := (show ∃ v r', _ = v :: r' ∧ RelD K Z φ H (.str i) v ∧ RelDs K Z φ H r r' from h)
    obtain ⟨ns', e1, rfl⟩ := Option.map_eq_some_iff.mp (show (asStrs r).map (i :: ·) = some _ from e)
    obtain ⟨rfl, h3, _⟩ := (show v = V.str i ∧ PyData.strOk i = true ∧ i.length ≤ sizeLine from h1)
    obtain ⟨h4, h5⟩ := asStrs_of e1 h2
    rw [h4]
    exact ⟨rfl, fun y hy => (List.mem_cons.mp hy).elim (fun z => z ▸ h3) (h5 y)⟩
  | .int _ :: r, _, _, e, h => by cases e
  | .non :: r, _, _, e, h => by cases e
  | .bl _ :: r, _, _, e, h => by cases e
  | .tup _ :: r, _, _, e, h => by cases e
  | .lst _ :: r, _, _, e, h => by cases e
  | .dct _ _ :: r, _, _, e, h => by cases e
  | .set _ :: r, _, _, e, h => by cases e
  | .ref _ :: r, _, _, e, h => by cases e
  | .exc _ _ :: r, _, _, e, h => by cases e
  | .scr _ :: r, _, _, e, h => by cases e
theorem join_strOk {s : Str} (hs : PyData.strOk s = true) : ∀ ys : List Str, (∀ y ∈ ys, PyData.strOk y = true) → PyData.strOk (Str.join s ys) = true
  | [], _ => (by decide +kernel : PyData.strOk Str.empty = true)
  | [y], h => h y List.mem_cons_self
  | y :: z :: r, h => str_app (str_app (h y List.mem_cons_self) hs) (join_strOk hs (z :: r) fun x hx => h x (List.mem_cons_of_mem _ hx))
theorem join_len {s : Str} : ∀ ys : List Str, (Str.join s ys).length ≤ (ys.map (·.length)).sum + ys.length * s.length
  | [] => Nat.zero_le _
  | [y] => by show y.length ≤ _; simp
  | y :: z :: r => by
    show (y ++ s ++ Str.join s (z :: r)).length ≤ _
    rw [strLen_append, strLen_append]
    have := join_len (s := s) (z :: r)
    simp only [List.map_cons, List.sum_cons, List.length_cons] at this ⊢
    have e : (r.length + 1 + 1) * s.length = s.length + (r.length + 1) * s.length := by rw [Nat.succ_mul (r.length + 1)]; exact Nat.add_comm _ _
    omega
theorem ok_join {ap : Pos} (hb : isCallE a = false) (hl : (ap.endLine == pos.line) = true) (hs : isStar b = false) (ha : PE X a (tOf X.K B ca W cl ca')) (hbb : PE X b (tOf X.K B ca W cl cb')) : PE X (.Call (.Attribute a "join" ap) [b] [] pos) (tOf X.K B ca W cl (.join ca' cb')) := by
  refine (pe_join ha hbb (star_no hs) (attr_base hb) hl).imp fun σ H Q ⟨Z, φ, ρ, M, R, O⟩ => ?_
  simp only [ev] at O
  refine (tOf.step R O).mono fun x H1 ⟨φ1, M1, d1, R1, e1, r1, O1⟩ => ?_
  cases d1 with
  | str s =>
    obtain ⟨rfl, hs1, hs2⟩ := (show x = .str s ∧ PyData.strOk s = true ∧ s.length ≤ sizeLine from r1)
    refine ⟨⟨s, rfl⟩, ?_⟩
    refine (tOf.step R1 O1).mono fun y H2 ⟨φ2, M2, d2, R2, e2, r2, O2⟩ => ?_
    obtain ⟨d, e3, O2⟩ := O2.look
    have e3 : ((seqOf M2 d2).bind asStrs).bind (fun ys => if (ys.map (·.length)).sum + ys.length * s.length ≤ 16777216 then some (D.str (Str.join s ys)) else none) = some d := e3
    obtain ⟨ys, e4, e5⟩ := Option.bind_eq_some_iff.mp e3
    obtain ⟨xs, e6, e7⟩ := Option.bind_eq_some_iff.mp e4
    split at e5
    · rename_i hz
      cases e5
      obtain ⟨p, vs, rfl, h1, h2⟩ := seq_of R2 r2 e6
      obtain ⟨h3, h4⟩ := asStrs_of e7 h2
      rw [h3] at h1
      refine ⟨s, p, ys, rfl, rfl, h1, hz, ?_⟩
      rw [TL.join_eq]
      exact Out.ok O2 R2 _ ⟨rfl, join_strOk hs1 ys h4, Nat.le_trans (join_len ys) (Nat.le_trans hz (by decide))⟩
    · cases e5
  | _ => exact O1.elim
/-! ### calls of defs -/
def CEs.len : CEs → Nat
  | .nil => 0
  | .cons _ es => es.len + 1
theorem evs_len {ρ : Env} : ∀ {es : CEs} {M M' : MH} {ds : List D}, evs cl es ρ M = some (.ok ds M') → ds.length = es.len
  | .nil, M, M', ds, h => by
    simp only [evs, Option.some.injEq, Rs.ok.injEq] at h
    rw [← h.1]; rfl
  | .cons e es, M, M', ds, h => by
    simp only [evs] at h
    unfold Ev.bind at h
    cases h1 : ev cl e ρ M with
    | none => rw [h1] at h; cases h
    | some r =>
      rw [h1] at h
      cases r with
      | ex c d M1 => cases h
      | ok d M1 =>
        simp only at h
        cases h2 : evs cl es ρ M1 with
        | none => rw [h2] at h; cases h
        | some r =>
          rw [h2] at h
          cases r with
          | ex c d M1 => cases h
          | ok ds' M2 =>
            simp only [Option.some.injEq, Rs.ok.injEq] at h
            rw [← h.1, List.length_cons, evs_len h2]; rfl
theorem tOfs.stepN {K : PySem.W.Frag} {Z : List Addr} {φ : List Addr} {ρ : Env} {σ : L2.St} {H : Hp} {M : MH} {α : Type} {es : CEs} {f : List D → Ev α} {Q : α → MH → List Addr → Hp → Prop} (R : Rel K Z φ B ρ M σ H) (O : Out K Z B ca W ρ σ φ H (Ev.bind (evs cl es ρ) f M) Q) :
    tOfs K B ca W cl es σ H fun vs H1 => ∃ φ1 M1 ds, Rel K Z φ1 B ρ M1 σ H1 ∧ Ext Z φ H φ1 H1 ∧ RelDs K Z φ1 H1 ds vs ∧ ds.length = es.len ∧ Out K Z B ca W ρ σ φ1 H1 (f ds M1) Q := by
  refine ⟨Z, φ, ρ, M, R, ?_⟩
  have q := O.bind
  cases h : evs cl es ρ M with
  | none => rw [h] at q; exact q
  | some r =>
    rw [h] at q
    cases r with
    | ex c d M1 => exact q
    | ok ds M1 => exact fun φ1 H1 R1 e1 vs r => ⟨φ1, M1, ds, R1, e1, r, evs_len h, q φ1 H1 R1 e1⟩
theorem cList_len {r : Expr → Option CE} : ∀ {es : List Expr} {cs : CEs}, cList r es = some cs → cs.len = es.length
  | [], cs, h => by cases h; rfl
  | e :: es, cs, h => by
    unfold cList at h
    split at h
    · cases h
    · split at h
      · rename_i c cs' h1 h2
        cases h
        show cs'.len + 1 = _
        rw [cList_len h2]; rfl
      · cases h
theorem call_of {pins : List (Addr × Obj)} {σ : L2.St} {H : Hp} {s : Shared} {Q : VK} {us ws zs : List Value} {vs : List V} {f : Addr} {fd : FuncData} {ps ks : List Str} {sp : Sp} (o : XO X W ca cl k g S)
    (F : FnG X.prog X.w X.K X.mg X.base (L2.CX X.prog X.w) k f fd ps sp) (I : Inv X pins σ H s) (hb : zs.length = ps.length → BindsTo s fd ⟨us, ks.zip ws⟩ (ps.zip zs)) (r : Vals vs zs) (h : sp vs H Q (WE W σ)) :
    wpAny (model X.prog X.w) X.A (call (.ref f) us (ks.zip ws)) (EP X pins σ Q) X.xe s := by
  have hl : zs.length = ps.length := by rw [← r.length]; exact F.len _ _ _ _ h
  refine wpAny_call (codeAny_mono (F.run X.A X.stack s H ⟨us, ks.zip ws⟩ zs vs Q (WE W σ) o.room o.gd I.env0 (hb hl) r h) fun r s' hq => ?_)
  cases r with
  | error e => exact passAt o.takes σ pins H s e s' I hq
  | ok fl =>
    cases fl with
    | ret u => exact I.after hq
    | next => exact False.elim hq
    | brk => exact False.elim hq
    | cont => exact False.elim hq
theorem permD_range {ds : List D} : ∀ (n m : Nat), n + m = ds.length → permD ds ((List.range' n m)) = some (ds.drop n)
  | n, 0, h => by
    rw [List.drop_eq_nil_of_le (by omega)]; rfl
  | n, m + 1, h => by
    rw [List.range'_succ]
    unfold permD
    have hn : n < ds.length := by omega
    rw [permD_range (n + 1) m (by omega), List.getElem?_eq_getElem hn]
    show some (ds[n] :: ds.drop (n + 1)) = _
    rw [List.drop_eq_getElem_cons hn]
theorem permD_all {ds : List D} {n : Nat} (h : ds.length = n) : permD ds (List.range n) = some ds := by
  rw [List.range_eq_range', permD_range 0 n (by omega), List.drop_zero]
theorem permD_rel {K : PySem.W.Frag} {Z φ : List Addr} {H : Hp} {ds : List D} {vs : List V} (h : RelDs K Z φ H ds vs) : ∀ {is : List Nat} {es : List D}, permD ds is = some es → ∃ ws, RelDs K Z φ H es ws ∧ is.mapM (fun i => vs[i]?) = some ws ∧ es.length = is.length
  | [], es, e => by cases e; exact ⟨[], rfl, rfl, rfl⟩
  | i :: is, es, e => by
    unfold permD at e
    split at e
    · rename_i d r h1 h2
      cases e
      obtain ⟨ws, h3, h4, h5⟩ := permD_rel h h2
      obtain ⟨v, h6, h7⟩ := h.get h1
      exact ⟨v :: ws, ⟨v, ws, rfl, h7, h3⟩, by simp [List.mapM_cons, h6, h4], by simp [h5]⟩
    · cases e
theorem vals_perm {vs : List V} {us : List Value} (r : Vals vs us) : ∀ {is : List Nat} {ws : List V}, is.mapM (fun i => vs[i]?) = some ws → ∃ zs, is.mapM (fun i => us[i]?) = some zs ∧ Vals ws zs
  | [], ws, e => by
    have : ws = [] := by simpa using e.symm
    subst this
    exact ⟨[], rfl, .nil⟩
  | i :: is, ws, e => by
    simp only [List.mapM_cons, Option.pure_def, Option.bind_eq_bind, Option.bind_eq_some_iff] at e
    obtain ⟨v, h1, ws', h2, h3⟩ := e
    cases h3
    obtain ⟨zs, h4, h5⟩ := vals_perm r h2
    obtain ⟨u, h6, h7⟩ := r.get h1
    exact ⟨u :: zs, by simp [List.mapM_cons, h6, h4], .cons h7 h5⟩
theorem ok_call (o : XO X W ca cl k g S) {x : Str} {p : Pos} {args : List Expr} {cs : CEs} {f : Nat} {ps : List Str} (hn : nameOk x = true) (hg : glB S.sc x = true) (hf : g.fns[f]? = some (x, ps)) (hl : cs.len = ps.length) (hla : cs.len = args.length)
    (ha : PA X args (tOfs X.K B ca W cl cs)) (hs : ∀ e ∈ args, isStar e = false) : PE X (.Call (.Name x p) args [] pos) (tOf X.K B ca W cl (.call f cs (List.range ps.length))) := by
  obtain ⟨n1, n2, n3⟩ := nameOk_d hn
  obtain ⟨fa, fd, hm, hk, F, hb, _⟩ := (o.go.call f x ps hf).ex
  refine ⟨fun pins s σ H Q I ⟨Z, φ, ρ, M, R, O⟩ => ?_⟩
  simp only [ev] at O
  have h1 := tOfs.stepN R O
  refine wpAny_Call_Name_kw (ld_glob I (o.gl hg) hm ?_ n1)
  have fin : ∀ {us : List Value} {vs : List V} {s2 : Shared} {H2 : Hp} {φ2 : List Addr} {M2 : MH} {ds : List D}, Inv X pins σ H2 s2 → Vals vs us → Rel X.K Z φ2 B ρ M2 σ H2 → RelDs X.K Z φ2 H2 ds vs → ds.length = cs.len →
      Out X.K Z B ca W ρ σ φ2 H2 (Ev.bind (Ev.lift (permD ds (List.range ps.length))) (fun ds => cl f ds) M2) (fun d _ φ' H' => ∀ v, RelD X.K Z φ' H' d v → Q v H') → wpAny (model X.prog X.w) X.A (call (.ref fa) us) (EP X pins σ Q) X.xe s2 := by
    intro us vs s2 H2 φ2 M2 ds I2 r1 R2 d1 l1 O2
    rw [permD_all (l1.trans hl)] at O2
    have O2 : Out X.K Z B ca W ρ σ φ2 H2 (cl f ds M2) (fun d _ φ' H' => ∀ v, RelD X.K Z φ' H' d v → Q v H') := O2
    have := call_of (us := us) (ws := []) (ks := []) (zs := us) o F I2 (fun hl' => by
      have q := hb s2 us I2.kIn (by rw [List.append_nil]; exact hl')
      rw [List.append_nil] at q
      exact q) r1 (Q := Q) ⟨Z, φ2, B, ρ, M2, σ, ds, R2, d1, l1.trans hl, O2⟩
    exact this
  cases args with
  | nil =>
    have hcs : cs = .nil := by
      cases cs with
      | nil => rfl
      | cons e es => exact absurd hla (by show ¬ (es.len + 1 = 0); omega)
    subst hcs
    refine PySem.W.callWith_K0 I.kIn hk ?_
    refine fin (us := [] ++ []) (vs := []) (ds := []) I .nil R rfl rfl ?_
    have := O.bind
    simp only [evs] at this
    exact Out.ok this R
  | cons e es =>
    have he := star_no (es := es) (env := X.env) (hs e List.mem_cons_self)
    have hp := back_plain (pos := pos) (env := X.env) (es := es) fun x hx => hs x (List.mem_cons_of_mem _ hx)
    refine PySem.W.callWith_K (h₀ := X.base) I.ok.mod.kin hk (thn (ha.run pos pins s σ H _ I h1) fun us s1 ⟨vs, H1, I1, r, φ1, M1, ds, R1, e1, r1, hlen, O1⟩ => ⟨I1.kIn, ?_⟩) he hp
    exact fin I1 r R1 r1 hlen O1
theorem evs_app {ρ : Env} : ∀ (es fs : CEs), evs cl (es.app fs) ρ = Ev.bind (evs cl es ρ) fun ds => Ev.bind (evs cl fs ρ) fun gs => Ev.pure (ds ++ gs)
  | .nil, fs => by
    funext M
    simp only [CEs.app, evs, Ev.bind, Ev.pure]
    cases h : evs cl fs ρ M with
    | none => rfl
    | some r => cases r <;> simp
  | .cons e es, fs => by
    funext M
    have ih := evs_app (ρ := ρ) es fs
    simp only [CEs.app, evs, ih]
    simp only [Ev.bind, Ev.pure]
    cases h : ev cl e ρ M with
    | none => rfl
    | some r =>
      cases r with
      | ex c d M1 => rfl
      | ok d M1 =>
        simp only
        cases h2 : evs cl es ρ M1 with
        | none => rfl
        | some r =>
          cases r with
          | ex c d M1 => rfl
          | ok ds M2 =>
            simp only
            cases h3 : evs cl fs ρ M2 with
            | none => rfl
            | some r =>
              cases r with
              | ex c d M1 => rfl
              | ok ds M2 => rfl
theorem ok_kws {r : Expr → Option CE} (ih : ∀ e c, r e = some c → EOk X W ca cl B e c) : ∀ {ks : List Keyword} {cs : CEs}, cKws r ks = some cs → PK X ks (tOfs X.K B ca W cl cs) ∧ cs.len = ks.length
  | [], cs, h => by
    cases h
    exact ⟨⟨fun pos pins s σ H Q I ⟨Z, φ, ρ, M, R, O⟩ => pk_nil.run pos pins s σ H Q I (by
      simp only [evs] at O
      exact Out.ok O R _ rfl)⟩, rfl⟩
  | ⟨nm, e, kp⟩ :: ks, cs, h => by
    unfold cKws at h
    split at h
    · rename_i c cs' h1 h2
      cases h
      have q1 := ih e c h1
      obtain ⟨q2, q3⟩ := ok_kws ih h2
      refine ⟨⟨fun pos pins s σ H Q I ⟨Z, φ, ρ, M, R, O⟩ => (pk_cons q1.pe q2).run pos pins s σ H Q I ?_⟩, by show cs'.len + 1 = _; rw [q3]; rfl⟩
      simp only [evs] at O
      refine (tOf.step R O).mono fun x H1 ⟨φ1, M1, d1, R1, e1, r1, O1⟩ => ?_
      refine (tOfs.step R1 O1).mono fun xs H2 ⟨φ2, M2, ds, R2, e2, r2, O2⟩ => ?_
      exact Out.ok O2 R2 _ ⟨x, xs, rfl, RelD.ext e2 _ _ r1, r2⟩
    · cases h
theorem kwNames_len : ∀ {ks : List Keyword} {ns : List Str}, kwNames ks = some ns → ns.length = ks.length
  | [], _, h => by cases h; rfl
  | ⟨some x, v, p⟩ :: kws, ns, h => by
    obtain ⟨ns', e, rfl⟩ := Option.map_eq_some_iff.mp (show (kwNames kws).map (x :: ·) = some ns from h)
    simp [kwNames_len e]
  | ⟨none, v, p⟩ :: kws, ns, h => by cases h
theorem ok_callK (o : XO X W ca cl k g S) {x : Str} {p : Pos} {args : List Expr} {kws : List Keyword} {cs ks : CEs} {ns : List Str} {f : Nat} {ps : List Str} {perm : List Nat} (hn : nameOk x = true) (hg : glB S.sc x = true) (hf : g.fns[f]? = some (x, ps)) (hl : cs.len = args.length)
    (ha : PA X args (tOfs X.K B ca W cl cs)) (hs : ∀ e ∈ args, isStar e = false) (hk : PK X kws (tOfs X.K B ca W cl ks)) (hkl : ks.len = kws.length) (hns : kwNames kws = some ns) (hp : (f, args.length, ns, perm) ∈ g.kws) :
    PE X (.Call (.Name x p) args kws pos) (tOf X.K B ca W cl (.call f (cs.app ks) perm)) := by
  obtain ⟨n1, n2, n3⟩ := nameOk_d hn
  obtain ⟨fa, fd, hm, hkp, F, hb, hkw⟩ := (o.go.call f x ps hf).ex
  obtain ⟨hpl, hbind⟩ := hkw _ _ _ hp
  obtain ⟨w1, w2, w3⟩ := kw_facts (pos := pos) (env := X.env) hns
  refine ⟨fun pins s σ H Q I ⟨Z, φ, ρ, M, R, O⟩ => ?_⟩
  simp only [ev, evs_app] at O
  -- the arguments, then the keywords, then the call
  have O1 : Out X.K Z B ca W ρ σ φ H (Ev.bind (evs cl cs ρ) (fun ds => Ev.bind (evs cl ks ρ) fun gs => Ev.bind (Ev.lift (permD (ds ++ gs) perm)) fun ds => cl f ds) M) fun d _ φ' H' => ∀ v, RelD X.K Z φ' H' d v → Q v H' := by
    have e : (Ev.bind (Ev.bind (evs cl cs ρ) fun ds => Ev.bind (evs cl ks ρ) fun gs => Ev.pure (ds ++ gs)) fun ds => Ev.bind (Ev.lift (permD ds perm)) fun ds => cl f ds) M =
        (Ev.bind (evs cl cs ρ) (fun ds => Ev.bind (evs cl ks ρ) fun gs => Ev.bind (Ev.lift (permD (ds ++ gs) perm)) fun ds => cl f ds) M) := by
      simp only [Ev.bind, Ev.pure]
      cases evs cl cs ρ M with
      | none => rfl
      | some r =>
        cases r with
        | ex c d M1 => rfl
        | ok ds M1 =>
          simp only
          cases evs cl ks ρ M1 with
          | none => rfl
          | some r => cases r <;> rfl
    rw [e] at O
    exact O
  have h1 := tOfs.stepN R O1
  have fin : ∀ {us ws : List Value} {vs zs : List V} {s2 : Shared} {H2 : Hp} {φ2 : List Addr} {M2 : MH} {ds gs : List D}, Inv X pins σ H2 s2 → Vals vs us → Vals zs ws → Rel X.K Z φ2 B ρ M2 σ H2 → RelDs X.K Z φ2 H2 ds vs → RelDs X.K Z φ2 H2 gs zs → ds.length = args.length → gs.length = ns.length →
      Out X.K Z B ca W ρ σ φ2 H2 (Ev.bind (Ev.lift (permD (ds ++ gs) perm)) (fun ds => cl f ds) M2) (fun d _ φ' H' => ∀ v, RelD X.K Z φ' H' d v → Q v H') → wpAny (model X.prog X.w) X.A (call (.ref fa) us (ns.zip ws)) (EP X pins σ Q) X.xe s2 := by
    intro us ws vs zs s2 H2 φ2 M2 ds gs I2 r1 r2 R2 d1 d2 l1 l2 O2
    have O2 := O2.bind
    obtain ⟨es, e1, O2⟩ := O2.lift
    have O2 := Out.ok O2 R2
    obtain ⟨xs, h3, h4, h5⟩ := permD_rel (d1.app d2) e1
    obtain ⟨zs', h6, h7⟩ := vals_perm (r1.append r2) h4
    refine call_of o F I2 (fun _ => hbind s2 us ws zs' ?_ ?_ h6) h7 ⟨Z, φ2, B, ρ, M2, σ, es, R2, h3, h5.trans hpl, O2⟩
    · rw [← r1.length, d1.length]; exact l1
    · rw [← r2.length, d2.length]; exact l2
  refine wpAny_Call_Name_kw (ld_glob I (o.gl hg) hm ?_ n1)
  have l2 : ks.len = ns.length := by rw [hkl, kwNames_len hns]
  cases args with
  | nil =>
    refine PySem.W.callWith_KW0 (h₀ := X.base) I.ok.mod.kin hkp w1 ?_ (by rw [w3]; rfl)
    -- no argument by place
    have hcs : cs = .nil := by
      cases cs with
      | nil => rfl
      | cons e es => exact absurd hl (by show ¬ (es.len + 1 = 0); omega)
    subst hcs
    simp only [evs] at O1
    have O2 : Out X.K Z B ca W ρ σ φ H (Ev.bind (evs cl ks ρ) (fun gs => Ev.bind (Ev.lift (permD ([] ++ gs) perm)) fun ds => cl f ds) M) fun d _ φ' H' => ∀ v, RelD X.K Z φ' H' d v → Q v H' := O1
    refine thn (hk.run pos pins s σ H _ I (tOfs.stepN R O2)) fun ws s2 ⟨zs, H2, I2, rz, φ2, M2, gs, R2, e2, d2, lg, q2⟩ => ⟨I2.kIn, ?_⟩
    rw [w2]
    exact fin (us := []) (vs := []) (ds := []) I2 .nil rz R2 rfl d2 rfl (lg.trans l2) q2
  | cons e es =>
    have he := star_no (es := es) (env := X.env) (hs e List.mem_cons_self)
    have hp' := back_plain (pos := pos) (env := X.env) (es := e :: es) hs
    refine PySem.W.callWith_KW (h₀ := X.base) I.ok.mod.kin hkp w1 (thn (ha.run pos pins s σ H _ I h1) fun us s1 ⟨vs, H1, I1, r, φ1, M1, ds, R1, e1, d1, ld, q⟩ => ?_) (by rw [hp', w3]; rfl) he
    refine thn (hk.run pos pins s1 σ H1 _ I1 (tOfs.stepN R1 q)) fun ws s2 ⟨zs, H2, I2, rz, φ2, M2, gs, R2, e2, d2, lg, q2⟩ => ⟨I2.kIn, ?_⟩
    rw [w2]
    exact fin I2 r rz R2 (RelDs.ext e2 _ _ d1) d2 (ld.trans hl) (lg.trans l2) q2
end
end MP

set_option Elab.async false
set_option linter.all false
set_option maxRecDepth 100000
set_option maxHeartbeats 1000000
namespace MP
open PySem PySem.Spec PyProof.Rows L2
section
variable {K : PySem.W.Frag} {Z Z' φ φ' : List Addr} {H H' : Hp}
/-- what stands still stays (more may be kept back) -/
structure Kp (Z φ : List Addr) (H : Hp) (Z' φ' : List Addr) (H' : Hp) : Prop where
  pre : ∃ more, φ' = φ ++ more
  keep : ∀ a o, H a = some o → Nf Z φ a → H' a = some o ∧ Nf Z' φ' a
theorem Ext.kp (e : Ext Z φ H φ' H') : Kp Z φ H Z φ' H' := ⟨e.pre, e.keep⟩
theorem Kp.trans {Z'' φ'' : List Addr} {H'' : Hp} (a : Kp Z φ H Z' φ' H') (b : Kp Z' φ' H' Z'' φ'' H'') : Kp Z φ H Z'' φ'' H'' := by
  obtain ⟨m, rfl⟩ := a.pre
  obtain ⟨m', rfl⟩ := b.pre
  exact ⟨⟨m ++ m', by rw [List.append_assoc]⟩, fun c o h n => let ⟨h1, n1⟩ := a.keep c o h n; b.keep c o h1 n1⟩
theorem Kp.get (e : Kp Z φ H Z' φ' H') {n : Nat} {a : Addr} (h : φ[n]? = some a) : φ'[n]? = some a := by
  obtain ⟨m, rfl⟩ := e.pre
  rw [List.getElem?_append_left (List.getElem?_eq_some_iff.mp h).1]
  exact h
theorem TupAt.kp (e : Kp Z φ H Z' φ' H') {a : Addr} {xs : List V} (h : TupAt K Z φ H a xs) : TupAt K Z' φ' H' a xs := h.imp (fun h => e.keep _ _ h.1 h.2) id
theorem LstAt.kp (e : Kp Z φ H Z' φ' H') {a : Addr} {xs : List V} (h : LstAt K Z φ H a xs) : LstAt K Z' φ' H' a xs := h.imp (fun h => by
  rcases h with ⟨h | ⟨q, h⟩, n⟩
  · exact ⟨.inl (e.keep _ _ h n).1, (e.keep _ _ h n).2⟩
  · exact ⟨.inr ⟨q, (e.keep _ _ h n).1⟩, (e.keep _ _ h n).2⟩) id
mutual
theorem RelD.kp (e : Kp Z φ H Z' φ' H') : ∀ (d : D) (v : V), RelD K Z φ H d v → RelD K Z' φ' H' d v
  | .non, v, h => h
  | .bl b, v, h => h
  | .int i, v, h => h
  | .str s, v, h => h
  | .tup xs, v, h => by
    obtain ⟨a, vs, h1, h2, h4⟩ := (show ∃ a vs, v = .ref a ∧ TupAt K Z φ H a vs ∧ RelDs K Z φ H xs vs from h)
    exact ⟨a, vs, h1, h2.kp e, RelDs.kp e xs vs h4⟩
  | .lst xs, v, h => by
    obtain ⟨a, vs, h1, h2, h3, h4⟩ := (show ∃ a vs, v = .ref a ∧ H a = some (.lst vs) ∧ Nf Z φ a ∧ RelDs K Z φ H xs vs from h)
    exact ⟨a, vs, h1, (e.keep _ _ h2 h3).1, (e.keep _ _ h2 h3).2, RelDs.kp e xs vs h4⟩
  | .ref n, v, h => by
    obtain ⟨a, h1, h2⟩ := (show ∃ a, φ[n]? = some a ∧ v = .ref a from h)
    exact ⟨a, e.get h1, h2⟩
  | .dct _ _, v, h => h
  | .set _, v, h => h
  | .exc x y, v, h => by
    obtain ⟨a, dx, w, h1, h2, h3, h4, h5, h6⟩ := (show ∃ a dx w, (v = .ref a ∧ ExcRd K (He.ga K x)) ∧ H a = some (xcO (He.ga K x) dx a) ∧ Nf Z φ a ∧ H dx = some (.xd [(("value" : Str), w)]) ∧ Nf Z φ dx ∧ RelD K Z φ H y w from h)
    exact ⟨a, dx, w, h1, (e.keep _ _ h2 h3).1, (e.keep _ _ h2 h3).2, (e.keep _ _ h4 h5).1, (e.keep _ _ h4 h5).2, RelD.kp e y w h6⟩
  | .scr ns, v, h => by
    obtain ⟨a, h1, h2⟩ := (show ∃ a, v = .ref a ∧ LstAt K Z φ H a (ns.map V.int) from h)
    exact ⟨a, h1, h2.kp e⟩
theorem RelDs.kp (e : Kp Z φ H Z' φ' H') : ∀ (ds : List D) (vs : List V), RelDs K Z φ H ds vs → RelDs K Z' φ' H' ds vs
  | [], vs, h => h
  | d :: ds, vs, h => by
    obtain ⟨v, r, h1, h2, h3⟩ := (show ∃ v r, vs = v :: r ∧ RelD K Z φ H d v ∧ RelDs K Z φ H ds r from h)
    exact ⟨v, r, h1, RelD.kp e d v h2, RelDs.kp e ds r h3⟩
end
theorem LstAt.of {a : Addr} {xs : List V} (h : H a = some (.lst xs)) (n : Nf Z φ a) : LstAt K Z φ H a xs := .inl ⟨.inl h, n⟩
/-- an iterator that gives what the evaluator's walk gives -/
def WalkR (K : PySem.W.Frag) (J : It) (w : Wk) (Z φ : List Addr) (H : Hp) : Prop :=
  ∀ (Z' φ' : List Addr) (H' : Hp) (B : List Nat) (ρ : Env) (M : MH) (σ : L2.St) (i : Nat), Kp Z φ H Z' φ' H' → Rel K Z' φ' B ρ M σ H' →
    (itemW M w i = some none → J.stop i H') ∧
    ∀ d, itemW M w i = some (some d) → J.go i H' ∧ ∀ x H'', J.yld i H' x H'' → (H'' = H' ∧ RelD K Z' φ' H' d x) ∨ ∃ T vs ds, H' T = none ∧ H'' = upd H' T (.tup vs) ∧ x = .ref T ∧ d = .tup ds ∧ RelDs K Z' φ' H' ds vs
/-- a list that is walked; a tuple -/
def LsR (K : PySem.W.Frag) (Z φ : List Addr) (H : Hp) (s : Src) (a : Addr) : Prop :=
  (∃ xs vs, s = .fix xs ∧ LstAt K Z φ H a vs ∧ RelDs K Z φ H xs vs) ∨ ∃ n, s = .dyn n ∧ φ[n]? = some a
def TpR (K : PySem.W.Frag) (Z φ : List Addr) (H : Hp) (s : Src) (a : Addr) : Prop := ∃ xs vs, s = .fix xs ∧ TupAt K Z φ H a vs ∧ RelDs K Z φ H xs vs
theorem fix_item {xs : List D} {vs : List V} {i : Nat} {o : Option D} (r : RelDs K Z φ H xs vs) (e : some xs[i]? = some o) : (o = none → vs.length ≤ i) ∧ ∀ d, o = some d → ∃ v, vs[i]? = some v ∧ RelD K Z φ H d v := by
  have e : xs[i]? = o := Option.some.inj e
  refine ⟨fun ho => ?_, fun d hd => r.get (by rw [e, hd])⟩
  rw [ho] at e
  rw [r.length]
  exact List.getElem?_eq_none_iff.mp e
theorem ls_item {s : Src} {a : Addr} {B : List Nat} {ρ : Env} {M : MH} {σ : L2.St} {i : Nat} {o : Option D} (h : LsR K Z φ H s a) (k : Kp Z φ H Z' φ' H') (R : Rel K Z' φ' B ρ M σ H') (e : itemS M s i = some o) :
    ∃ vs, SqL K H' a vs ∧ (o = none → vs.length ≤ i) ∧ ∀ d, o = some d → ∃ v, vs[i]? = some v ∧ RelD K Z' φ' H' d v := by
  rcases h with ⟨xs, vs, rfl, h1, h2⟩ | ⟨n, rfl, h1⟩
  · exact ⟨vs, (h1.kp k).sq, fix_item (RelDs.kp k _ _ h2) e⟩
  · unfold itemS at e
    split at e
    · rename_i q; cases q
    · rename_i q; cases q
      split at e
      · rename_i ys hy
        obtain ⟨vs, h3, h4⟩ := R.obj n a _ (k.get h1) hy
        exact ⟨vs, SqL.of h3, fix_item h4 e⟩
      · cases e
theorem tp_item {s : Src} {a : Addr} {M : MH} {i : Nat} {o : Option D} (h : TpR K Z φ H s a) (k : Kp Z φ H Z' φ' H') (e : itemS M s i = some o) :
    ∃ vs, SqT K H' a vs ∧ (o = none → vs.length ≤ i) ∧ ∀ d, o = some d → ∃ v, vs[i]? = some v ∧ RelD K Z' φ' H' d v := by
  obtain ⟨xs, vs, rfl, h1, h2⟩ := h
  exact ⟨vs, (h1.kp k).sq, fix_item (RelDs.kp k _ _ h2) e⟩
theorem walkR_list {s : Src} {a : Addr} (h : LsR K Z φ H s a) : WalkR K (Itl K a) (.one s) Z φ H := fun Z' φ' H' B ρ M σ i k R => by
  refine ⟨fun e => ?_, fun d e => ?_⟩
  · obtain ⟨vs, h1, h2, _⟩ := ls_item h k R (show itemS M s i = some none from e)
    exact ⟨vs, h1, h2 rfl⟩
  · obtain ⟨vs, h1, _, h2⟩ := ls_item h k R (show itemS M s i = some (some d) from e)
    obtain ⟨v, h3, h4⟩ := h2 d rfl
    refine ⟨⟨vs, v, h1, h3⟩, fun x H'' y => .inl ⟨y.1, ?_⟩⟩
    have := y.2 vs h1
    rw [h3] at this
    cases this
    exact h4
theorem walkR_tup {s : Src} {a : Addr} (h : TpR K Z φ H s a) : WalkR K (Itt K a) (.one s) Z φ H := fun Z' φ' H' B ρ M σ i k R => by
  refine ⟨fun e => ?_, fun d e => ?_⟩
  · obtain ⟨vs, h1, h2, _⟩ := tp_item h k (show itemS M s i = some none from e)
    exact ⟨vs, h1, h2 rfl⟩
  · obtain ⟨vs, h1, _, h2⟩ := tp_item h k (show itemS M s i = some (some d) from e)
    obtain ⟨v, h3, h4⟩ := h2 d rfl
    refine ⟨⟨vs, v, h1, h3⟩, fun x H'' y => .inl ⟨y.1, ?_⟩⟩
    have := y.2 vs h1
    rw [h3] at this
    cases this
    exact h4
theorem walkR_str {z : Str} (h : PyData.strOk z = true) : WalkR K (Its z) (.one (.fix (z.cps.toList.map fun c => D.str ⟨#[c]⟩))) Z φ H := fun Z' φ' H' B ρ M σ i k R => by
  refine ⟨fun e => ?_, fun d e => ?_⟩
  · have e : (z.cps.toList.map fun c => D.str ⟨#[c]⟩)[i]? = none := Option.some.inj e
    have := List.getElem?_eq_none_iff.mp e
    rw [List.length_map, Array.length_toList] at this
    exact this
  · have e : (z.cps.toList.map fun c => D.str ⟨#[c]⟩)[i]? = some d := Option.some.inj e
    rw [List.getElem?_map] at e
    obtain ⟨c, hc, rfl⟩ := Option.map_eq_some_iff.mp e
    rw [Array.getElem?_toList] at hc
    refine ⟨(Array.getElem?_eq_some_iff.mp hc).1, fun x H'' y => .inl ⟨y.1, ?_⟩⟩
    obtain ⟨_, c', hc', rfl⟩ := y
    rw [hc] at hc'; cases hc'
    exact ⟨rfl, strOk_one h (List.mem_of_getElem? (by rw [Array.getElem?_toList]; exact hc)), one_fits⟩
theorem walkR_range {lo hi : Int} : WalkR K (Itr lo (hi - lo).toNat) (.one (.fix (rangeD lo hi))) Z φ H := fun Z' φ' H' B ρ M σ i k R => by
  refine ⟨fun e => ?_, fun d e => ?_⟩
  · have e : (rangeD lo hi)[i]? = none := Option.some.inj e
    have := List.getElem?_eq_none_iff.mp e
    unfold rangeD at this
    rw [List.length_map, List.length_range] at this
    exact this
  · have e : (rangeD lo hi)[i]? = some d := Option.some.inj e
    unfold rangeD at e
    rw [List.getElem?_map] at e
    obtain ⟨j, hj, rfl⟩ := Option.map_eq_some_iff.mp e
    have hlt : i < (hi - lo).toNat := by
      have := (List.getElem?_eq_some_iff.mp hj).1
      simpa using this
    rw [List.getElem?_range hlt] at hj
    cases hj
    exact ⟨hlt, fun x H'' y => .inl ⟨y.1, y.2⟩⟩
theorem walkR_enum {s : Src} {a : Addr} (h : LsR K Z φ H s a) : WalkR K (Ite K a) (.enum s) Z φ H := fun Z' φ' H' B ρ M σ i k R => by
  refine ⟨fun e => ?_, fun d e => ?_⟩
  · unfold itemW at e
    simp only at e
    split at e
    · cases e
    · rename_i e1
      obtain ⟨vs, h1, h2, _⟩ := ls_item h k R e1
      exact ⟨vs, h1, h2 rfl⟩
    · cases e
  · unfold itemW at e
    simp only at e
    split at e
    · rename_i d0 e1
      cases e
      obtain ⟨vs, h1, _, h2⟩ := ls_item h k R e1
      obtain ⟨v, h3, h4⟩ := h2 d0 rfl
      refine ⟨⟨vs, v, h1, h3⟩, fun x H'' y => ?_⟩
      obtain ⟨T, u, rfl, hT, rfl, hu⟩ := y
      have hu := hu vs h1
      rw [h3] at hu
      cases hu
      exact .inr ⟨T, _, _, hT, rfl, rfl, rfl, ⟨_, _, rfl, rfl, _, [], rfl, h4, rfl⟩⟩
    · cases e
    · cases e
theorem walkR_enumT {s : Src} {a : Addr} (h : TpR K Z φ H s a) : WalkR K (IteT K a) (.enum s) Z φ H := fun Z' φ' H' B ρ M σ i k R => by
  refine ⟨fun e => ?_, fun d e => ?_⟩
  · unfold itemW at e
    simp only at e
    split at e
    · cases e
    · rename_i e1
      obtain ⟨vs, h1, h2, _⟩ := tp_item h k e1
      exact ⟨vs, h1, h2 rfl⟩
    · cases e
  · unfold itemW at e
    simp only at e
    split at e
    · rename_i d0 e1
      cases e
      obtain ⟨vs, h1, _, h2⟩ := tp_item h k e1
      obtain ⟨v, h3, h4⟩ := h2 d0 rfl
      refine ⟨⟨vs, v, h1, h3⟩, fun x H'' y => ?_⟩
      obtain ⟨T, u, rfl, hT, rfl, hu⟩ := y
      have hu := hu vs h1
      rw [h3] at hu
      cases hu
      exact .inr ⟨T, _, _, hT, rfl, rfl, rfl, ⟨_, _, rfl, rfl, _, [], rfl, h4, rfl⟩⟩
    · cases e
    · cases e
theorem zip_item {M : MH} {s t : Src} {i : Nat} {o : Option D} (e : itemW M (.zip s t) i = some o) : ∃ p q, itemS M s i = some p ∧ itemS M t i = some q ∧ (o = none → p = none ∨ q = none) ∧ ∀ d, o = some d → ∃ x y, p = some x ∧ q = some y ∧ d = .tup [x, y] := by
  unfold itemW at e
  simp only at e
  cases h1 : itemS M s i with
  | none => rw [h1] at e; simp at e
  | some p =>
    cases h2 : itemS M t i with
    | none => rw [h1, h2] at e; cases p <;> simp at e
    | some q =>
      refine ⟨p, q, rfl, rfl, ?_, ?_⟩ <;> rw [h1, h2] at e
      · rintro rfl
        cases p with
        | none => exact .inl rfl
        | some p => cases q with
          | none => exact .inr rfl
          | some q => simp at e
      · rintro d rfl
        cases p with
        | none => simp at e
        | some p => cases q with
          | none => simp at e
          | some q =>
            simp at e
            exact ⟨p, q, rfl, rfl, e.symm⟩
theorem walkR_zip {s t : Src} {a c : Addr} (h : LsR K Z φ H s a) (h' : LsR K Z φ H t c) : WalkR K (Itz K a c) (.zip s t) Z φ H := fun Z' φ' H' B ρ M σ i k R => by
  refine ⟨fun e => ?_, fun d e => ?_⟩
  · obtain ⟨p, q, e1, e2, e3, _⟩ := zip_item e
    obtain ⟨vs, h1, h2, _⟩ := ls_item h k R e1
    obtain ⟨ws, h3, h4, _⟩ := ls_item h' k R e2
    exact ⟨vs, ws, h1, h3, (e3 rfl).imp h2 h4⟩
  · obtain ⟨p, q, e1, e2, _, e3⟩ := zip_item e
    obtain ⟨x, y, rfl, rfl, rfl⟩ := e3 d rfl
    obtain ⟨vs, h1, _, h2⟩ := ls_item h k R e1
    obtain ⟨ws, h3, _, h4⟩ := ls_item h' k R e2
    obtain ⟨v, h5, h6⟩ := h2 x rfl
    obtain ⟨u, h7, h8⟩ := h4 y rfl
    refine ⟨⟨vs, ws, v, u, h1, h3, h5, h7⟩, fun x H'' y => ?_⟩
    obtain ⟨T, v', u', rfl, hT, rfl, hv, hu⟩ := y
    have hv := hv vs h1
    have hu := hu ws h3
    rw [h5] at hv; rw [h7] at hu
    cases hv; cases hu
    exact .inr ⟨T, _, _, hT, rfl, rfl, rfl, ⟨_, _, rfl, h6, _, [], rfl, h8, rfl⟩⟩
theorem walkR_zipT {s t : Src} {a c : Addr} (h : TpR K Z φ H s a) (h' : TpR K Z φ H t c) : WalkR K (RZ.ItzT K a c) (.zip s t) Z φ H := fun Z' φ' H' B ρ M σ i k R => by
  refine ⟨fun e => ?_, fun d e => ?_⟩
  · obtain ⟨p, q, e1, e2, e3, _⟩ := zip_item e
    obtain ⟨vs, h1, h2, _⟩ := tp_item h k e1
    obtain ⟨ws, h3, h4, _⟩ := tp_item h' k e2
    exact ⟨vs, ws, h1, h3, (e3 rfl).imp h2 h4⟩
  · obtain ⟨p, q, e1, e2, _, e3⟩ := zip_item e
    obtain ⟨x, y, rfl, rfl, rfl⟩ := e3 d rfl
    obtain ⟨vs, h1, _, h2⟩ := tp_item h k e1
    obtain ⟨ws, h3, _, h4⟩ := tp_item h' k e2
    obtain ⟨v, h5, h6⟩ := h2 x rfl
    obtain ⟨u, h7, h8⟩ := h4 y rfl
    refine ⟨⟨vs, ws, v, u, h1, h3, h5, h7⟩, fun x H'' y => ?_⟩
    obtain ⟨T, v', u', rfl, hT, rfl, hv, hu⟩ := y
    have hv := hv vs h1
    have hu := hu ws h3
    rw [h5] at hv; rw [h7] at hu
    cases hv; cases hu
    exact .inr ⟨T, _, _, hT, rfl, rfl, rfl, ⟨_, _, rfl, h6, _, [], rfl, h8, rfl⟩⟩
/-- a value that is walked, where it stands -/
theorem src_lst {B : List Nat} {ρ : Env} {M : MH} {σ : L2.St} {d : D} {v : V} {s : Src} (R : Rel K Z φ B ρ M σ H) (r : RelD K Z φ H d v) (e : srcOf M d = some s) (l : isLstD d = true) : ∃ a, v = .ref a ∧ LsR K Z φ H s a ∧ ∃ vs, SqL K H a vs := by
  cases d with
  | lst xs =>
    cases e
    obtain ⟨a, vs, h1, h2, h3, h4⟩ := (show ∃ a vs, v = .ref a ∧ H a = some (.lst vs) ∧ Nf Z φ a ∧ RelDs K Z φ H xs vs from r)
    exact ⟨a, h1, .inl ⟨xs, vs, rfl, .of h2 h3, h4⟩, vs, SqL.of h2⟩
  | ref n =>
    unfold srcOf at e
    simp only at e
    split at e
    · rename_i xs hx
      cases e
      obtain ⟨a, h1, h2⟩ := (show ∃ a, φ[n]? = some a ∧ v = .ref a from r)
      obtain ⟨vs, h3, _⟩ := R.obj n a _ h1 hx
      exact ⟨a, h2, .inr ⟨n, rfl, h1⟩, vs, SqL.of h3⟩
    · cases e
  | scr ns =>
    cases e
    obtain ⟨a, h1, h2⟩ := (show ∃ a, v = .ref a ∧ LstAt K Z φ H a (ns.map V.int) from r)
    exact ⟨a, h1, .inl ⟨_, _, rfl, h2, RelDs.map (f := D.int) (g := V.int) (fun i => rfl) _⟩, _, h2.sq⟩
  | _ => cases l
theorem src_tup {M : MH} {d : D} {v : V} {s : Src} (r : RelD K Z φ H d v) (e : srcOf M d = some s) (l : isTupD d = true) : ∃ a, v = .ref a ∧ TpR K Z φ H s a ∧ ∃ vs, SqT K H a vs := by
  cases d with
  | tup xs =>
    cases e
    obtain ⟨a, vs, h1, h2, h4⟩ := (show ∃ a vs, v = .ref a ∧ TupAt K Z φ H a vs ∧ RelDs K Z φ H xs vs from r)
    exact ⟨a, h1, ⟨xs, vs, rfl, h2, h4⟩, vs, h2.sq⟩
  | _ => cases l
end

section
variable {X : Cx} {W : WX} {ca : Nat → Addr} {cl : Nat → List D → Ev D} {k : Nat} {g : GE} {S : Sc} {B : List Nat} {a b c : Expr} {ca' cb' cc : CE} {pos : Pos}
/-- what a loop walks, as the evaluator tells it -/
def iOf (K : PySem.W.Frag) (B : List Nat) (ca : Nat → Addr) (W : WX) (cl : Nat → List D → Ev D) (s : SE) : TI := fun σ H R =>
  ∃ Z φ ρ M, Rel K Z φ B ρ M σ H ∧ Out K Z B ca W ρ σ φ H (evS cl s ρ M) fun w _ φ1 H1 => ∀ J, WalkR K J w Z φ1 H1 → R J H1
theorem _root_.L2.PI.imp {tg iter : Expr} {wi wi' : TI} (h : PI X tg iter wi) (i : ∀ σ H R, wi' σ H R → wi σ H R) : PI X tg iter wi' := ⟨fun pins s σ H R I q => h.run pins s σ H R I (i σ H R q)⟩
theorem _root_.L2.PI.or {tg iter : Expr} {wi wi' : TI} (h : PI X tg iter wi) (h' : PI X tg iter wi') : PI X tg iter (fun σ H R => wi σ H R ∨ wi' σ H R) :=
  ⟨fun pins s σ H R I q => q.elim (h.run pins s σ H R I) (h'.run pins s σ H R I)⟩
theorem pi_seq {tg : Expr} (ha : PE X a (tOf X.K B ca W cl ca')) : PI X tg a (iOf X.K B ca W cl (.seq ca')) := by
  refine (((pi_tup (tg := tg) ha).or (pi_list (tg := tg) ha)).or (pi_str ha)).imp fun σ H R ⟨Z, φ, ρ, M, Rl, O⟩ => ?_
  simp only [evS] at O
  unfold Ev.bind at O
  cases h : ev cl ca' ρ M with
  | none => rw [h] at O; exact O.elim
  | some r =>
    rw [h] at O
    cases r with
    | ex c d M1 => exact .inl (.inl ⟨Z, φ, ρ, M, Rl, by rw [h]; exact O⟩)
    | ok d M1 =>
      obtain ⟨w, e, O⟩ := Out.look O
      obtain ⟨s, e', rfl⟩ := Option.map_eq_some_iff.mp e
      by_cases ht : isTupD d = true
      · refine .inl (.inl ⟨Z, φ, ρ, M, Rl, ?_⟩)
        rw [h]
        intro φ1 H1 R1 e1 v r
        obtain ⟨p, rfl, h1, h2⟩ := src_tup r e' ht
        exact ⟨p, rfl, h2, O φ1 H1 R1 e1 _ (walkR_tup h1)⟩
      · by_cases hl : isLstD d = true
        · refine .inl (.inr ⟨Z, φ, ρ, M, Rl, ?_⟩)
          rw [h]
          intro φ1 H1 R1 e1 v r
          obtain ⟨p, rfl, h1, h2⟩ := src_lst R1 r e' hl
          exact ⟨p, rfl, h2, O φ1 H1 R1 e1 _ (walkR_list h1)⟩
        · cases d with
          | str z =>
            cases e'
            refine .inr ⟨Z, φ, ρ, M, Rl, ?_⟩
            rw [h]
            intro φ1 H1 R1 e1 v r
            obtain ⟨rfl, h1, h2⟩ := (show v = .str z ∧ PyData.strOk z = true ∧ z.length ≤ sizeLine from r)
            exact ⟨z, rfl, O φ1 H1 R1 e1 _ (walkR_str h1)⟩
          | tup _ => exact absurd rfl ht
          | lst _ => exact absurd rfl hl
          | ref _ => exact absurd rfl hl
          | scr _ => exact absurd rfl hl
          | _ => cases e'
theorem itf_facts : (("range" : Str) ∈ bnames ∧ ("enumerate" : Str) ∈ bnames ∧ ("zip" : Str) ∈ bnames) := ⟨by decide +kernel, by decide +kernel, by decide +kernel⟩
theorem rngOk_of {i : Int} (h : rngOk i = true) : -(2 ^ 62) ≤ i ∧ i < 2 ^ 62 := by
  unfold rngOk at h
  simpa using h
theorem pi_rng1 (o : XO X W ca cl k g S) {tg : Expr} {p : Pos} (hg : glB S.sc "range" = true) (hs : isStar a = false) (ha : PE X a (tOf X.K B ca W cl ca')) : PI X tg (.Call (.Name "range" p) [a] [] pos) (iOf X.K B ca W cl (.rng1 ca')) := by
  refine (pi_range1 (o.gl hg) (o.go.bn _ itf_facts.1) (pa_cons ha pa_nil (star_no hs)) (star_no hs)).imp fun σ H R ⟨Z, φ, ρ, M, Rl, O⟩ => ?_
  simp only [evS] at O
  refine (tOf.step Rl O).mono fun x H1 ⟨φ1, M1, d1, R1, e1, r1, O1⟩ => ?_
  cases d1 with
  | int i =>
    cases (show x = .int i from r1)
    simp only at O1
    split at O1
    · rename_i hi
      obtain ⟨h1, h2⟩ := rngOk_of hi
      refine ⟨i, rfl, h1, h2, Out.ok O1 R1 _ ?_⟩
      have := walkR_range (K := X.K) (lo := 0) (hi := i) (Z := Z) (φ := φ1) (H := H1)
      rw [Int.sub_zero] at this
      exact this
    · exact O1.elim
  | _ => exact O1.elim
theorem pi_rng2 (o : XO X W ca cl k g S) {tg : Expr} {p : Pos} (hg : glB S.sc "range" = true) (hs : isStar a = false) (hs2 : isStar b = false) (ha : PE X a (tOf X.K B ca W cl ca')) (hb : PE X b (tOf X.K B ca W cl cb')) :
    PI X tg (.Call (.Name "range" p) [a, b] [] pos) (iOf X.K B ca W cl (.rng2 ca' cb')) := by
  refine (pi_range2 (o.gl hg) (o.go.bn _ itf_facts.1) (pa_cons ha (pa_cons hb pa_nil (star_no hs2)) (star_no hs)) (by rw [star_no hs, star_no hs2]; rfl) (star_no hs2)).imp fun σ H R ⟨Z, φ, ρ, M, Rl, O⟩ => ?_
  simp only [evS] at O
  refine (tOf.step Rl O).mono fun x H1 ⟨φ1, M1, d1, R1, e1, r1, O1⟩ => ?_
  refine (tOf.step R1 O1).mono fun y H2 ⟨φ2, M2, d2, R2, e2, r2, O2⟩ => ?_
  cases d1 with
  | int i =>
    cases d2 with
    | int j =>
      cases (show x = .int i from r1)
      cases (show y = .int j from r2)
      simp only at O2
      split at O2
      · rename_i hi
        rw [Bool.and_eq_true] at hi
        obtain ⟨h1, h2⟩ := rngOk_of hi.1
        obtain ⟨h3, h4⟩ := rngOk_of hi.2
        exact ⟨i, j, rfl, ⟨h1, h2, h3, h4⟩, Out.ok O2 R2 _ walkR_range⟩
      · exact O2.elim
    | _ => exact O2.elim
  | _ => exact O2.elim
theorem pi_enumL (o : XO X W ca cl k g S) {p tpos : Pos} {elts : List Expr} {kk : Nat} (hg : glB S.sc "enumerate" = true) (hs : isStar a = false) (ha : PE X a (tOf X.K B ca W cl ca')) : PI X (.Tuple elts kk tpos) (.Call (.Name "enumerate" p) [a] [] pos) (iOf X.K B ca W cl (.enum ca')) := by
  refine (pi_enumA (o.gl hg) (o.go.bn _ itf_facts.2.1) (pa_cons ha pa_nil (star_no hs)) (star_no hs)).imp fun σ H R ⟨Z, φ, ρ, M, Rl, O⟩ => ?_
  simp only [evS] at O
  refine (tOf.step Rl O).mono fun x H1 ⟨φ1, M1, d1, R1, e1, r1, O1⟩ => ?_
  obtain ⟨w, e, O1⟩ := O1.look
  split at e
  · rename_i hl
    obtain ⟨s, e', rfl⟩ := Option.map_eq_some_iff.mp e
    rcases Bool.or_eq_true_iff.mp hl with hl | hl
    · obtain ⟨p, rfl, h1, vs, h2⟩ := src_lst R1 r1 e' hl
      exact ⟨p, vs, rfl, .inl ⟨h2, Out.ok O1 R1 _ (walkR_enum h1)⟩⟩
    · obtain ⟨p, rfl, h1, vs, h2⟩ := src_tup r1 e' hl
      exact ⟨p, vs, rfl, .inr ⟨h2, Out.ok O1 R1 _ (walkR_enumT h1)⟩⟩
  · cases e
theorem pi_zipL (o : XO X W ca cl k g S) {p tpos : Pos} {elts : List Expr} {kk : Nat} (hg : glB S.sc "zip" = true) (hs : isStar a = false) (hs2 : isStar b = false) (ha : PE X a (tOf X.K B ca W cl ca')) (hb : PE X b (tOf X.K B ca W cl cb')) :
    PI X (.Tuple elts kk tpos) (.Call (.Name "zip" p) [a, b] [] pos) (iOf X.K B ca W cl (.zip ca' cb')) := by
  have hp := back_plain (pos := pos) (env := X.env) (es := [b]) (by simpa using hs2)
  refine (RZ.pi_zipA (o.gl hg) (o.go.bn _ itf_facts.2.2) (pa_cons ha (pa_cons hb pa_nil (star_no hs2)) (star_no hs)) (star_no hs) hp).imp fun σ H R ⟨Z, φ, ρ, M, Rl, O⟩ => ?_
  simp only [evS] at O
  refine (tOf.step Rl O).mono fun x H1 ⟨φ1, M1, d1, R1, e1, r1, O1⟩ => ?_
  refine (tOf.step R1 O1).mono fun y H2 ⟨φ2, M2, d2, R2, e2, r2, O2⟩ => ?_
  have r1 := RelD.ext e2 _ _ r1
  obtain ⟨w, e, O2⟩ := O2.look
  split at e
  · rename_i hl
    split at e
    · rename_i s t h1 h2
      cases e
      rw [Bool.or_eq_true, Bool.and_eq_true, Bool.and_eq_true] at hl
      rcases hl with hl | hl
      · obtain ⟨p, rfl, h3, vs, h4⟩ := src_lst R2 r1 h1 hl.1
        obtain ⟨q, rfl, h5, ws, h6⟩ := src_lst R2 r2 h2 hl.2
        exact ⟨p, q, vs, ws, rfl, .inl ⟨h4, h6, Out.ok O2 R2 _ (walkR_zip h3 h5)⟩⟩
      · obtain ⟨p, rfl, h3, vs, h4⟩ := src_tup r1 h1 hl.1
        obtain ⟨q, rfl, h5, ws, h6⟩ := src_tup r2 h2 hl.2
        exact ⟨p, q, vs, ws, rfl, .inr ⟨h4, h6, Out.ok O2 R2 _ (walkR_zipT h3 h5)⟩⟩
    · cases e
  · cases e
end
end MP

set_option Elab.async false
set_option linter.all false
set_option maxRecDepth 100000
set_option maxHeartbeats 1000000
namespace MP
open PySem PySem.Spec PyProof.Rows L2

/-! ### targets -/
def gNms : List Nat → TGs
  | [] => gNil
  | i :: is => gCons (gName i) (gNms is)
def grOf (K : PySem.W.Frag) (t : List Nat) (single : Bool) : TG :=
  if single then (match t with | [i] => gName i | _ => fun _ _ _ _ => False) else gTup K t.length (gNms t)
theorem wipe_set_c {σ : L2.St} {i : Nat} {x y : Option V} : ∀ vs : List Nat, (wipe (σ.set i x) vs).set i y = (wipe σ vs).set i y
  | [] => List.set_set ..
  | v :: vs => by
    show ((wipe (σ.set i x) vs).set v none).set i y = ((wipe σ vs).set v none).set i y
    by_cases h : v = i
    · subst h; rw [List.set_set, List.set_set, wipe_set_c vs]
    · rw [List.set_comm _ _ h, List.set_comm _ _ h, wipe_set_c vs]
theorem wipe_set {σ : L2.St} {i : Nat} {x : Option V} : ∀ {vs : List Nat}, i ∈ vs → wipe (σ.set i x) vs = wipe σ vs
  | v :: vs, h => by
    show (wipe (σ.set i x) vs).set v none = (wipe σ vs).set v none
    rcases List.mem_cons.mp h with rfl | h
    · exact wipe_set_c vs
    · rw [wipe_set h]
theorem wipe_wipe_c {σ : L2.St} : ∀ (us vs : List Nat), (∀ i ∈ us, i ∈ vs) → wipe (wipe σ us) vs = wipe σ vs
  | [], vs, _ => rfl
  | u :: us, vs, h => by
    show wipe ((wipe σ us).set u none) vs = _
    rw [wipe_set (h u List.mem_cons_self), wipe_wipe_c us vs fun i hi => h i (List.mem_cons_of_mem _ hi)]
theorem wipe_wipe {σ : L2.St} (vs : List Nat) : wipe (wipe σ vs) vs = wipe σ vs := wipe_wipe_c vs vs fun _ h => h
section
variable {K : PySem.W.Frag} {Z φ : List Addr} {B : List Nat} {ρ : Env} {M : MH} {σ : L2.St} {H : Hp}
theorem rd_nms : ∀ {t : List Nat} {ds : List D} {vs : List V} {ρ ρ' : Env} {σ : L2.St} {Q : L2.St → Hp → Prop}, Rel K Z φ B ρ M σ H → RelDs K Z φ H ds vs → setsS ρ t ds = some ρ' →
    (∀ σ', Rel K Z φ B ρ' M σ' H → (∀ ws, (∀ i ∈ t, i ∈ ws) → wipe σ' ws = wipe σ ws) → Q σ' H) → gNms t vs σ H Q
  | [], [], vs, ρ, ρ', σ, Q, R, r, e, q => by
    cases e
    cases (show vs = [] from r)
    exact ⟨rfl, q σ R fun _ _ => rfl⟩
  | [], d :: ds, vs, ρ, ρ', σ, Q, R, r, e, q => by cases e
  | i :: t, [], vs, ρ, ρ', σ, Q, R, r, e, q => by cases e
  | i :: t, d :: ds, vs, ρ, ρ', σ, Q, R, r, e, q => by
    obtain ⟨v, u, rfl, h1, h2⟩ := (show ∃ v r, vs = v :: r ∧ RelD K Z φ H d v ∧ RelDs K Z φ H ds r from r)
    refine ⟨v, u, rfl, ?_⟩
    exact rd_nms (R.setS h1) h2 (show setsS (ρ.set i (some d)) t ds = some ρ' from e) fun σ' R' w => q σ' R' fun ws hw => by
      rw [w ws fun j hj => hw j (List.mem_cons_of_mem _ hj), wipe_set (hw i List.mem_cons_self)]
theorem setsS_len : ∀ {t : List Nat} {ds : List D} {ρ ρ' : Env}, setsS ρ t ds = some ρ' → ds.length = t.length
  | [], [], _, _, _ => rfl
  | [], d :: ds, _, _, e => by cases e
  | i :: t, [], _, _, e => by cases e
  | i :: t, d :: ds, ρ, ρ', e => by
    have := setsS_len (show setsS (ρ.set i (some d)) t ds = some ρ' from e)
    simp [this]
theorem rd_tg {t : List Nat} {single : Bool} {d : D} {v : V} {ρ' : Env} {Q : L2.St → Hp → Prop} (R : Rel K Z φ B ρ M σ H) (r : RelD K Z φ H d v) (e : bindT t single d ρ = some ρ')
    (q : ∀ σ', Rel K Z φ B ρ' M σ' H → (∀ ws, (∀ i ∈ t, i ∈ ws) → wipe σ' ws = wipe σ ws) → Q σ' H) : grOf K t single v σ H Q := by
  unfold bindT at e
  unfold grOf
  cases single with
  | true =>
    simp only [if_true] at e ⊢
    split at e
    · cases e
      exact q _ (R.setS r) fun ws hw => wipe_set (hw _ List.mem_cons_self)
    · cases e
  | false =>
    simp only [Bool.false_eq_true, if_false] at e ⊢
    split at e
    · rename_i xs
      obtain ⟨a, vs, rfl, h1, h2⟩ := (show ∃ a vs, v = .ref a ∧ TupAt K Z φ H a vs ∧ RelDs K Z φ H xs vs from r)
      exact ⟨a, vs, rfl, h1.sq, by rw [h2.length]; exact setsS_len e, rd_nms R h2 e q⟩
    · cases e
end
section
variable {X : Cx} {W : WX} {ca : Nat → Addr} {cl : Nat → List D → Ev D} {k : Nat} {g : GE} {S : Sc} {B : List Nat}
theorem pgs_nms (o : XO X W ca cl k g S) : ∀ {es : List Expr} {t : List Nat}, cTgs S es = some t → PGs X es (gNms t) ∧ (assignEach es X.env).length = t.length ∧ (assignEach es X.env).findIdx? (·.1) = none
  | [], t, h => by cases h; exact ⟨pgs_nil, rfl, rfl⟩
  | .Name x p :: es, t, h => by
    unfold cTgs at h
    split at h
    · rename_i i is h1 h2
      split at h
      · rename_i hs
        cases h
        obtain ⟨q1, q2, q3⟩ := pgs_nms o h2
        obtain ⟨l1, l2⟩ := o.loc hs
        refine ⟨pgs_cons (pg_name o.nd (o.slot h1) l1 l2) q1 rfl, ?_, ?_⟩
        · show (assignEach es X.env).length + 1 = _
          rw [q2]; rfl
        · show List.findIdx? _ (_ :: assignEach es X.env) = none
          rw [List.findIdx?_cons]
          show (if (false : Bool) = true then some 0 else _) = none
          rw [if_neg Bool.false_ne_true, q3]; rfl
      · cases h
    · cases h
theorem pg_tg (o : XO X W ca cl k g S) {tg : Expr} {t : List Nat} {single : Bool} (h : cTg S tg = some (t, single)) : PG X tg (grOf X.K t single) := by
  unfold cTg at h
  split at h
  · split at h
    · rename_i i h1
      split at h
      · rename_i hs
        cases h
        obtain ⟨l1, l2⟩ := o.loc hs
        exact pg_name o.nd (o.slot h1) l1 l2
      · cases h
    · cases h
  · obtain ⟨is, h1, h2⟩ := Option.map_eq_some_iff.mp h
    cases h2
    obtain ⟨q1, q2, q3⟩ := pgs_nms o h1
    exact pg_tup o.calm q1 q2 q3
  · cases h

/-! ### comprehensions -/
theorem Rel.turnAt {K : PySem.W.Frag} {Z φ : List Addr} {ρ : Env} {M : MH} {σ : L2.St} {H : Hp} {D : Addr} {o : HO} (R : Rel K (D :: Z) φ B ρ M σ H) (hz : D ∉ Z) : Rel K (D :: Z) φ B ρ M σ (upd H D o) ∧ Kp (D :: Z) φ H (D :: Z) φ (upd H D o) := by
  have k : Kp (D :: Z) φ H (D :: Z) φ (upd H D o) := ⟨⟨[], by simp⟩, fun a u h n => ⟨by rw [upd_ne (fun z => n.2 (by rw [z]; exact List.mem_cons_self))]; exact h, n⟩⟩
  refine ⟨⟨R.len, R.bas, R.nd, fun a ha => ?_, fun n a mo h1 h2 => ?_, R.old, R.ρlen, fun i d h => ?_⟩, k⟩
  · by_cases hD : a = D
    · subst hD; rw [upd_same]; exact ⟨by simp, (R.zz a ha).2⟩
    · rw [upd_ne hD]; exact R.zz a ha
  · have hne : a ≠ D := fun z => (R.zz D List.mem_cons_self).2 (by rw [← z]; exact List.mem_of_getElem? h1)
    have q := R.obj n a mo h1 h2
    cases mo with
    | lst xs =>
      obtain ⟨vs, h3, h4⟩ := q
      exact ⟨vs, by rw [upd_ne hne]; exact h3, RelDs.kp k _ _ h4⟩
    | dead => exact q.elim
    | dct _ _ => exact q.elim
    | set _ => exact q.elim
  · obtain ⟨v, h1, h2⟩ := R.env i d h
    exact ⟨v, h1, RelD.kp k _ _ h2⟩
theorem Rel.envOf {K : PySem.W.Frag} {Z Z' φ φ' : List Addr} {ρ ρ' : Env} {M M' : MH} {σ σ' : L2.St} {H H' : Hp} (R' : Rel K Z' φ' B ρ' M' σ' H') (R : Rel K Z φ B ρ M σ H) (k : Kp Z φ H Z' φ' H') : Rel K Z' φ' B ρ M' σ H' :=
  ⟨R'.len, R'.bas, R'.nd, R'.zz, R'.obj, R'.old, R.ρlen, fun i d h => let ⟨v, h1, h2⟩ := R.env i d h; ⟨v, h1, RelD.kp k _ _ h2⟩⟩
theorem iOf.step {K : PySem.W.Frag} {Z φ : List Addr} {ρ : Env} {M : MH} {σ : L2.St} {H : Hp} {s : SE} {f : Wk → Ev (List D)} {Q : V → Hp → Prop} (R : Rel K Z φ B ρ M σ H) (O : OutL K Z B ca W ρ σ φ H (Ev.bind (evS cl s ρ) f M) Q) :
    iOf K B ca W cl s σ H fun J H1 => ∃ φ1 M1 xs, Rel K Z φ1 B ρ M1 σ H1 ∧ Ext Z φ H φ1 H1 ∧ WalkR K J xs Z φ1 H1 ∧ OutL K Z B ca W ρ σ φ1 H1 (f xs M1) Q :=
  ⟨Z, φ, ρ, M, R, O.bind.imp fun xs M1 φ1 H1 R1 e1 o J w => ⟨φ1, M1, xs, R1, e1, w, o⟩⟩
abbrev W0 : WX := fun _ _ _ _ => False
theorem XO.blk (o : XO X W ca cl k g S) (s : Shared) (H : Hp) (scope : Scope) (cls : List (Str × Addr)) (C : Addr) (fp : List Addr) : XO (X.blk s H scope (compEnvC scope cls C X.env) fp) W0 ca cl k g ⟨S.N, relS scope S.sc, some scope⟩ := by
  refine ⟨o.N, ?_, fun x h => h, o.nd, o.calm, o.room, o.gd, takes0, o.go⟩
  show relS scope X.env.scope = relS scope S.sc
  rw [o.sc]
/-- the tests of a clause -/
def tTests (K : PySem.W.Frag) (B : List Nat) (ca : Nat → Addr) (W : WX) (cl : Nat → List D → Ev D) : CEs → TT
  | .nil => tYes
  | .cons c _ => tB (tOf K B ca W cl c)
theorem walkW_ok {f : D → Ev (Option D)} {w : Wk} {m i : Nat} {M : MH} {r : Rs (List D)} (h : walkW f w m i M = some r) : ∃ ys M', r = .ok ys M' ∧ ((itemW M w i = some none ∧ ys = [] ∧ M' = M) ∨
    ∃ d k y M1 zs, itemW M w i = some (some d) ∧ m = k + 1 ∧ f d M = some (.ok y M1) ∧ walkW f w k (i + 1) M1 = some (.ok zs M') ∧ ys = (match y with | some y => y :: zs | none => zs)) := by
  cases m with
  | zero =>
    unfold walkW at h
    split at h
    · cases h; rename_i e; exact ⟨_, _, rfl, .inl ⟨e, rfl, rfl⟩⟩
    · cases h
  | succ k =>
    unfold walkW at h
    split at h
    · cases h; rename_i e; exact ⟨_, _, rfl, .inl ⟨e, rfl, rfl⟩⟩
    · rename_i x e
      split at h
      · rename_i y M1 e1
        split at h
        · rename_i zs M2 e2
          cases h
          exact ⟨_, _, rfl, .inr ⟨x, k, y, M1, zs, e, rfl, e1, e2, rfl⟩⟩
        · cases h
      · cases h
    · cases h
end
end MP

set_option Elab.async false
set_option linter.all false
set_option maxRecDepth 100000
set_option maxHeartbeats 1000000
namespace MP
open PySem PySem.Spec PyProof.Rows L2
section
variable {X : Cx} {W : WX} {ca : Nat → Addr} {cl : Nat → List D → Ev D} {k : Nat} {g : GE} {S : Sc} {B : List Nat}
/-- what is told of an evaluation by its end -/
theorem Out.of_ok {K : PySem.W.Frag} {Z φ : List Addr} {ρ : Env} {M M1 : MH} {σ : L2.St} {H : Hp} {α : Type} {r : Option (Rs α)} {a : α} {Q : α → MH → List Addr → Hp → Prop} (e : r = some (.ok a M1)) (h : ∀ φ' H', Rel K Z φ' B ρ M1 σ H' → Ext Z φ H φ' H' → Q a M1 φ' H') : Out K Z B ca W ρ σ φ H r Q := by
  subst e; exact h
theorem bind_ok {α β : Type} {x : Ev α} {f : α → Ev β} {M M' : MH} {r : β} (h : Ev.bind x f M = some (.ok r M')) : ∃ a M1, x M = some (.ok a M1) ∧ f a M1 = some (.ok r M') := by
  unfold Ev.bind at h
  split at h
  · cases h
  · rename_i a M1 e; exact ⟨a, M1, e, h⟩
  · cases h
theorem rd_tests {K : PySem.W.Frag} {c : CEs} {Z φ : List Addr} {ρ : Env} {M M1 : MH} {σ : L2.St} {H : Hp} {q : Bool} {Q : Bool → Hp → Prop} (R : Rel K Z φ B ρ M σ H) (e : evC cl c ρ M = some (.ok q M1))
    (h : ∀ φ' H', Rel K Z φ' B ρ M1 σ H' → Ext Z φ H φ' H' → Q q H') : tTests K B ca W0 cl c σ H Q := by
  cases c with
  | nil =>
    simp only [evC, Ev.pure, Option.some.injEq, Rs.ok.injEq] at e
    obtain ⟨rfl, rfl⟩ := e
    exact h φ H R (Ext.refl R)
  | cons c cs =>
    simp only [evC] at e
    obtain ⟨d, M2, e1, e2⟩ := bind_ok e
    unfold Ev.lift at e2
    split at e2
    · cases e2
    · rename_i b' hb
      cases e2
      have := truD_of hb
      subst this
      refine ⟨Z, φ, ρ, M, R, Out.of_ok (M := M) e1 fun φ' H' R' e' v r => ?_⟩
      cases (show v = .bl q from r)
      exact ⟨q, rfl, h φ' H' R' e'⟩
theorem own_slots {N : List Str} {scope : Scope} : ∀ p ∈ ownOf N scope, N[p.2]? = some p.1 := fun p hp => by
  unfold ownOf at hp
  obtain ⟨y, _, e⟩ := List.mem_filterMap.mp hp
  split at e
  · obtain ⟨i, h, rfl⟩ := Option.map_eq_some_iff.mp e
    exact slotOf_get h
  · obtain ⟨i, h, rfl⟩ := Option.map_eq_some_iff.mp e
    exact slotOf_get h
  · cases e
/-- one turn's value -/
def compF (cl : Nat → List D → Ev D) (t : List Nat) (single : Bool) (c : CEs) (e : CE) (w : List Nat) (ρ : Env) : D → Ev (Option D) := fun x => match bindT t single x (wipeS ρ w) with
  | none => Ev.fail
  | some ρ' => Ev.bind (evC cl c ρ') fun k => match k with
    | false => Ev.pure none
    | true => Ev.bind (ev cl e ρ') fun d => Ev.pure (some d)
theorem compF_ok {t w : List Nat} {single : Bool} {c : CEs} {e : CE} {ρ : Env} {d : D} {y : Option D} {M M3 : MH} (h : compF cl t single c e w ρ d M = some (.ok y M3)) :
    ∃ ρ' q M4, bindT t single d (wipeS ρ w) = some ρ' ∧ evC cl c ρ' M = some (.ok q M4) ∧ (q = false → y = none ∧ M3 = M4) ∧ (q = true → ∃ v, ev cl e ρ' M4 = some (.ok v M3) ∧ y = some v) := by
  unfold compF at h
  cases hb : bindT t single d (wipeS ρ w) with
  | none => rw [hb] at h; cases h
  | some ρ' =>
    rw [hb] at h
    obtain ⟨q, M4, h1, h2⟩ := bind_ok h
    refine ⟨ρ', q, M4, rfl, h1, fun hq => ?_, fun hq => ?_⟩
    · subst hq
      have h2 : some (Rs.ok none M4) = some (Rs.ok y M3) := h2
      cases h2
      exact ⟨rfl, rfl⟩
    · subst hq
      obtain ⟨v, M5, h3, h4⟩ := bind_ok h2
      have h4 : some (Rs.ok (some v) M5) = some (Rs.ok y M3) := h4
      cases h4
      exact ⟨v, h3, rfl⟩
/-- what had come ahead of the new list has stayed -/
theorem ext_comp {Z φ1 φ2 φ' : List Addr} {H0 H2 H' H'' : Hp} {D : Addr} (E : Ext Z φ1 H0 φ2 H2) (ee : Ext (D :: Z) φ2 H2 φ' H') (hD : H0 D = none) (hs : ∀ a, a ≠ D → H'' a = H' a) (hz : D ∉ Z) : Ext Z φ1 H0 φ' H'' := by
  refine ⟨?_, fun a u h n => ?_, fun a ha => ?_, E.old⟩
  · obtain ⟨m, rfl⟩ := E.pre
    obtain ⟨m', rfl⟩ := ee.pre
    exact ⟨m ++ m', by rw [List.append_assoc]⟩
  · have ne := ne_of_none h hD
    obtain ⟨h1, n1⟩ := E.keep a u h n
    obtain ⟨h2, n2⟩ := ee.keep a u h1 ⟨n1.1, fun z => (List.mem_cons.mp z).elim ne n1.2⟩
    exact ⟨(hs a ne).trans h2, nf_less n2⟩
  · have ne : a ≠ D := fun z => hz (by rw [← z]; exact ha)
    rw [hs a ne, ee.zs a (List.mem_cons_of_mem _ ha), E.zs a ha]
theorem rd_comp {K : PySem.W.Frag} {s : SE} {t w : List Nat} {single : Bool} {c : CEs} {e : CE} {σ : L2.St} {H : Hp} {Q : VK} (ht : ∀ i ∈ t, i ∈ w) (h : tOfL K B ca W cl (.comp s t single c e w) σ H Q) :
    tLc (iOf K B ca W cl s) (grOf K t single) (tTests K B ca W0 cl c) (tOf K B ca W0 cl e) w σ H Q := by
  obtain ⟨Z, φ, ρ, M, R, O⟩ := h
  simp only [evL] at O
  obtain ⟨Z1, φ1', ρ1, M1', R1', O1'⟩ := iOf.step R O
  refine ⟨Z1, φ1', ρ1, M1', R1', O1'.imp fun xs0 M0 φ0 H0 R0 e0 hstep J hw => ?_⟩
  obtain ⟨φ1, M1, xs, R1, e1, wd, O1⟩ := hstep J hw
  intro D hD
  have hDZ : D ∉ Z := (R1.fresh hD).2
  split at O1
  · rename_i hlen
    have O1 : OutL K Z B ca W ρ σ φ1 H0 (walkW (compF cl t single c e w ρ) xs (lenW M1 xs) 0 M1) Q := O1
    cases hev : walkW (compF cl t single c e w ρ) xs (lenW M1 xs) 0 M1 with
    | none => rw [hev] at O1; exact O1.elim
    | some r =>
      obtain ⟨zs, Mf, rfl, _⟩ := walkW_ok hev
      rw [hev] at O1
      have k1 : Kp Z φ1 H0 (D :: Z) φ1 (upd H0 D (.lst [])) := ⟨⟨[], by simp⟩, fun a u h n => ⟨by rw [upd_ne (ne_of_none h hD)]; exact h, n.1, fun z => (List.mem_cons.mp z).elim (ne_of_none h hD) n.2⟩⟩
      refine ⟨fun i m H2 => ∃ φ2 M2 vs ys rest, Rel K (D :: Z) φ2 B ρ M2 σ H2 ∧ Kp Z φ1 H0 (D :: Z) φ2 H2 ∧ Ext Z φ1 H0 φ2 H2 ∧ H2 D = some (.lst vs) ∧ RelDs K (D :: Z) φ2 H2 ys vs ∧ ys.length ≤ i ∧ i + m ≤ sizeLine ∧
        walkW (compF cl t single c e w ρ) xs m i M2 = some (.ok rest Mf) ∧ ys ++ rest = zs, ⟨_, φ1, M1, [], [], zs, R1.hold hD, k1, (R1.new hD).2, upd_same, rfl, Nat.le_refl _, by rw [Nat.zero_add]; exact hlen, hev, rfl⟩, ?_⟩
      rintro i m H2 ⟨φ2, M2, vs, ys, rest, R2, k2, e2, hvs, rvs, hys, him, hw2, hz⟩
      obtain ⟨hS, hG⟩ := wd _ _ _ _ _ _ _ i k2 R2
      obtain ⟨zs2, M', hr, hc2⟩ := walkW_ok hw2
      cases hr
      rcases hc2 with ⟨hi, rfl, rfl⟩ | ⟨d, k, y, M3, zs', hi, rfl, hf, hw3, hrest⟩
      · rw [List.append_nil] at hz
        subst hz
        exact .inl ⟨hS hi, O1 φ2 H2 D vs R2 hDZ hD e2 hvs rvs⟩
      · obtain ⟨go, hY⟩ := hG d hi
        refine .inr ⟨go, fun H' => ∃ φ2 M2 vs ys rest, Rel K (D :: Z) φ2 B ρ M2 σ H' ∧ Kp Z φ1 H0 (D :: Z) φ2 H' ∧ Ext Z φ1 H0 φ2 H' ∧ H' D = some (.lst vs) ∧ RelDs K (D :: Z) φ2 H' ys vs ∧ ys.length ≤ i + 1 ∧ i + 1 + k ≤ sizeLine ∧
          walkW (compF cl t single c e w ρ) xs k (i + 1) M2 = some (.ok rest Mf) ∧ ys ++ rest = zs, fun H' q => ⟨k, Nat.lt_succ_self _, q⟩, fun x H2' hy => ?_⟩
        have hcase := hY x H2' hy
        -- the item in hand
        have item : ∃ R3 : Rel K (D :: Z) φ2 B ρ M2 σ H2', Ext (D :: Z) φ2 H2 φ2 H2' ∧ RelD K (D :: Z) φ2 H2' d x := by
          rcases hcase with ⟨rfl, r⟩ | ⟨T, us, ds, hT, rfl, rfl, rfl, r⟩
          · exact ⟨R2, Ext.refl R2, r⟩
          · obtain ⟨R3, e3, r3⟩ := R2.newT hT r
            exact ⟨R3, e3, r3⟩
        obtain ⟨R3, e3, r3⟩ := item
        obtain ⟨ρ', q, M4, hb, hc, hq0, hq1⟩ := compF_ok hf
        have R4 := R3.wipe w
        refine rd_tg R4 r3 hb fun σ' R5 hw5 => ⟨by rw [hw5 w ht, wipe_wipe], ?_⟩
        refine rd_tests R5 hc fun φ6 H6 R6 e6 => ?_
        have e36 : Ext (D :: Z) φ2 H2 φ6 H6 := e3.trans e6
        cases q with
        | false =>
          obtain ⟨rfl, rfl⟩ := hq0 rfl
          refine iteF ⟨φ6, M3, vs, ys, rest, R6.envOf R2 e36.kp, k2.trans e36.kp, ext_comp e2 e36 hD (fun _ _ => rfl) hDZ, ?_, RelDs.ext e36 _ _ rvs, Nat.le_succ_of_le hys, by omega, ?_, hz⟩
          · rw [e36.zs D List.mem_cons_self]; exact hvs
          · rw [hw3, hrest]
        | true =>
          obtain ⟨v, hv, rfl⟩ := hq1 rfl
          refine iteT ⟨D :: Z, φ6, ρ', M4, R6, Out.of_ok (M := M4) hv fun φ7 H7 R7 e7 u ru => ?_⟩
          have e27 : Ext (D :: Z) φ2 H2 φ7 H7 := e36.trans e7
          have hvs7 : H7 D = some (.lst vs) := by rw [e27.zs D List.mem_cons_self]; exact hvs
          obtain ⟨R8, k8⟩ := R7.turnAt (o := .lst (vs ++ [u])) hDZ
          have rvs7 := RelDs.ext e27 _ _ rvs
          have hl := rvs7.length
          refine ⟨vs, hvs7, by rw [hl]; omega, φ7, M3, vs ++ [u], ys ++ [v], zs', R8.envOf R2 (e27.kp.trans k8), (k2.trans e27.kp).trans k8, ext_comp e2 e27 hD (fun a ha => upd_ne ha) hDZ, upd_same, ?_, ?_, by omega, hw3, ?_⟩
          · exact (RelDs.kp k8 _ _ rvs7).app (RelDs.one (RelD.kp k8 _ _ ru))
          · rw [List.length_append, List.length_singleton]; omega
          · rw [List.append_assoc, ← hz, hrest]; rfl
  · exact O1.elim
end
end MP

set_option Elab.async false
set_option linter.all false
set_option maxRecDepth 100000
set_option maxHeartbeats 1000000
namespace MP
open PySem PySem.Spec PyProof.Rows L2
section
variable {X : Cx} {W : WX} {ca : Nat → Addr} {cl : Nat → List D → Ev D} {k : Nat} {g : GE} {S : Sc} {B : List Nat}
theorem ev_of {e : Expr} {c : CE} (h : PE X e (tOf X.K B ca W cl c)) (he : ∀ whole, isTrue e X.env whole = (do let v ← whole; standAt e.pos; holding [v] (truthy v)) := by intro _; rfl) : EOk X W ca cl B e c := ⟨h, pt_val h he⟩
/-- what the parts give -/
abbrev IH (ca : Nat → Addr) (cl : Nat → List D → Ev D) (B : List Nat) (k : Nat) (g : GE) (r : Sc → Expr → Option CE) : Prop :=
  ∀ (S : Sc) (X : Cx) (W : WX) (e : Expr) (c : CE), r S e = some c → XO X W ca cl k g S → EOk X W ca cl B e c
theorem ok_iter (o : XO X W ca cl k g S) {r : Expr → Option CE} (ih : ∀ e c, r e = some c → EOk X W ca cl B e c) {tg e : Expr} {t : List Nat} {single : Bool} {s : SE} {S' : Sc} (ht : cTg S' tg = some (t, single)) (h : cIter S r single e = some s) :
    PI X tg e (iOf X.K B ca W cl s) ∧ ∀ x, foldedSetIterable e X.env x = pure x := by
  have hset : isSet e = false := by
    unfold cIter at h
    split at h
    · cases h
    · rename_i hs; simpa using hs
  refine ⟨?_, fun x => by cases e <;> first | rfl | (simp [isSet] at hset)⟩
  have tup : single = false → ∃ elts kk tp, tg = .Tuple elts kk tp := fun e => by
    subst e
    unfold cTg at ht
    split at ht
    · split at ht
      · split at ht <;> cases ht
      · cases ht
    · exact ⟨_, _, _, rfl⟩
    · cases ht
  have plain : (r e).map SE.seq = some s → PI X tg e (iOf X.K B ca W cl s) := fun h => by
    obtain ⟨c, h1, rfl⟩ := Option.map_eq_some_iff.mp h
    exact pi_seq (ih e c h1).pe
  unfold cIter at h
  rw [hset] at h
  simp only [Bool.false_eq_true, if_false] at h
  split at h
  · rename_i x p args pos
    split at h
    · rename_i hx
      obtain ⟨rfl, hg⟩ := hx
      split at h
      · rename_i a
        split at h
        · cases h
        · rename_i hs
          obtain ⟨c, h1, rfl⟩ := Option.map_eq_some_iff.mp h
          exact pi_rng1 o hg (by simpa using hs) (ih a c h1).pe
      · rename_i a b
        split at h
        · cases h
        · rename_i hs
          simp only [Bool.or_eq_true, not_or, Bool.not_eq_true] at hs
          split at h
          · rename_i c d h1 h2
            cases h
            exact pi_rng2 o hg hs.1 hs.2 (ih a c h1).pe (ih b d h2).pe
          · cases h
      · cases h
    · split at h
      · rename_i hx
        obtain ⟨rfl, hg⟩ := hx
        split at h
        · rename_i a
          split at h
          · cases h
          · rename_i hs
            simp only [Bool.or_eq_true, not_or, Bool.not_eq_true] at hs
            obtain ⟨c, h1, rfl⟩ := Option.map_eq_some_iff.mp h
            obtain ⟨elts, kk, tp, rfl⟩ := tup hs.2
            exact pi_enumL o hg hs.1 (ih a c h1).pe
        · cases h
      · split at h
        · rename_i hx
          obtain ⟨rfl, hg⟩ := hx
          split at h
          · rename_i a b
            split at h
            · cases h
            · rename_i hs
              simp only [Bool.or_eq_true, not_or, Bool.not_eq_true] at hs
              split at h
              · rename_i c d h1 h2
                cases h
                obtain ⟨elts, kk, tp, rfl⟩ := tup hs.2
                exact pi_zipL o hg hs.1.1 hs.1.2 (ih a c h1).pe (ih b d h2).pe
              · cases h
          · cases h
        · exact plain h
  · exact plain h
theorem ok_compE (o : XO X W ca cl k g S) {r : Sc → Expr → Option CE} (ih : IH ca cl B k g r) {elt : Expr} {gs : List Comprehension} {scope : Scope} {pos : Pos} {l : LE} (h : cComp g S r elt gs scope = some l) : PE X (.ListComp elt gs scope pos) (tOfL X.K B ca W cl l) := by
  unfold cComp at h
  split at h
  · rename_i tg iter ifs
    split at h
    · rename_i hb
      split at h
      · rename_i t single ht
        split at h
        · rename_i s c e hs hc he
          split at h
          · rename_i hall
            cases h
            have ok : BlkOk X.N X.env.scope scope (ownOf S.N scope) := by rw [o.N, o.sc]; exact blkOk_by hb
            obtain ⟨h1, h2⟩ := ok_iter o (fun e c h => ih S X W e c h o) (tg := tg) ht hs
            have hin : ∀ i ∈ t, i ∈ (ownOf S.N scope).map (·.2) := fun i hi => by
              have := List.all_eq_true.mp hall i hi
              simpa using this
            refine (pe_lc (tt := tTests X.K B ca W0 cl c) (te := tOf X.K B ca W0 cl e) o.calm o.nd h1 ok (fun s H C cls fp => pg_tg (o.blk s H scope cls C fp) ht) (fun s H C cls fp => ?_) (fun s H C cls fp => (ih _ _ W0 elt e he (o.blk s H scope cls C fp)).pe) h2).imp fun σ H Q q => rd_comp hin q
            split at hc
            · cases hc; exact pts_nil
            · rename_i c0
              obtain ⟨c1, hc1, rfl⟩ := Option.map_eq_some_iff.mp hc
              exact pts_one (ih _ _ W0 c0 c1 hc1 (o.blk s H scope cls C fp)).pt
            · cases hc
          · cases h
        · cases h
      · cases h
    · cases h
  · cases h
theorem ok_callE (o : XO X W ca cl k g S) {r : Expr → Option CE} (ih : ∀ e c, r e = some c → EOk X W ca cl B e c) {x : Str} {p pos : Pos} {args : List Expr} {kws : List Keyword} {c : CE} (h : cCall g S r x args kws pos = some c) : PE X (.Call (.Name x p) args kws pos) (tOf X.K B ca W cl c) := by
  unfold cCall at h
  split at h
  · cases h
  · rename_i hn
    simp only [Bool.or_eq_true, not_or, Bool.not_eq_true, Bool.not_eq_false'] at hn
    have hno : nameOk x = true := by simpa using hn.1
    have hg : glB S.sc x = true := by simpa using hn.2
    split at h
    · rename_i f hf
      split at h
      · cases h
      · rename_i ff ps hfn
        have hx : ff = x := by
          unfold isDef at hf
          have := slotOf_get hf
          rw [List.getElem?_map, hfn] at this
          simpa using this
        subst hx
        split at h
        · rename_i es ks ns h1 h2 h3
          obtain ⟨q1, q2⟩ := ok_list ih h1
          split at h
          · rename_i hk
            split at h
            · rename_i hl
              cases h
              have : kws = [] := by simpa using hk
              subst this
              exact ok_call o hno hg hfn ((cList_len h1).trans hl) (cList_len h1) q1 q2
            · cases h
          · split at h
            · rename_i kk hkk
              cases h
              obtain ⟨q3, q4⟩ := ok_kws ih h2
              have hm := List.mem_of_find?_eq_some hkk
              have hp := List.find?_some hkk
              simp only [Bool.and_eq_true, beq_iff_eq] at hp
              obtain ⟨k1, k2, k3, k4⟩ := kk
              obtain ⟨⟨rfl, rfl⟩, rfl⟩ := hp
              exact ok_callK o hno hg hfn (cList_len h1) q1 q2 q3 q4 h3 hm
            · cases h
        · cases h
    · split at h
      · cases h
      · rename_i hk
        have : kws = [] := by simpa using hk
        subst this
        split at h
        · rename_i hx
          subst hx
          split at h
          · rename_i a t
            unfold cIsi at h
            split at h
            · cases h
            · rename_i hs
              have hs : isStar a = false := by simpa using hs
              split at h
              · cases h
              · rename_i c0 h1
                split at h
                · rename_i y q
                  split at h
                  · rename_i hgy
                    split at h
                    · rename_i t h2
                      cases h
                      exact ok_isi1 o hs h2 hgy hg (ih a c0 h1).pe
                    · obtain ⟨hits, h2, rfl⟩ := Option.map_eq_some_iff.mp h
                      exact ok_isx o hs h2 hgy hg (ih a c0 h1).pe
                  · cases h
                · rename_i es kk q
                  split at h
                  · rename_i hgy
                    rw [Bool.and_eq_true] at hgy
                    obtain ⟨t, h2, rfl⟩ := Option.map_eq_some_iff.mp h
                    exact ok_isiT o (of_decide_eq_true hgy.2) hs h2 hgy.1 hg (ih a c0 h1).pe
                  · cases h
                · cases h
          · cases h
        · split at h
          · rename_i hx
            subst hx
            split at h
            · rename_i a
              split at h
              · cases h
              · rename_i hs
                obtain ⟨c0, h1, rfl⟩ := Option.map_eq_some_iff.mp h
                exact ok_mk (ok_listc o hg (ih a c0 h1).pe (by simpa using hs))
            · cases h
          · split at h
            · rename_i q es h1 h2
              cases h
              obtain ⟨q1, q2⟩ := ok_list ih h2
              exact ok_bi o hno hg h1 q1 q2
            · cases h
theorem step_ok (o : XO X W ca cl k g S) {r : Sc → Expr → Option CE} (ih : IH ca cl B k g r) {e : Expr} {c : CE} (h : stepE g r S e = some c) : EOk X W ca cl B e c := by
  have ih' : ∀ e c, r S e = some c → EOk X W ca cl B e c := fun e c h => ih S X W e c h o
  unfold stepE at h
  split at h
  · exact ev_of (ok_name o h)
  · exact ev_of (ok_const h)
  · rename_i a op b pos
    unfold cBin at h
    split at h
    · rename_i q c d h1 h2 h3
      split at h
      · split at h
        · cases h
          have := opOf_opE h1
          subst this
          exact ev_of (ok_mk (ok_cat (ih' a c h2).pe (ih' b d h3).pe))
        · cases h
          have := opOf_opE h1
          subst this
          exact ev_of (ok_mk (ok_rep (ih' a c h2).pe (ih' b d h3).pe))
        · cases h
      · cases h
        exact ev_of (ok_bin h1 (ih' a c h2).pe (ih' b d h3).pe)
    · cases h
  · rename_i op a pos
    unfold cUn at h
    split at h
    · rename_i c h1
      cases h
      exact ok_not (ih' a c h1)
    · rename_i c h1
      cases h
      exact ev_of (ok_neg (ih' a c h1).pe)
    · cases h
  · rename_i op vs pos
    obtain ⟨q1, q2⟩ := ok_bool (pos := pos) ih' h
    exact ⟨q1, q2.pt⟩
  · rename_i a op b pos
    unfold cCmp at h
    split at h
    · split at h
      · rename_i hb
        obtain ⟨c, h1, rfl⟩ := Option.map_eq_some_iff.mp h
        have : ∃ kk p, b = .Constant .none kk p := by
          unfold isNone at hb
          split at hb
          · exact ⟨_, _, rfl⟩
          · cases hb
        obtain ⟨kk, p, rfl⟩ := this
        exact ok_isN (ih' a c h1).pe
      · cases h
    · split at h
      · rename_i hb
        obtain ⟨c, h1, rfl⟩ := Option.map_eq_some_iff.mp h
        have : ∃ kk p, b = .Constant .none kk p := by
          unfold isNone at hb
          split at hb
          · exact ⟨_, _, rfl⟩
          · cases hb
        obtain ⟨kk, p, rfl⟩ := this
        exact ok_notN (ih' a c h1).pe
      · cases h
    · split at h
      · cases h
      · rename_i hs
        split at h
        · rename_i q c d h1 h2 h3
          cases h
          exact ok_cmp o h1 (by simpa using hs) (ih' a c h2).pe (ih' b d h3).pe
        · cases h
  · rename_i a op op2 b c pos
    unfold cCmp2 at h
    split at h
    · cases h
    · rename_i hs
      simp only [Bool.or_eq_true, not_or, Bool.not_eq_true] at hs
      split at h
      · rename_i q q2 x y z h1 h2 h3 h4 h5
        cases h
        exact ok_cmp2 o h1 h2 hs.1 hs.2 (ih' a x h3).pe (ih' b y h4).pe (ih' c z h5).pe
      · cases h
  · rename_i c a b pos
    unfold cIf at h
    split at h
    · rename_i x y z h1 h2 h3
      cases h
      exact ok_iteT (ih' c x h1) (ih' a y h2) (ih' b z h3)
    · cases h
  · obtain ⟨cs, h1, rfl⟩ := Option.map_eq_some_iff.mp h
    exact ev_of (ok_tup (ok_list ih' h1).1)
  · obtain ⟨cs, h1, rfl⟩ := Option.map_eq_some_iff.mp h
    exact ev_of (ok_mk (ok_disp (ok_list ih' h1).1))
  · rename_i a i pos
    unfold cSub at h
    split at h
    · cases h
    · rename_i a' h1
      have ha := (ih' a a' h1).pe
      split at h
      · obtain ⟨c, h2, rfl⟩ := Option.map_eq_some_iff.mp h
        exact ev_of (ok_slLo ha (ih' _ c h2).pe)
      · obtain ⟨c, h2, rfl⟩ := Option.map_eq_some_iff.mp h
        exact ev_of (ok_slHi ha (ih' _ c h2).pe)
      · split at h
        · rename_i c d h2 h3
          cases h
          exact ev_of (ok_slLH ha (ih' _ c h2).pe (ih' _ d h3).pe)
        · cases h
      · cases h
        exact ev_of (ok_rev ha)
      · cases h
      · rename_i n1 n2 n3 n4
        obtain ⟨c, h2, rfl⟩ := Option.map_eq_some_iff.mp h
        refine ev_of (ok_ix ?_ ha (ih' _ c h2).pe)
        cases i <;> first | rfl | exact absurd rfl (n4 _ _ _ _)
  · rename_i elt gs scope pos
    obtain ⟨l, h1, rfl⟩ := Option.map_eq_some_iff.mp h
    exact ev_of (ok_mk (ok_compE o ih h1))
  · rename_i x p f pos
    split at h
    · rename_i hf
      subst hf
      obtain ⟨c, h1, rfl⟩ := Option.map_eq_some_iff.mp h
      exact ev_of (ok_val (ih' _ c h1).pe)
    · cases h
  · exact ev_of (ok_callE o ih' h)
  · rename_i ob m ap args kws pos
    unfold cMeth at h
    split at h
    · cases h
    · rename_i hl
      simp only [Bool.or_eq_true, not_or, Bool.not_eq_true, Bool.not_eq_false'] at hl
      split at h
      · rename_i hm
        subst hm
        split at h
        · obtain ⟨c, h1, rfl⟩ := Option.map_eq_some_iff.mp h
          have hk : kws = [] := by simpa using hl.1.2
          subst hk
          exact ev_of (ok_pop hl.2 hl.1.1 (ih' ob c h1).pe)
        · cases h
      · split at h
        · rename_i hm
          subst hm
          have hk : kws = [] := by simpa using hl.1.2
          subst hk
          split at h
          · rename_i a
            split at h
            · cases h
            · rename_i hs
              split at h
              · rename_i c d h1 h2
                cases h
                exact ev_of (ok_join hl.2 hl.1.1 (by simpa using hs) (ih' ob c h1).pe (ih' a d h2).pe)
              · cases h
          · cases h
        · cases h
  · cases h
end
theorem cE_ok {ca : Nat → Addr} {cl : Nat → List D → Ev D} {k : Nat} {g : GE} {B : List Nat} : ∀ n : Nat, IH ca cl B k g (cE g n)
  | 0 => fun S X W e c h o => by cases h
  | n + 1 => fun S X W e c h o => step_ok o (cE_ok n) h
end MP

set_option Elab.async false
set_option linter.all false
set_option maxRecDepth 100000
set_option maxHeartbeats 1000000
namespace MP
open PySem PySem.Spec PyProof.Rows L2

/-- what is asked of a statement's end -/
def OutS (K : PySem.W.Frag) (Z : List Addr) (B : List Nat) (ca : Nat → Addr) (W : WX) (D : Ends) (φ : List Addr) (H : Hp) (r : Option (Fl × Env × MH)) : Prop :=
  match r with
  | none => False
  | some (fl, ρ', M') => ∀ φ' σ' H', Rel K Z φ' B ρ' M' σ' H' → Ext Z φ H φ' H' → match fl with
    | .nx => D.nx σ' H'
    | .bk => D.bk σ' H'
    | .ct => D.ct σ' H'
    | .rt d => ∀ v, RelD K Z φ' H' d v → D.rt v H'
    | .xc c d => ∀ v dx, Nf Z φ' dx → H' dx = some (.xd [("value", v)]) → RelD K Z φ' H' d v → W (.ref (ca c)) (some dx) σ' H'
def tS1 (K : PySem.W.Frag) (B : List Nat) (ca : Nat → Addr) (W : WX) (cl : Nat → List D → Ev D) (b wf : Nat) (c : CS) : TS := fun D σ H =>
  ∃ Z φ ρ M, Rel K Z φ B ρ M σ H ∧ OutS K Z B ca W D φ H (exs1 cl b wf c ρ M)
def tS (K : PySem.W.Frag) (B : List Nat) (ca : Nat → Addr) (W : WX) (cl : Nat → List D → Ev D) (b wf : Nat) (c : CSs) : TS := fun D σ H =>
  ∃ Z φ ρ M, Rel K Z φ B ρ M σ H ∧ OutS K Z B ca W D φ H (exs cl b wf c ρ M)
theorem _root_.L2.PS.imp {X : Cx} {e : Stmt} {t t' : TS} (h : PS X e t) (i : ∀ D σ H, t' D σ H → t D σ H) : PS X e t' := ⟨fun pins s σ H D I q => h.run pins s σ H D I (i D σ H q)⟩
theorem _root_.L2.PSs.imp {X : Cx} {e : List Stmt} {t t' : TS} (h : PSs X e t) (i : ∀ D σ H, t' D σ H → t D σ H) : PSs X e t' := ⟨fun pins s σ H D I q => h.run pins s σ H D I (i D σ H q)⟩
section
variable {K : PySem.W.Frag} {Z : List Addr} {B : List Nat} {ca : Nat → Addr} {W : WX} {cl : Nat → List D → Ev D} {ρ : Env} {σ : L2.St} {φ φ' : List Addr} {H H' : Hp} {M : MH} {E : Ends} {b wf : Nat}
theorem OutS.ext {r : Option (Fl × Env × MH)} (h : OutS K Z B ca W E φ H r) (e : Ext Z φ H φ' H') : OutS K Z B ca W E φ' H' r := by
  cases r with
  | none => exact h
  | some r =>
    obtain ⟨fl, ρ', M'⟩ := r
    exact fun φ2 σ2 H2 R2 e2 => h φ2 σ2 H2 R2 (e.trans e2)
theorem OutS.bind {α : Type} {x : Ev α} {f : α → Se} (h : OutS K Z B ca W E φ H (sbind x ρ f M)) : Out K Z B ca W ρ σ φ H (x M) fun a M1 φ1 H1 => OutS K Z B ca W E φ1 H1 (f a M1) := by
  unfold sbind at h
  cases hx : x M with
  | none => rw [hx] at h; exact h
  | some r =>
    rw [hx] at h
    cases r with
    | ok a M1 => exact fun φ1 H1 R1 e1 => OutS.ext h e1
    | ex c d M1 => exact fun φ1 H1 v dx R1 e1 n hd rv => h φ1 σ H1 R1 e1 v dx n hd rv
theorem OutS.lift {α : Type} {o : Option α} {f : α → Se} (h : OutS K Z B ca W E φ H (sbind (Ev.lift o) ρ f M)) : ∃ a, o = some a ∧ OutS K Z B ca W E φ H (f a M) := by
  cases o with
  | none => exact h.elim
  | some a => exact ⟨a, rfl, h⟩
theorem OutS.look {α : Type} {o : MH → Option α} {f : α → Se} (h : OutS K Z B ca W E φ H (sbind (Ev.look o) ρ f M)) : ∃ a, o M = some a ∧ OutS K Z B ca W E φ H (f a M) := by
  unfold sbind Ev.look at h
  cases e : o M with
  | none => rw [e] at h; exact h.elim
  | some a => rw [e] at h; exact ⟨a, rfl, h⟩
theorem OutS.nx (h : OutS K Z B ca W E φ H (some (.nx, ρ, M))) (R : Rel K Z φ B ρ M σ H) : E.nx σ H := h φ σ H R (Ext.refl R)
theorem tOf.stepS {c : CE} {f : D → Se} (R : Rel K Z φ B ρ M σ H) (O : OutS K Z B ca W E φ H (sbind (ev cl c ρ) ρ f M)) :
    tOf K B ca W cl c σ H fun v H1 => ∃ φ1 M1 d, Rel K Z φ1 B ρ M1 σ H1 ∧ Ext Z φ H φ1 H1 ∧ RelD K Z φ1 H1 d v ∧ OutS K Z B ca W E φ1 H1 (f d M1) :=
  ⟨Z, φ, ρ, M, R, O.bind.imp fun d M1 φ1 H1 R1 e1 o v r => ⟨φ1, M1, d, R1, e1, r, o⟩⟩
theorem tOfs.stepS {es : CEs} {f : List D → Se} (R : Rel K Z φ B ρ M σ H) (O : OutS K Z B ca W E φ H (sbind (evs cl es ρ) ρ f M)) :
    tOfs K B ca W cl es σ H fun vs H1 => ∃ φ1 M1 ds, Rel K Z φ1 B ρ M1 σ H1 ∧ Ext Z φ H φ1 H1 ∧ RelDs K Z φ1 H1 ds vs ∧ OutS K Z B ca W E φ1 H1 (f ds M1) :=
  ⟨Z, φ, ρ, M, R, O.bind.imp fun d M1 φ1 H1 R1 e1 o v r => ⟨φ1, M1, d, R1, e1, r, o⟩⟩
end

section
variable {X : Cx} {W : WX} {ca : Nat → Addr} {cl : Nat → List D → Ev D} {k : Nat} {g : GE} {S : Sc} {B : List Nat} {b wf : Nat} {a e : Expr} {c ca' cb' : CE} {pos : Pos}
theorem st_expr (hc : isCallE e = true) (he : PE X e (tOf X.K B ca W cl c)) : PS X (.Expr e pos) (tS1 X.K B ca W cl b wf (.expr c)) := by
  refine (ps_expr he (by cases e <;> first | rfl | cases hc)).imp fun D σ H ⟨Z, φ, ρ, M, R, O⟩ => ?_
  simp only [exs1] at O
  exact (tOf.stepS R O).mono fun x H1 ⟨φ1, M1, d1, R1, e1, r1, O1⟩ => O1.nx R1
theorem st_doc {x : Str} {j : Nat} {pos' : Pos} : PS X (.Expr (.Constant (.str x) j pos) pos') (tS1 X.K B ca W cl b wf .pass) :=
  ps_doc.imp fun D σ H ⟨Z, φ, ρ, M, R, O⟩ => by
    simp only [exs1] at O
    exact O.nx R
theorem st_ret (he : PE X e (tOf X.K B ca W cl c)) : PS X (.Return (some e) pos) (tS1 X.K B ca W cl b wf (.ret c)) := by
  refine (ps_ret he).imp fun D σ H ⟨Z, φ, ρ, M, R, O⟩ => ?_
  simp only [exs1] at O
  exact (tOf.stepS R O).mono fun x H1 ⟨φ1, M1, d1, R1, e1, r1, O1⟩ => O1 φ1 σ H1 R1 (Ext.refl R1) x r1
theorem st_retN : PS X (.Return none pos) (tS1 X.K B ca W cl b wf .retN) := by
  refine ps_retN.imp fun D σ H ⟨Z, φ, ρ, M, R, O⟩ => ?_
  simp only [exs1] at O
  exact O φ σ H R (Ext.refl R) .non rfl
theorem st_pass : PS X (.Pass pos) (tS1 X.K B ca W cl b wf .pass) :=
  ps_pass.imp fun D σ H ⟨Z, φ, ρ, M, R, O⟩ => by
    simp only [exs1] at O
    exact O.nx R
theorem st_brk : PS X (.Break pos) (tS1 X.K B ca W cl b wf .brk) :=
  ps_break.imp fun D σ H ⟨Z, φ, ρ, M, R, O⟩ => by
    simp only [exs1] at O
    exact O φ σ H R (Ext.refl R)
theorem st_cont : PS X (.Continue pos) (tS1 X.K B ca W cl b wf .cont) :=
  ps_continue.imp fun D σ H ⟨Z, φ, ρ, M, R, O⟩ => by
    simp only [exs1] at O
    exact O φ σ H R (Ext.refl R)
/-- name = value, as a reading -/
theorem rd_set {i : Nat} {D : Ends} {σ : L2.St} {H : Hp} (h : tS1 X.K B ca W cl b wf (.set i c) D σ H) : tAsg (tOf X.K B ca W cl c) (gName i) D σ H := by
  obtain ⟨Z, φ, ρ, M, R, O⟩ := h
  simp only [exs1] at O
  exact (tOf.stepS R O).mono fun x H1 ⟨φ1, M1, d1, R1, e1, r1, O1⟩ => O1.nx (R1.setS r1)
def isCompE : Expr → Bool
  | .ListComp .. => true
  | .SetComp .. => true
  | .DictComp .. => true
  | _ => false
theorem sw_no {t : Option Expr} {l : Nat} {env : PySem.Env} (h : isCompE e = false) : swapsWith e t l env = pure false := by
  cases e <;> first | rfl | cases h
theorem st_set {i : Nat} {x : Str} {p : Pos} (o : XO X W ca cl k g S) (hi : slotOf S.N x = some i) (hs : stB S x = true) (hw : swapsWith e (some (.Name x p)) pos.line X.env = pure false) (he : PE X e (tOf X.K B ca W cl c)) :
    PS X (.Assign [.Name x p] e pos) (tS1 X.K B ca W cl b wf (.set i c)) := by
  obtain ⟨l1, l2⟩ := o.loc hs
  exact (ps_set o.nd (o.slot hi) l1 he hw l2).imp fun D σ H h => rd_set h
theorem st_unp {es : List Expr} {kk : Nat} {p : Pos} {t : List Nat} (o : XO X W ca cl k g S) (ht : cTg S (.Tuple es kk p) = some (t, false)) (hw : swappedStores [.Tuple es kk p] e X.env = pure none) (he : PE X e (tOf X.K B ca W cl c)) :
    PS X (.Assign [.Tuple es kk p] e pos) (tS1 X.K B ca W cl b wf (.unp t c)) := by
  refine (ps_asg he (pg_tg o ht) ?_ hw rfl).imp fun D σ H ⟨Z, φ, ρ, M, R, O⟩ => ?_
  · show swapsWith e (some (.Tuple es kk p)) pos.line X.env = pure false
    cases e <;> rfl
  · simp only [exs1] at O
    refine (tOf.stepS R O).mono fun x H1 ⟨φ1, M1, d1, R1, e1, r1, O1⟩ => ?_
    obtain ⟨ρ', h1, O1⟩ := O1.lift
    exact rd_tg R1 r1 h1 fun σ' R2 _ => O1.nx R2
/-- several names at once -/
theorem st_par2 {x y : Str} {i j : Nat} {e1 e2 : Expr} {c1 c2 : CE} {px py pt pt2 : Pos} {kt k2 : Nat} (o : XO X W ca cl k g S) (hi : slotOf S.N x = some i) (hj : slotOf S.N y = some j) (hij : i ≠ j) (hx : locB S.sc x = true) (hy : locB S.sc y = true)
    (hw : swappedStores [.Tuple [.Name x px, .Name y py] kt pt] (.Tuple [e1, e2] k2 pt2) X.env = pure (some [x, y])) (ha : PA X [e1, e2] (tOfs X.K B ca W cl (.cons c1 (.cons c2 .nil)))) :
    PS X (.Assign [.Tuple [.Name x px, .Name y py] kt pt] (.Tuple [e1, e2] k2 pt2) pos) (tS1 X.K B ca W cl b wf (.par [i, j] (.cons c1 (.cons c2 .nil)))) := by
  have loc : ∀ {z : Str}, locB S.sc z = true → X.env.scope.names.lookup z = some .local := fun {z} h => by
    rw [o.sc]
    unfold locB at h
    split at h
    · assumption
    · cases h
  refine (ps_par o.calm o.nd (o.slot hi) (o.slot hj) hij (loc hx) (loc hy) ha hw rfl).imp fun D σ H ⟨Z, φ, ρ, M, R, O⟩ => ?_
  simp only [exs1] at O
  refine (tOfs.stepS R O).mono fun vs H1 ⟨φ1, M1, ds, R1, e1, r1, O1⟩ => ?_
  obtain ⟨ρ', h1, O1⟩ := O1.lift
  match ds, h1, r1 with
  | [d1, d2], h1, r1 =>
    cases h1
    obtain ⟨v1, r, rfl, q1, r1⟩ := (show ∃ v r, vs = v :: r ∧ RelD X.K Z φ1 H1 d1 v ∧ RelDs X.K Z φ1 H1 [d2] r from r1)
    obtain ⟨v2, r, rfl, q2, r1⟩ := (show ∃ v s, r = v :: s ∧ RelD X.K Z φ1 H1 d2 v ∧ RelDs X.K Z φ1 H1 [] s from r1)
    cases (show r = [] from r1)
    exact ⟨v1, v2, rfl, O1.nx ((R1.setS q1).setS q2)⟩
  | [], h1, _ => cases h1
  | [_], h1, _ => cases h1
  | _ :: _ :: _ :: _, h1, _ => cases h1
theorem st_par3 {x y z : Str} {i j l : Nat} {e1 e2 e3 : Expr} {c1 c2 c3 : CE} {px py pz pt pt2 : Pos} {kt k2 : Nat} (o : XO X W ca cl k g S) (hi : slotOf S.N x = some i) (hj : slotOf S.N y = some j) (hl : slotOf S.N z = some l) (hij : i ≠ j) (hil : i ≠ l) (hjl : j ≠ l)
    (hx : locB S.sc x = true) (hy : locB S.sc y = true) (hz : locB S.sc z = true)
    (hw : swappedStores [.Tuple [.Name x px, .Name y py, .Name z pz] kt pt] (.Tuple [e1, e2, e3] k2 pt2) X.env = pure (some [x, y, z])) (ha : PA X [e1, e2, e3] (tOfs X.K B ca W cl (.cons c1 (.cons c2 (.cons c3 .nil))))) :
    PS X (.Assign [.Tuple [.Name x px, .Name y py, .Name z pz] kt pt] (.Tuple [e1, e2, e3] k2 pt2) pos) (tS1 X.K B ca W cl b wf (.par [i, j, l] (.cons c1 (.cons c2 (.cons c3 .nil))))) := by
  have loc : ∀ {z : Str}, locB S.sc z = true → X.env.scope.names.lookup z = some .local := fun {z} h => by
    rw [o.sc]
    unfold locB at h
    split at h
    · assumption
    · cases h
  refine (ps_par3 o.calm o.nd (o.slot hi) (o.slot hj) (o.slot hl) hij hil hjl (loc hx) (loc hy) (loc hz) ha hw rfl).imp fun D σ H ⟨Z, φ, ρ, M, R, O⟩ => ?_
  simp only [exs1] at O
  refine (tOfs.stepS R O).mono fun vs H1 ⟨φ1, M1, ds, R1, e1, r1, O1⟩ => ?_
  obtain ⟨ρ', h1, O1⟩ := O1.lift
  match ds, h1, r1 with
  | [d1, d2, d3], h1, r1 =>
    cases h1
    obtain ⟨v1, r, rfl, q1, r1⟩ := (show ∃ v r, vs = v :: r ∧ RelD X.K Z φ1 H1 d1 v ∧ RelDs X.K Z φ1 H1 [d2, d3] r from r1)
    obtain ⟨v2, r, rfl, q2, r1⟩ := (show ∃ v s, r = v :: s ∧ RelD X.K Z φ1 H1 d2 v ∧ RelDs X.K Z φ1 H1 [d3] s from r1)
    obtain ⟨v3, r, rfl, q3, r1⟩ := (show ∃ v s, r = v :: s ∧ RelD X.K Z φ1 H1 d3 v ∧ RelDs X.K Z φ1 H1 [] s from r1)
    cases (show r = [] from r1)
    exact ⟨v1, v2, v3, rfl, O1.nx (((R1.setS q1).setS q2).setS q3)⟩
  | [], h1, _ => cases h1
  | [_], h1, _ => cases h1
  | [_, _], h1, _ => cases h1
  | _ :: _ :: _ :: _ :: _, h1, _ => cases h1
theorem st_if {th el : List Stmt} {c1 c2 : CSs} (hc : PT X e (tB (tOf X.K B ca W cl c))) (h1 : PSs X th (tS X.K B ca W cl b wf c1)) (h2 : PSs X el (tS X.K B ca W cl b wf c2)) : PS X (.If e th el pos) (tS1 X.K B ca W cl b wf (.iff c c1 c2)) := by
  refine (ps_if hc h1 h2).imp fun D σ H ⟨Z, φ, ρ, M, R, O⟩ => ?_
  simp only [exs1] at O
  refine (tOf.stepS R O).mono fun x H1 ⟨φ1, M1, d1, R1, e1, r1, O1⟩ => ?_
  obtain ⟨q, h1, O1⟩ := O1.lift
  have := truD_of h1
  subst this
  cases (show x = .bl q from r1)
  refine ⟨q, rfl, ?_⟩
  cases q with
  | true => exact ⟨Z, φ1, ρ, M1, R1, O1⟩
  | false => exact ⟨Z, φ1, ρ, M1, R1, O1⟩
end
end MP

set_option Elab.async false
set_option linter.all false
set_option maxRecDepth 100000
set_option maxHeartbeats 1000000
namespace MP
open PySem PySem.Spec PyProof.Rows L2
section
variable {X : Cx} {W : WX} {ca : Nat → Addr} {cl : Nat → List D → Ev D} {k : Nat} {g : GE} {S : Sc} {B : List Nat} {b wf : Nat} {a i e : Expr} {c ca' cb' ci : CE} {pos : Pos}
theorem below_store {K : PySem.W.Frag} {Z φ : List Addr} {ρ : Env} {M : MH} {σ : L2.St} {H : Hp} {n : Nat} {xs : List D} {d : D} (R : Rel K Z φ B ρ M σ H) (hB : ∀ b' ∈ B, b' ≤ b) (hx : M[n]? = some (.lst xs)) (h : b ≤ n ∨ norefs d = true) : ∀ b' ∈ B, n < b' → belows b' xs = true ∧ below b' d = true := fun b' hb hn => by
  refine ⟨R.old b' hb n _ hn hx, ?_⟩
  rcases h with h | h
  · have := hB b' hb; omega
  · exact below_norefs d h
theorem st_app {pos' ap : Pos} (hB : ∀ b' ∈ B, b' ≤ b) (hbs : isCallE a = false) (hl : (ap.endLine == pos'.line) = true) (hs : isStar e = false) (ha : PE X a (tOf X.K B ca W cl ca')) (he : PE X e (tOf X.K B ca W cl c)) :
    PS X (.Expr (.Call (.Attribute a "append" ap) [e] [] pos') pos) (tS1 X.K B ca W cl b wf (.app ca' c)) := by
  refine (ps_expr (pe_bm PySem.F.plainAttrs_list PySem.F.slot_list_append PySem.F.type_list_append mt_append ha (pa_cons he pa_nil (star_no hs)) (attr_base hbs) (by rw [star_no hs]; rfl) hl (star_no hs) rfl) rfl).imp fun D σ H ⟨Z, φ, ρ, M, R, O⟩ => ?_
  simp only [exs1] at O
  refine (tOf.stepS R O).mono fun x H1 ⟨φ1, M1, d1, R1, e1, r1, O1⟩ => ?_
  obtain ⟨ys, hy, O1⟩ := O1.look
  obtain ⟨p, ws, rfl, h1, h2⟩ := lst_of R1 r1 hy
  refine ⟨.inl ⟨rfl, ws, SqL.of h1⟩, ?_⟩
  refine (tOf.stepS R1 O1).mono fun y H2 ⟨φ2, M2, d2, R2, e2, r2, O2⟩ => ?_
  have r1 := RelD.ext e2 _ _ r1
  unfold sbind appE at O2
  cases d1 with
  | ref n =>
    obtain ⟨q, h3, h4⟩ := (show ∃ a, φ2[n]? = some a ∧ V.ref p = .ref a from r1)
    cases h4
    simp only at O2
    cases hx : M2[n]? with
    | none => rw [hx] at O2; exact O2.elim
    | some mo =>
      rw [hx] at O2
      cases mo with
      | lst xs =>
        simp only at O2
        by_cases hc : xs.length < sizeLine ∧ (b ≤ n ∨ norefs d2 = true)
        · rw [if_pos hc] at O2
          obtain ⟨vs, h5, h6⟩ := R2.obj n p _ h3 hx
          obtain ⟨R3, e3⟩ := R2.write h3 hx (h6.app (RelDs.one r2)) (fun b' hb hn => by
            obtain ⟨q1, q2⟩ := below_store R2 hB hx hc.2 b' hb hn
            rw [belows_app, q1]
            show (below b' d2 && true) = true
            rw [q2]; rfl)
          exact ⟨p, vs, y, rfl, rfl, h5, by rw [h6.length]; exact hc.1, (OutS.ext O2 e3).nx R3⟩
        · rw [if_neg hc] at O2; exact O2.elim
      | _ => exact O2.elim
  | _ => exact O2.elim
/-- a store into a list, by values -/
theorem rd_setIx {K : PySem.W.Frag} {Z φ : List Addr} {ρ : Env} {M : MH} {σ : L2.St} {H : Hp} {En : Ends} {f : Unit → Se} {x y d : D} {v u z : V} (hB : ∀ b' ∈ B, b' ≤ b) (R : Rel K Z φ B ρ M σ H) (rx : RelD K Z φ H x v) (ry : RelD K Z φ H y u) (rd : RelD K Z φ H d z)
    (O : OutS K Z B ca W En φ H (sbind (setIxE b x y d) ρ f M)) {Q : Hp → Prop} (q : ∀ φ' M' H', Rel K Z φ' B ρ M' σ H' → OutS K Z B ca W En φ' H' (f () M') → Q H') : rSetL v u z H Q := by
  unfold sbind setIxE at O
  cases x with
  | ref n =>
    cases y with
    | int k =>
      simp only at O
      obtain ⟨p, h3, rfl⟩ := (show ∃ a, φ[n]? = some a ∧ v = .ref a from rx)
      cases (show u = .int k from ry)
      cases hx : M[n]? with
      | none => rw [hx] at O; exact O.elim
      | some mo =>
        rw [hx] at O
        cases mo with
        | lst xs =>
          simp only at O
          cases hj : L2.ixN xs.length k with
          | none => rw [hj] at O; exact O.elim
          | some j =>
            rw [hj] at O
            simp only at O
            by_cases hc : b ≤ n ∨ norefs d = true
            · rw [if_pos hc] at O
              obtain ⟨vs, h5, h6⟩ := R.obj n p _ h3 hx
              obtain ⟨R3, e3⟩ := R.write h3 hx (RelDs.set rd j h6) (fun b' hb hn => by
                obtain ⟨q1, q2⟩ := below_store R hB hx hc b' hb hn
                exact belows_set q2 j xs q1)
              exact ⟨p, vs, k, j, rfl, rfl, h5, by rw [h6.length]; exact hj, q _ _ _ R3 (OutS.ext O e3)⟩
            · rw [if_neg hc] at O; exact O.elim
        | _ => exact O.elim
    | _ => exact O.elim
  | _ => exact O.elim
theorem sub_assign {p : Pos} (hi : isSlice i = false) (v : Value) : assign (.Subscript a i p) X.env v = (do
      let ov ← holding [v] (eval a X.env)
      let iv ← holding [v, ov] (eval i X.env)
      standAt p
      holding [v, ov, iv] (setItem ov iv v)
      release [v, ov, iv] []) := by
  cases i <;> first | rfl | (simp [isSlice] at hi)
theorem st_setIx {p : Pos} (hB : ∀ b' ∈ B, b' ≤ b) (his : isSlice i = false) (ha : PE X a (tOf X.K B ca W cl ca')) (hi : PE X i (tOf X.K B ca W cl ci)) (he : PE X e (tOf X.K B ca W cl c)) :
    PS X (.Assign [.Subscript a i p] e pos) (tS1 X.K B ca W cl b wf (.setIx ca' ci c)) := by
  refine (ps_asg he (pg_sub ha hi set_list (fun v => sub_assign his v)) (by show swapsWith e (some (.Subscript a i p)) pos.line X.env = pure false; cases e <;> rfl) (by cases e <;> rfl) rfl).imp fun D σ H ⟨Z, φ, ρ, M, R, O⟩ => ?_
  simp only [exs1] at O
  refine (tOf.stepS R O).mono fun z H1 ⟨φ1, M1, d1, R1, e1, r1, O1⟩ => ?_
  refine (tOf.stepS R1 O1).mono fun x H2 ⟨φ2, M2, d2, R2, e2, r2, O2⟩ => ?_
  refine (tOf.stepS R2 O2).mono fun y H3 ⟨φ3, M3, d3, R3, e3, r3, O3⟩ => ?_
  have r1 := RelD.ext e3 _ _ (RelD.ext e2 _ _ r1)
  have r2 := RelD.ext e3 _ _ r2
  exact rd_setIx hB R3 r2 r3 r1 O3 fun φ' M' H' R' O' => O'.nx R'
def opAug : BOp → Option (Int → Int → Int)
  | .add => some fun i j => i + j
  | .sub => some fun i j => i - j
  | _ => none
theorem ip_ok {op : Operator} {o : BOp} {f : Int → Int → Int} (ho : opOf op = some o) (hf : opAug o = some f) : PIp X op (ipI f) ∧ ∀ d1 d2 d, augD o d1 d2 = some d → ∃ i j, d1 = .int i ∧ d2 = .int j ∧ d = .int (f i j) := by
  cases o <;> first | (cases hf; done) | skip
  · cases hf
    have := opOf_opE ho
    subst this
    refine ⟨ip_add, fun d1 d2 d h => ?_⟩
    cases d1 <;> cases d2 <;> first | (cases h; exact ⟨_, _, rfl, rfl, rfl⟩) | cases h
  · cases hf
    have := opOf_opE ho
    subst this
    refine ⟨ip_sub, fun d1 d2 d h => ?_⟩
    cases d1 <;> cases d2 <;> first | (cases h; exact ⟨_, _, rfl, rfl, rfl⟩) | cases h
theorem st_aug {op : Operator} {o' : BOp} {f : Int → Int → Int} {x : Str} {j : Nat} {p : Pos} (o : XO X W ca cl k g S) (ho : opOf op = some o') (hf : opAug o' = some f) (hj : slotOf S.N x = some j) (hs : stB S x = true) (he : PE X e (tOf X.K B ca W cl c)) :
    PS X (.AugAssign (.Name x p) op e pos) (tS1 X.K B ca W cl b wf (.aug o' j c)) := by
  obtain ⟨l1, l2⟩ := o.loc hs
  obtain ⟨q1, q2⟩ := ip_ok (X := X) ho hf
  refine (ps_aug o.nd (o.slot hj) l1 he q1 l2).imp fun D σ H ⟨Z, φ, ρ, M, R, O⟩ => ?_
  simp only [exs1] at O
  obtain ⟨old, h1, O⟩ := O.lift
  have hd : ρ[j]? = some (some old) := by
    unfold getS at h1
    split at h1
    · cases h1; assumption
    · cases h1
  obtain ⟨v, h2, r0⟩ := R.env j old hd
  refine ⟨v, h2, ?_⟩
  refine (tOf.stepS R O).mono fun y H1 ⟨φ1, M1, d1, R1, e1, r1, O1⟩ => ?_
  obtain ⟨new, h3, O1⟩ := O1.lift
  obtain ⟨m, n, rfl, rfl, rfl⟩ := q2 _ _ _ h3
  cases (show v = .int m from r0)
  cases (show y = .int n from r1)
  exact ⟨m, n, rfl, rfl, O1.nx (R1.setS rfl)⟩
theorem get_lst : PGet X (rIxL X.K) := by
  intro pins s σ H x y v u Q I rx ry h
  obtain ⟨p, xs, i, z, rfl, rfl, hq, he, q⟩ := h
  cases rx
  obtain ⟨t, rfl⟩ := ry
  obtain ⟨its, r, pl, hz⟩ := I.list hq
  obtain ⟨j, h1, h2, h3, h4, h5⟩ := atI_get he
  obtain ⟨w, ew, rw'⟩ := r.get h2
  have hl := r.length
  have hn := line63
  have fin : EP X pins σ Q w s := ⟨z, H, I, rw', q⟩
  by_cases h0 : 0 ≤ i
  · have hj : i.toNat = j := by
      rw [seqIndex_of h0 h5] at h1
      exact Option.some.inj h1
    exact wpAny_getItem_list pl.isList h0 (by omega) (by rw [hj]; simpa using ew) fin
  · have hj : (i + (its.toArray.size : Int)).toNat = j := by
      rw [seqIndex_neg (by omega) h4] at h1
      rw [List.size_toArray, ← hl]
      exact Option.some.inj h1
    exact wpAny_getItem_list_neg pl.isList (by omega) (by rw [List.size_toArray] <;> omega) (by omega) (by rw [hj]; simpa using ew) fin
theorem st_augIx {op : Operator} {o' : BOp} {f : Int → Int → Int} {p : Pos} (hB : ∀ b' ∈ B, b' ≤ b) (ho : opOf op = some o') (hf : opAug o' = some f) (his : isSlice i = false) (ha : PE X a (tOf X.K B ca W cl ca')) (hi : PE X i (tOf X.K B ca W cl ci)) (he : PE X e (tOf X.K B ca W cl c)) :
    PS X (.AugAssign (.Subscript a i p) op e pos) (tS1 X.K B ca W cl b wf (.augIx o' ca' ci c)) := by
  obtain ⟨q1, q2⟩ := ip_ok (X := X) ho hf
  refine (ps_augS ha hi get_lst he q1 set_list (fun ov iv new => by cases i <;> first | rfl | (simp [isSlice] at his))).imp fun D σ H ⟨Z, φ, ρ, M, R, O⟩ => ?_
  simp only [exs1] at O
  refine (tOf.stepS R O).mono fun x H1 ⟨φ1, M1, d1, R1, e1, r1, O1⟩ => ?_
  refine (tOf.stepS R1 O1).mono fun y H2 ⟨φ2, M2, d2, R2, e2, r2, O2⟩ => ?_
  have r1 := RelD.ext e2 _ _ r1
  obtain ⟨kk, h1, O2⟩ := O2.lift
  obtain ⟨old, h2, O2⟩ := O2.look
  cases d2 with
  | int kk' =>
    cases h1
    cases (show y = .int kk from r2)
    have next : ∀ {v : V}, RelD X.K Z φ2 H2 old v → tOf X.K B ca W cl c σ H2 fun y4 H4 => ipI f v y4 H4 fun z H5 => rSetL x (.int kk) z H5 fun H6 => D.nx σ H6 := fun {v} rv => by
      refine (tOf.stepS R2 O2).mono fun y4 H4 ⟨φ4, M4, d4, R4, e4, r4, O4⟩ => ?_
      obtain ⟨new, h3, O4⟩ := O4.lift
      obtain ⟨m, n, rfl, rfl, rfl⟩ := q2 _ _ _ h3
      cases (show v = .int m from rv)
      cases (show y4 = .int n from r4)
      exact ⟨m, n, rfl, rfl, rd_setIx hB R4 (RelD.ext e4 _ _ r1) (show RelD X.K Z φ4 H4 (.int kk) _ from rfl) (show RelD X.K Z φ4 H4 (.int (f m n)) _ from rfl) O4 fun φ' M' H' R' O' => O'.nx R'⟩
    obtain ⟨xs, e4, h2⟩ := Option.bind_eq_some_iff.mp h2
    obtain ⟨p, vs, rfl, h1, h3⟩ := lst_of R2 r1 e4
    obtain ⟨v, h4, h5⟩ := atI_rel h3 h2
    exact ⟨p, vs, kk, v, rfl, rfl, SqL.of h1, h4, next h5⟩
  | _ => cases h1
/-- raise C(e) -/
theorem st_raise {cn : Nat} {x : Str} {p pos' : Pos} (o : XO X W ca cl k g S) (hc : g.cls[cn]? = some x) (hg : glB S.sc x = true) (hs : isStar e = false) (he : PE X e (tOf X.K B ca W cl c)) :
    PS X (.Raise (some (.Call (.Name x p) [e] [] pos')) none pos) (tS1 X.K B ca W cl b wf (.raise cn c)) := by
  refine (ps_raise o.calm o.takes (o.go.exc cn x hc X e _ p pos' rfl rfl rfl rfl rfl o.calm o.room (o.gl hg) (pa_cons he pa_nil (star_no hs)) hs)).imp fun D σ H ⟨Z, φ, ρ, M, R, O⟩ => ?_
  simp only [exs1] at O
  refine (tOf.stepS R O).mono fun v H1 ⟨φ1, M1, d1, R1, e1, r1, O1⟩ => ?_
  refine ⟨v, rfl, fun d hd => ?_⟩
  obtain ⟨R2, e2⟩ := R1.new (o := .xd [("value", v)]) hd
  exact O1 φ1 σ _ R2 e2 v d (R1.fresh hd) upd_same (RelD.ext e2 _ _ r1)
theorem st_raiseK {cn : Nat} {x : Str} {p pos' kp : Pos} (o : XO X W ca cl k g S) (hc : g.cls[cn]? = some x) (hg : glB S.sc x = true) (he : PE X e (tOf X.K B ca W cl c)) :
    PS X (.Raise (some (.Call (.Name x p) [] [⟨some "value", e, kp⟩] pos')) none pos) (tS1 X.K B ca W cl b wf (.raise cn c)) := by
  refine (ps_raise o.calm o.takes (o.go.exk cn x hc X e _ p pos' kp rfl rfl rfl rfl rfl o.calm o.room (o.gl hg) (pk_cons he pk_nil))).imp fun D σ H ⟨Z, φ, ρ, M, R, O⟩ => ?_
  simp only [exs1] at O
  refine (tOf.stepS R O).mono fun v H1 ⟨φ1, M1, d1, R1, e1, r1, O1⟩ => ?_
  refine ⟨v, rfl, fun d hd => ?_⟩
  obtain ⟨R2, e2⟩ := R1.new (o := .xd [("value", v)]) hd
  exact O1 φ1 σ _ R2 e2 v d (R1.fresh hd) upd_same (RelD.ext e2 _ _ r1)
end
end MP

set_option Elab.async false
set_option linter.all false
set_option maxRecDepth 100000
set_option maxHeartbeats 1000000
namespace MP
open PySem PySem.Spec PyProof.Rows L2
section
variable {X : Cx} {W : WX} {ca : Nat → Addr} {cl : Nat → List D → Ev D} {k : Nat} {g : GE} {S : Sc} {B : List Nat} {b wf : Nat} {a i e : Expr} {c ca' cb' ci : CE} {pos : Pos}
/-- a turn's end: on with the rest -/
theorem OutS.turn {K : PySem.W.Frag} {Z φ : List Addr} {D : Ends} {H : Hp} {r : Option (Fl × Env × MH)} {nx : Env → Se} {N : L2.St → Hp → Prop}
    (hN : ∀ φ' σ' H' ρ' M', Rel K Z φ' B ρ' M' σ' H' → Ext Z φ H φ' H' → OutS K Z B ca W D φ' H' (nx ρ' M') → N σ' H')
    (h : OutS K Z B ca W D φ H (match r with
      | none => none
      | some (fl, ρ', M') => match fl with
        | .nx => nx ρ' M'
        | .ct => nx ρ' M'
        | .bk => some (.nx, ρ', M')
        | .rt d => some (.rt d, ρ', M')
        | .xc c d => some (.xc c d, ρ', M'))) : OutS K Z B ca W { D with nx := N, ct := N, bk := D.nx } φ H r := by
  cases r with
  | none => exact h
  | some r =>
    obtain ⟨fl, ρ', M'⟩ := r
    intro φ' σ' H' R' e'
    cases fl with
    | nx => exact hN _ _ _ _ _ R' e' (OutS.ext h e')
    | ct => exact hN _ _ _ _ _ R' e' (OutS.ext h e')
    | bk => exact h φ' σ' H' R' e'
    | rt d => exact h φ' σ' H' R' e'
    | xc c d => exact h φ' σ' H' R' e'
theorem iOf.stepS {K : PySem.W.Frag} {Z φ : List Addr} {ρ : Env} {M : MH} {σ : L2.St} {H : Hp} {s : SE} {f : Wk → Se} {D : Ends} (R : Rel K Z φ B ρ M σ H) (O : OutS K Z B ca W D φ H (sbind (evS cl s ρ) ρ f M)) :
    iOf K B ca W cl s σ H fun J H1 => ∃ φ1 M1 w, Rel K Z φ1 B ρ M1 σ H1 ∧ Ext Z φ H φ1 H1 ∧ WalkR K J w Z φ1 H1 ∧ OutS K Z B ca W D φ1 H1 (f w M1) :=
  ⟨Z, φ, ρ, M, R, O.bind.imp fun w M1 φ1 H1 R1 e1 o J wd => ⟨φ1, M1, w, R1, e1, wd, o⟩⟩
theorem iOf.mono {K : PySem.W.Frag} {σ : L2.St} {H : Hp} {s : SE} {Q Q' : It → Hp → Prop} (h : iOf K B ca W cl s σ H Q) (i : ∀ J H', Q J H' → Q' J H') : iOf K B ca W cl s σ H Q' := by
  obtain ⟨Z, φ, ρ, M, R, O⟩ := h
  exact ⟨Z, φ, ρ, M, R, O.imp fun d M' φ' H' _ _ q v r => i _ _ (q v r)⟩
theorem st_for {tg it : Expr} {body : List Stmt} {t : List Nat} {single : Bool} {s : SE} {cb : CSs} (o : XO X W ca cl k g S) (own : PassesOwn (model X.prog X.w) X.A X.env X.xe) (ht : cTg S tg = some (t, single)) (hi : PI X tg it (iOf X.K B ca W cl s))
    (hf : ∀ x, foldedSetIterable it X.env x = pure x) (hb : PSs X body (tS X.K B ca W cl b wf cb)) : PS X (.For tg it body [] pos) (tS1 X.K B ca W cl b wf (.for t single s cb)) := by
  refine (ps_for own o.calm hi (pg_tg o ht) hb hf).imp fun D σ H ⟨Z, φ, ρ, M, R, O⟩ => ?_
  simp only [exs1] at O
  refine (iOf.stepS R O).mono fun J H1 ⟨φ1, M1, w, R1, e1, wd, O1⟩ => ?_
  refine ⟨fun i m σ' H' => ∃ φ2 M2 ρ2, Rel X.K Z φ2 B ρ2 M2 σ' H' ∧ Ext Z φ1 H1 φ2 H' ∧ OutS X.K Z B ca W D φ2 H' (forW (fun d ρ => match bindT t single d ρ with | none => fun _ => none | some ρ' => exs cl b wf cb ρ') w m i ρ2 M2), ⟨_, φ1, M1, ρ, R1, Ext.refl R1, O1⟩, ?_⟩
  rintro i m σ' H' ⟨φ2, M2, ρ2, R2, e2, O2⟩
  obtain ⟨hS, hG⟩ := wd _ _ _ _ _ _ _ i e2.kp R2
  cases hw : itemW M2 w i with
  | none => unfold forW at O2; cases m <;> (simp only [hw] at O2; exact O2.elim)
  | some oo =>
    cases oo with
    | none =>
      refine .inl ⟨hS hw, ?_⟩
      unfold forW at O2
      cases m <;> (simp only [hw] at O2; exact O2.nx R2)
    | some d =>
      obtain ⟨go, hY⟩ := hG d hw
      cases m with
      | zero => unfold forW at O2; simp only [hw] at O2; exact O2.elim
      | succ m =>
        unfold forW at O2
        simp only [hw] at O2
        have O3 := OutS.turn (D := D) (N := fun σ'' H'' => ∃ φ2 M2 ρ2, Rel X.K Z φ2 B ρ2 M2 σ'' H'' ∧ Ext Z φ1 H1 φ2 H'' ∧ OutS X.K Z B ca W D φ2 H'' (forW (fun d ρ => match bindT t single d ρ with | none => fun _ => none | some ρ' => exs cl b wf cb ρ') w m (i + 1) ρ2 M2))
          (nx := fun ρ' M' => forW (fun d ρ => match bindT t single d ρ with | none => fun _ => none | some ρ' => exs cl b wf cb ρ') w m (i + 1) ρ' M')
          (fun φ' σ'' H'' ρ' M' R' e' O' => ⟨φ', M', ρ', R', e2.trans e', O'⟩) O2
        refine .inr ⟨go, _, fun σ'' H'' q => ⟨m, Nat.lt_succ_self _, q⟩, fun x H2' hy => ?_⟩
        have item : ∃ R3 : Rel X.K Z φ2 B ρ2 M2 σ' H2', Ext Z φ2 H' φ2 H2' ∧ RelD X.K Z φ2 H2' d x := by
          rcases hY x H2' hy with ⟨rfl, r⟩ | ⟨T, us, ds, hT, rfl, rfl, rfl, r⟩
          · exact ⟨R2, Ext.refl R2, r⟩
          · obtain ⟨R3, e3, r3⟩ := R2.newT hT r
            exact ⟨R3, e3, r3⟩
        obtain ⟨R3, e3, r3⟩ := item
        cases hbd : bindT t single d ρ2 with
        | none => rw [hbd] at O3; exact O3.elim
        | some ρ3 =>
          rw [hbd] at O3
          exact rd_tg R3 r3 hbd fun σ3 R4 _ => ⟨Z, φ2, ρ3, M2, R4, OutS.ext O3 e3⟩
theorem st_while {body : List Stmt} {cb : CSs} (own : PassesOwn (model X.prog X.w) X.A X.env X.xe) (hc : PT X e (tB (tOf X.K B ca W cl c))) (hb : PSs X body (tS X.K B ca W cl b wf cb)) : PS X (.While e body [] pos) (tS1 X.K B ca W cl b wf (.while c cb)) := by
  refine (ps_while own hc hb).imp fun D σ H ⟨Z, φ, ρ, M, R, O⟩ => ?_
  simp only [exs1] at O
  refine ⟨fun m σ' H' => ∃ φ2 M2 ρ2, Rel X.K Z φ2 B ρ2 M2 σ' H' ∧ OutS X.K Z B ca W D φ2 H' (whileE (fun ρ => ev cl c ρ) (fun ρ => exs cl b wf cb ρ) m ρ2 M2), ⟨_, φ, M, ρ, R, O⟩, ?_⟩
  rintro m σ' H' ⟨φ2, M2, ρ2, R2, O2⟩
  cases m with
  | zero => exact O2.elim
  | succ m =>
    have O2 : OutS X.K Z B ca W D φ2 H' (sbind (ev cl c ρ2) ρ2 (fun k M' => match k with
        | .bl true => (match exs cl b wf cb ρ2 M' with
          | none => none
          | some (fl, ρ', M') => match fl with
            | .nx => whileE (fun ρ => ev cl c ρ) (fun ρ => exs cl b wf cb ρ) m ρ' M'
            | .ct => whileE (fun ρ => ev cl c ρ) (fun ρ => exs cl b wf cb ρ) m ρ' M'
            | .bk => some (.nx, ρ', M')
            | .rt d => some (.rt d, ρ', M')
            | .xc c d => some (.xc c d, ρ', M'))
        | .bl false => some (.nx, ρ2, M')
        | _ => none) M2) := by
      unfold sbind
      unfold whileE at O2
      cases hx : ev cl c ρ2 M2 with
      | none => rw [hx] at O2; exact O2
      | some r => rw [hx] at O2; cases r <;> exact O2
    refine (tOf.stepS R2 O2).mono fun x H1 ⟨φ1, M1, d1, R1, e1, r1, O1⟩ => ?_
    cases d1 with
    | bl q =>
      cases (show x = .bl q from r1)
      refine ⟨q, rfl, ?_⟩
      cases q with
      | false => exact O1.nx R1
      | true =>
        refine ⟨fun σ'' H'' => ∃ φ2 M2 ρ2, Rel X.K Z φ2 B ρ2 M2 σ'' H'' ∧ OutS X.K Z B ca W D φ2 H'' (whileE (fun ρ => ev cl c ρ) (fun ρ => exs cl b wf cb ρ) m ρ2 M2), fun σ'' H'' q => ⟨m, Nat.lt_succ_self _, q⟩, Z, φ1, ρ2, M1, R1, ?_⟩
        exact OutS.turn (D := D) (nx := fun ρ' M' => whileE (fun ρ => ev cl c ρ) (fun ρ => exs cl b wf cb ρ) m ρ' M') (fun φ' σ'' H'' ρ' M' R' e' O' => ⟨φ', M', ρ', R', O'⟩) O1
    | _ => exact O1.elim
theorem st_nil : PSs X [] (tS X.K B ca W cl b wf .nil) := pss_nil.imp fun D σ H ⟨Z, φ, ρ, M, R, O⟩ => by
  simp only [exs] at O
  exact O.nx R
theorem st_cons {st : Stmt} {rest : List Stmt} {c1 : CS} {cs : CSs} (h1 : PS X st (tS1 X.K B ca W cl b wf c1)) (h2 : PSs X rest (tS X.K B ca W cl b wf cs)) : PSs X (st :: rest) (tS X.K B ca W cl b wf (.cons c1 cs)) := by
  refine (pss_cons h1 h2).imp fun D σ H ⟨Z, φ, ρ, M, R, O⟩ => ?_
  refine ⟨Z, φ, ρ, M, R, ?_⟩
  simp only [exs] at O
  cases hx : exs1 cl b wf c1 ρ M with
  | none => rw [hx] at O; exact O
  | some r =>
    rw [hx] at O
    obtain ⟨fl, ρ', M'⟩ := r
    intro φ' σ' H' R' e'
    cases fl with
    | nx => exact ⟨Z, φ', ρ', M', R', OutS.ext O e'⟩
    | ct => exact O φ' σ' H' R' e'
    | bk => exact O φ' σ' H' R' e'
    | rt d => exact O φ' σ' H' R' e'
    | xc c d => exact O φ' σ' H' R' e'
end
end MP

set_option Elab.async false
set_option linter.all false
set_option maxRecDepth 100000
set_option maxHeartbeats 1000000
namespace MP
open PySem PySem.Spec PyProof.Rows L2

/-! ### statements: from the text -/
def swOf (sc : Scope) (ts : List Expr) (value : Expr) : Option (Option (List Str)) :=
  match value with
  | .Tuple vs _ _ =>
    if !(ts.length == 2 || ts.length == 3) || vs.length != ts.length then some none
    else if (vs.any fun | .Starred .. => true | _ => false) then some none
    else
      let line := (ts.head?.map (·.pos.line)).getD 0
      let names := ts.filterMap fun
        | .Name id pos => if sc.names.lookup id == some .local && pos.line == line then some id else none
        | _ => none
      if names.length != ts.length || names.eraseDups.length != names.length then some none
      else if vs.all (foldedForSure 8) then some none
      else if vs.all (constantsAlone 8) then none
      else some (some names)
  | _ => some none
def fnK (sc : Scope) : Bool := sc.kind == .function
def ownIn (scope : Scope) (y : Str) : Bool := scope.names.any fun (n, k) => n == y && (k == .local || k == .cell)
/-- name = [..]: how it is stored -/
def lcSw (S : Sc) (y : Str) (py pos : Pos) (scope : Scope) : Bool := S.sc.names.lookup y == some .local && py.line == pos.line && !(ownIn scope y)
def cSetOk (S : Sc) : Expr → Bool
  | .ListComp .. => fnK S.sc
  | .SetComp .. => false
  | .DictComp .. => false
  | _ => true
def cPar (S : Sc) (ex : Expr → Option CE) : List Expr → List Expr → List Str → Option CS
  | [.Name x _, .Name y _], [a, b], ns =>
    match slotOf S.N x, slotOf S.N y, cList ex [a, b] with
    | some i, some j, some es => if ns = [x, y] ∧ i ≠ j ∧ locB S.sc x = true ∧ locB S.sc y = true then some (.par [i, j] es) else none
    | _, _, _ => none
  | [.Name x _, .Name y _, .Name z _], [a, b, c], ns =>
    match slotOf S.N x, slotOf S.N y, slotOf S.N z, cList ex [a, b, c] with
    | some i, some j, some l, some es => if ns = [x, y, z] ∧ i ≠ j ∧ i ≠ l ∧ j ≠ l ∧ locB S.sc x = true ∧ locB S.sc y = true ∧ locB S.sc z = true then some (.par [i, j, l] es) else none
    | _, _, _, _ => none
  | _, _, _ => none
def tupEs : Expr → List Expr
  | .Tuple es _ _ => es
  | _ => []
def cAsg (S : Sc) (ex : Expr → Option CE) (t e : Expr) : Option CS :=
  match t with
  | .Name x _ => match slotOf S.N x, ex e with
    | some i, some c => if stB S x && cSetOk S e then some (.set i c) else none
    | _, _ => none
  | .Tuple es kk p => if fnK S.sc then match swOf S.sc es e with
      | none => none
      | some none => match cTgs S es, ex e with
        | some is, some c => some (.unp is c)
        | _, _ => none
      | some (some ns) => cPar S ex es (tupEs e) ns
    else none
  | .Subscript a i _ => if isSlice i then none else match ex a, ex i, ex e with
    | some ca, some ci, some c => some (.setIx ca ci c)
    | _, _, _ => none
  | _ => none
def cAug (S : Sc) (ex : Expr → Option CE) (t : Expr) (op : Operator) (e : Expr) : Option CS :=
  match opOf op with
  | none => none
  | some o => if (opAug o).isNone then none else match t with
    | .Name x _ => match slotOf S.N x, ex e with
      | some i, some c => if stB S x then some (.aug o i c) else none
      | _, _ => none
    | .Subscript a i _ => if isSlice i then none else match ex a, ex i, ex e with
      | some ca, some ci, some c => some (.augIx o ca ci c)
      | _, _, _ => none
    | _ => none
def cExp (ex : Expr → Option CE) (e : Expr) : Option CS :=
  match e with
  | .Constant (.str _) _ _ => some .pass
  | .Call (.Attribute o "append" ap) [a] [] pos => if !(ap.endLine == pos.line) || isCallE o || isStar a then none else match ex o, ex a with
    | some c, some d => some (.app c d)
    | _, _ => none
  | .Call f args kws pos => (ex (.Call f args kws pos)).map .expr
  | _ => none
def cRaise (g : GE) (S : Sc) (ex : Expr → Option CE) (e : Expr) : Option CS :=
  match e with
  | .Call (.Name x _) [a] [] _ => match slotOf g.cls x with
    | none => some .stuck
    | some n => match ex a with
      | some c => if glB S.sc x && !isStar a then some (.raise n c) else none
      | none => none
  | .Call (.Name x _) [] [⟨some f, a, _⟩] _ => match slotOf g.cls x with
    | none => some .stuck
    | some n => match ex a with
      | some c => if f = "value" then (if glB S.sc x = true then some (.raise n c) else none) else none
      | none => none
  | _ => none
/-- try: body; except x as n: m = n -/
def cTry (g : GE) (S : Sc) (r : List Stmt → Option CSs) (body : List Stmt) (hs : List ExceptHandler) : Option CS :=
  match hs with
  | [.ExceptHandler (some (.Name x _)) (some n) [.Assign [.Name m _] (.Name n' _) _] _] =>
    match slotOf S.N n, slotOf S.N m, g.kids.lookup x, r body with
    | some i, some j, some hits, some b => if n = n' ∧ i ≠ j ∧ locB S.sc n = true ∧ locB S.sc m = true ∧ glB S.sc x = true ∧ nameOk n = true ∧ nameOk x = true then some (.tryK b hits g.cls j i) else none
    | _, _, _, _ => none
  | _ => none
def cSt (g : GE) (S : Sc) (ex : Expr → Option CE) (r : List Stmt → Option CSs) : Stmt → Option CS
  | .Expr e _ => cExp ex e
  | .Return (some e) _ => (ex e).map .ret
  | .Return none _ => some .retN
  | .Assign [t] e _ => cAsg S ex t e
  | .AugAssign t op e _ => cAug S ex t op e
  | .If c a b _ => match ex c, r a, r b with
    | some c, some a, some b => some (.iff c a b)
    | _, _, _ => none
  | .For tg it body [] _ => match cTg S tg with
    | some (t, single) => match cIter S ex single it, r body with
      | some s, some b => some (.for t single s b)
      | _, _ => none
    | none => none
  | .While c body [] _ => match ex c, r body with
    | some c, some b => some (.while c b)
    | _, _ => none
  | .Raise (some e) none _ => cRaise g S ex e
  | .Try body hs [] [] _ => cTry g S r body hs
  | .Pass _ => some .pass
  | .Break _ => some .brk
  | .Continue _ => some .cont
  | _ => none
def cBl (f : Stmt → Option CS) : List Stmt → Option CSs
  | [] => some .nil
  | s :: ss => match f s, cBl f ss with
    | some c, some cs => some (.cons c cs)
    | _, _ => none
def cSs (g : GE) (n : Nat) (S : Sc) : Nat → List Stmt → Option CSs
  | 0 => fun _ => none
  | m + 1 => cBl (cSt g S (cE g n S) (cSs g n S m))

section
variable {X : Cx} {W : WX} {ca : Nat → Addr} {cl : Nat → List D → Ev D} {k : Nat} {g : GE} {S : Sc} {B : List Nat} {b wf : Nat}
theorem fnK_of {sc : Scope} (h : fnK sc = true) : sc.kind = .function := by
  unfold fnK at h
  cases hk : sc.kind <;> rw [hk] at h <;> first | rfl | (revert h; decide)
theorem blockKind_of {env : PySem.Env} (h : env.scope.kind = .function) : env.blockKind = .function := by
  unfold PySem.Env.blockKind; rw [h]; rfl
theorem sw_eq {env : PySem.Env} {sc : Scope} {ts : List Expr} {kt : Nat} {pt : Pos} {value : Expr} {r : Option (List Str)} (hs : env.scope = sc) (hk : fnK sc = true) (h : swOf sc ts value = some r) : swappedStores [.Tuple ts kt pt] value env = pure r := by
  have hb : env.blockKind = .function := blockKind_of (by rw [hs]; exact fnK_of hk)
  unfold swOf at h
  split at h
  · rename_i vs k2 p2
    unfold swappedStores
    simp only [hb]
    split at h
    · rename_i h1
      cases h
      have : (!(ts.length == 2 || ts.length == 3) || vs.length != ts.length || ScopeKind.function != ScopeKind.function) = true := by rw [h1]; rfl
      rw [if_pos this]
    · rename_i h1
      have : (!(ts.length == 2 || ts.length == 3) || vs.length != ts.length || ScopeKind.function != ScopeKind.function) = false := by
        rw [Bool.or_eq_false_iff]
        exact ⟨by simpa using h1, by decide⟩
      rw [this, if_neg Bool.false_ne_true]
      split at h
      · rename_i h2
        cases h
        refine (if_pos ?_).trans rfl
        exact h2
      · rename_i h2
        refine (if_neg ?_).trans ?_
        · exact h2
        subst hs
        simp only at h
        split at h
        · rename_i h3
          cases h
          refine (if_pos ?_).trans rfl
          exact h3
        · rename_i h3
          refine (if_neg ?_).trans ?_
          · exact h3
          split at h
          · rename_i h4
            cases h
            exact (if_pos h4).trans rfl
          · rename_i h4
            refine (if_neg h4).trans ?_
            split at h
            · cases h
            · rename_i h5
              cases h
              exact (if_neg h5).trans rfl
  · rename_i h1
    cases h
    cases value <;> first | rfl | exact absurd rfl (h1 _ _ _)
end
end MP

set_option Elab.async false
set_option linter.all false
set_option maxRecDepth 100000
set_option maxHeartbeats 1000000
namespace MP
open PySem PySem.Spec PyProof.Rows L2
section
variable {X : Cx} {W : WX} {ca : Nat → Addr} {cl : Nat → List D → Ev D} {k : Nat} {g : GE} {S : Sc} {B : List Nat} {b wf : Nat}
theorem sw_lc {elt : Expr} {gs : List Comprehension} {scope : Scope} {pos py : Pos} {y : Str} {l : Nat} {env : PySem.Env} (hs : env.scope = S.sc) (hk : fnK S.sc = true) :
    swapsWith (.ListComp elt gs scope pos) (some (.Name y py)) l env = pure (lcSw S y py pos scope) := by
  have hb : env.blockKind = .function := blockKind_of (by rw [hs]; exact fnK_of hk)
  unfold swapsWith lcSw ownIn
  simp only [hb]
  show pure _ = pure _
  congr 1
  rw [show env.kindOf y = S.sc.names.lookup y by rw [← hs]; rfl]
  rfl
theorem st_setLc {i : Nat} {y : Str} {py pos spos : Pos} {elt : Expr} {gs : List Comprehension} {scope : Scope} {r : Sc → Expr → Option CE} {l : LE} {m : Bool} (o : XO X W ca cl k g S) (ih : IH ca cl B k g r) (hk : fnK S.sc = true) (hi : slotOf S.N y = some i) (hsw : lcSw S y py pos scope = true)
    (h : cComp g S r elt gs scope = some l) : PS X (.Assign [.Name y py] (.ListComp elt gs scope pos) spos) (tS1 X.K B ca W cl b wf (.set i (.mk m l))) := by
  have hyl : X.env.scope.names.lookup y = some .local := by
    unfold lcSw at hsw
    simp only [Bool.and_eq_true] at hsw
    rw [o.sc]
    exact eq_of_beq hsw.1.1
  have hsw' : swapsWith (.ListComp elt gs scope pos) (some (.Name y py)) spos.line X.env = pure true := by rw [sw_lc o.sc hk, hsw]
  unfold cComp at h
  split at h
  · rename_i tg iter ifs
    split at h
    · rename_i hb
      split at h
      · rename_i t single ht
        split at h
        · rename_i s c e hs hc he
          split at h
          · rename_i hall
            cases h
            have ok : BlkOk X.N X.env.scope scope (ownOf S.N scope) := by rw [o.N, o.sc]; exact blkOk_by hb
            obtain ⟨h1, h2⟩ := ok_iter o (fun e c h => ih S X W e c h o) (tg := tg) ht hs
            have hin : ∀ i ∈ t, i ∈ (ownOf S.N scope).map (·.2) := fun i hi => by
              have := List.all_eq_true.mp hall i hi
              simpa using this
            refine (ps_setLc (g := grOf X.K t single) (tt := tTests X.K B ca W0 cl c) (te := tOf X.K B ca W0 cl e) o.calm o.nd (o.slot hi) hyl hsw' h1 ok (fun s H C cls fp => pg_tg (o.blk s H scope cls C fp) ht) (fun s H C cls fp => ?_) (fun s H C cls fp => (ih _ _ W0 elt e he (o.blk s H scope cls C fp)).pe) h2).imp fun D σ H q => ?_
            · split at hc
              · cases hc; exact pts_nil
              · rename_i c0
                obtain ⟨c1, hc1, rfl⟩ := Option.map_eq_some_iff.mp hc
                exact pts_one (ih _ _ W0 c0 c1 hc1 (o.blk s H scope cls C fp)).pt
              · cases hc
            · exact rd_comp hin (tOf_mk (rd_set q))
          · cases h
        · cases h
      · cases h
    · cases h
  · cases h
theorem cE_lc {n : Nat} {elt : Expr} {gs : List Comprehension} {scope : Scope} {pos : Pos} {c : CE} (h : cE g n S (.ListComp elt gs scope pos) = some c) : ∃ n' l, c = .mk (mutAt g pos) l ∧ cComp g S (cE g n') elt gs scope = some l := by
  cases n with
  | zero => cases h
  | succ n =>
    obtain ⟨l, h1, rfl⟩ := Option.map_eq_some_iff.mp (show (cComp g S (cE g n) elt gs scope).map (fun l => CE.mk (mutAt g pos) l) = some c from h)
    exact ⟨n, l, rfl, h1⟩
theorem asg_ok {n : Nat} {t e : Expr} {pos : Pos} {c : CS} (o : XO X W ca cl k g S) (hB : ∀ b' ∈ B, b' ≤ b) (h : cAsg S (cE g n S) t e = some c) : PS X (.Assign [t] e pos) (tS1 X.K B ca W cl b wf c) := by
  have ih : ∀ e c, cE g n S e = some c → EOk X W ca cl B e c := fun e c h => cE_ok n S X W e c h o
  unfold cAsg at h
  split at h
  · rename_i x p
    split at h
    · rename_i i c1 h1 h2
      split at h
      · rename_i hs
        cases h
        rw [Bool.and_eq_true] at hs
        by_cases hcm : isCompE e = false
        · exact st_set o h1 hs.1 (sw_no hcm) (ih e c1 h2).pe
        · cases e <;> first | exact absurd rfl hcm | skip
          · rename_i elt gs scope lp
            by_cases hw : lcSw S x p lp scope = true
            · obtain ⟨n', l, rfl, h3⟩ := cE_lc h2
              exact st_setLc o (cE_ok n') hs.2 h1 hw h3
            · exact st_set o h1 hs.1 (by rw [sw_lc o.sc hs.2]; simp only [Bool.not_eq_true] at hw; rw [hw]) (ih _ c1 h2).pe
          · exact absurd hs.2 (by simp [cSetOk])
          · exact absurd hs.2 (by simp [cSetOk])
      · cases h
    · cases h
  · rename_i es kk p
    split at h
    · rename_i hk
      split at h
      · cases h
      · rename_i h1
        split at h
        · rename_i is c1 h2 h3
          cases h
          exact st_unp o (by show (cTgs S es).map (fun is => (is, false)) = _; rw [h2]; rfl) (sw_eq o.sc hk h1) (ih e c1 h3).pe
        · cases h
      · rename_i ns h1
        have hw := sw_eq (kt := kk) (pt := p) o.sc hk h1
        cases e <;> first | (cases h1; done) | skip
        rename_i vs k2 p2
        simp only [tupEs] at h
        unfold cPar at h
        split at h
        · rename_i x px y py e1 e2
          split at h
          · rename_i i j es1 h2 h3 h4
            split at h
            · rename_i hc
              cases h
              obtain ⟨rfl, hij, hx, hy⟩ := hc
              have h5 := (ok_list ih h4).1
              unfold cList at h4
              split at h4
              · cases h4
              · split at h4
                · rename_i c1 cs1 h6 h7
                  cases h4
                  unfold cList at h7
                  split at h7
                  · cases h7
                  · split at h7
                    · rename_i c2 cs2 h8 h9
                      cases h7
                      cases h9
                      exact st_par2 o h2 h3 hij hx hy hw h5
                    · cases h7
                · cases h4
            · cases h
          · cases h
        · rename_i x px y py z pz e1 e2 e3
          split at h
          · rename_i i j l es1 h2 h3 hl h4
            split at h
            · rename_i hc
              cases h
              obtain ⟨rfl, hij, hil, hjl, hx, hy, hz⟩ := hc
              have h5 := (ok_list ih h4).1
              unfold cList at h4
              split at h4
              · cases h4
              · split at h4
                · rename_i c1 cs1 h6 h7
                  cases h4
                  unfold cList at h7
                  split at h7
                  · cases h7
                  · split at h7
                    · rename_i c2 cs2 h8 h9
                      cases h7
                      unfold cList at h9
                      split at h9
                      · cases h9
                      · split at h9
                        · rename_i c3 cs3 h10 h11
                          cases h9
                          cases h11
                          exact st_par3 o h2 h3 hl hij hil hjl hx hy hz hw h5
                        · cases h9
                    · cases h7
                · cases h4
            · cases h
          · cases h
        · cases h
    · cases h
  · rename_i a i p
    split at h
    · cases h
    · rename_i his
      split at h
      · rename_i c1 c2 c3 h1 h2 h3
        cases h
        exact st_setIx hB (by simpa using his) (ih a c1 h1).pe (ih i c2 h2).pe (ih e c3 h3).pe
      · cases h
  · cases h
theorem aug_ok {n : Nat} {t e : Expr} {op : Operator} {pos : Pos} {c : CS} (o : XO X W ca cl k g S) (hB : ∀ b' ∈ B, b' ≤ b) (h : cAug S (cE g n S) t op e = some c) : PS X (.AugAssign t op e pos) (tS1 X.K B ca W cl b wf c) := by
  have ih : ∀ e c, cE g n S e = some c → EOk X W ca cl B e c := fun e c h => cE_ok n S X W e c h o
  unfold cAug at h
  split at h
  · cases h
  · rename_i o' ho
    split at h
    · cases h
    · rename_i hf
      cases hf2 : opAug o' with
      | none => rw [hf2] at hf; exact absurd rfl hf
      | some f =>
        split at h
        · rename_i x p
          split at h
          · rename_i i c1 h1 h2
            split at h
            · rename_i hs
              cases h
              exact st_aug o ho hf2 h1 hs (ih e c1 h2).pe
            · cases h
          · cases h
        · rename_i a i p
          split at h
          · cases h
          · rename_i his
            split at h
            · rename_i c1 c2 c3 h1 h2 h3
              cases h
              exact st_augIx hB ho hf2 (by simpa using his) (ih a c1 h1).pe (ih i c2 h2).pe (ih e c3 h3).pe
            · cases h
        · cases h
theorem exp_ok {n : Nat} {e : Expr} {pos : Pos} {c : CS} (o : XO X W ca cl k g S) (hB : ∀ b' ∈ B, b' ≤ b) (h : cExp (cE g n S) e = some c) : PS X (.Expr e pos) (tS1 X.K B ca W cl b wf c) := by
  have ih : ∀ e c, cE g n S e = some c → EOk X W ca cl B e c := fun e c h => cE_ok n S X W e c h o
  unfold cExp at h
  split at h
  · cases h; exact st_doc
  · rename_i ob ap a pos'
    split at h
    · cases h
    · rename_i hc
      simp only [Bool.or_eq_true, not_or, Bool.not_eq_true, Bool.not_eq_false'] at hc
      split at h
      · rename_i c1 c2 h1 h2
        cases h
        exact st_app hB hc.1.2 hc.1.1 hc.2 (ih ob c1 h1).pe (ih a c2 h2).pe
      · cases h
  · rename_i f args kws pos' _
    obtain ⟨c1, h1, rfl⟩ := Option.map_eq_some_iff.mp h
    exact st_expr rfl (ih _ c1 h1).pe
  · cases h
theorem raise_ok {n : Nat} {e : Expr} {pos : Pos} {c : CS} (o : XO X W ca cl k g S) (h : cRaise g S (cE g n S) e = some c) : PS X (.Raise (some e) none pos) (tS1 X.K B ca W cl b wf c) := by
  have ih : ∀ e c, cE g n S e = some c → EOk X W ca cl B e c := fun e c h => cE_ok n S X W e c h o
  unfold cRaise at h
  split at h
  · rename_i x p a pos'
    split at h
    · cases h
      exact ⟨fun pins s σ H D I ⟨Z, φ, ρ, M, R, O⟩ => by
        simp only [exs1] at O
        exact O.elim⟩
    · rename_i m h1
      split at h
      · rename_i c1 h2
        split at h
        · rename_i hg
          cases h
          rw [Bool.and_eq_true] at hg
          exact st_raise o (slotOf_get h1) hg.1 (by simpa using hg.2) (ih a c1 h2).pe
        · cases h
      · cases h
  · rename_i x p f a kp pos'
    split at h
    · cases h
      exact ⟨fun pins s σ H D I ⟨Z, φ, ρ, M, R, O⟩ => by
        simp only [exs1] at O
        exact O.elim⟩
    · rename_i m h1
      split at h
      · rename_i c1 h2
        split at h
        · rename_i hf
          subst hf
          split at h
          · rename_i hg
            cases h
            exact st_raiseK o (slotOf_get h1) hg (ih a c1 h2).pe
          · cases h
        · cases h
      · cases h
  · cases h
theorem Rel.unsetS {K : PySem.W.Frag} {Z φ : List Addr} {B : List Nat} {ρ : Env} {M : MH} {σ : L2.St} {H : Hp} (R : Rel K Z φ B ρ M σ H) (i : Nat) (u : Option V) : Rel K Z φ B (ρ.set i none) M (σ.set i u) H :=
  ⟨R.len, R.bas, R.nd, R.zz, R.obj, R.old, by rw [List.length_set, List.length_set]; exact R.ρlen, fun j d h => by
    by_cases e : i = j
    · subst e
      by_cases hl : i < ρ.length
      · rw [List.getElem?_set_self hl] at h; cases h
      · rw [List.getElem?_eq_none (by rw [List.length_set]; omega)] at h; cases h
    · rw [List.getElem?_set_ne e] at h ⊢
      exact R.env j d h⟩
/-- a def's own context -/
def FnX (X : Cx) : Prop := X.stack = X.env :: X.outer ∧ X.env.frame = some X.env.locals ∧ X.ex = []
theorem st_try {x n m : Str} {i j : Nat} {np mp ep apos pos pos' : Pos} {body : List Stmt} {cb : CSs} {hits : List Nat} (o : XO X W ca cl k g S) (fx : FnX X) (hi : slotOf S.N n = some i) (hj : slotOf S.N m = some j) (hij : i ≠ j) (hn : locB S.sc n = true) (hm : locB S.sc m = true) (hx : glB S.sc x = true) (on : nameOk n = true) (ox : nameOk x = true) (hk : g.kids.lookup x = some hits)
    (iht : ∀ (W' : WX) (pn : List (Addr × Obj)) (xe : Value → Shared → Prop), XO (X.tr pn xe) W' ca cl k g S → PassesOwn (model X.prog X.w) X.A X.env xe → PSs (X.tr pn xe) body (tS X.K B ca W' cl b wf cb)) :
    PS X (.Try body [.ExceptHandler (some (.Name x np)) (some n) [.Assign [.Name m mp] (.Name n ep) apos] pos'] [] [] pos) (tS1 X.K B ca W cl b wf (.tryK cb hits g.cls j i)) := by
  obtain ⟨C, hC, hkid⟩ := o.go.kid x hits hk
  have lo : ∀ {y : Str}, locB S.sc y = true → X.env.kindOf y = some .local := fun {y} h => by
    show X.env.scope.names.lookup y = some .local
    rw [o.sc]
    unfold locB at h
    split at h
    · assumption
    · cases h
  refine (ps_try_keep fx.1 fx.2.1 fx.2.2 o.nd (o.slot hi) (o.slot hj) (lo hn) (lo hm) ⟨o.gl hx, (nameOk_d ox).1, .inl hC⟩ o.takes (nameOk_d on).1 (nameOk_d on).2.1 (tb := fun W' => tS X.K B ca W' cl b wf cb)
    fun W' pn xe tk own => iht W' pn xe ⟨o.N, o.sc, o.fn, o.nd, o.calm, o.room, o.gd, tk, o.go⟩ own).imp fun D σ H ⟨Z, φ, ρ, M, R, O⟩ => ⟨Z, φ, ρ, M, R, ?_⟩
  simp only [exs1] at O
  cases hxs : exs cl b wf cb ρ M with
  | none => rw [hxs] at O; exact O.elim
  | some r =>
    rw [hxs] at O
    obtain ⟨fl, ρ', M'⟩ := r
    cases fl with
    | nx => exact O
    | rt d => exact O
    | bk => exact O
    | ct => exact O
    | xc c d =>
      intro φ' σ' H' R' e' v dx nf hd rv
      have O : OutS X.K Z B ca W D φ H (if c < g.cls.length then (if hits.contains c = true then some (.nx, (ρ'.set j (some (.exc (g.cls.getD c Str.empty) d))).set i none, M') else some (.xc c d, ρ', M')) else none) := O
      by_cases hc : c < g.cls.length
      · rw [if_pos hc] at O
        refine ⟨hits.contains c, hkid c hc, fun hb => ⟨ca c, dx, rfl, rfl, fun a hn' => ?_⟩, fun hb => ?_⟩
        · rw [if_pos hb] at O
          obtain ⟨hca, hrd⟩ := o.go.xcl c (g.cls[c]) (List.getElem?_eq_getElem hc)
          have hgd : g.cls.getD c Str.empty = g.cls[c] := by rw [List.getD_eq_getElem?_getD, List.getElem?_eq_getElem hc]; rfl
          obtain ⟨R2, e2⟩ := R'.new (o := xcO (ca c) dx a) hn'
          have R3 := (R2.unsetS i (some (.ref a)))
          have hne : dx ≠ a := ne_of_none hd hn'
          have rx : RelD X.K Z φ' (upd H' a (xcO (ca c) dx a)) (.exc (g.cls.getD c Str.empty) d) (.ref a) := by
            rw [hgd]
            refine ⟨a, dx, v, ⟨rfl, hrd⟩, by rw [upd_same, hca], R'.fresh hn', by rw [upd_ne hne]; exact hd, nf, RelD.ext e2 _ _ rv⟩
          have R4 := (R3.setS (i := j) rx).unsetS i none
          have eρ : ((ρ'.set i none).set j (some (.exc (g.cls.getD c Str.empty) d))).set i none = (ρ'.set j (some (.exc (g.cls.getD c Str.empty) d))).set i none := by
            rw [List.set_comm _ _ hij, List.set_set]
          rw [eρ] at R4
          exact O φ' _ _ R4 (e'.trans e2)
        · rw [hb, if_neg Bool.false_ne_true] at O
          exact O φ' σ' H' R' e' v dx nf hd rv
      · rw [if_neg hc] at O; exact O.elim
theorem cSt_ok {n : Nat} {r : List Stmt → Option CSs} {st : Stmt} {c : CS} (o : XO X W ca cl k g S) (own : PassesOwn (model X.prog X.w) X.A X.env X.xe) (hB : ∀ b' ∈ B, b' ≤ b) (fx : FnX X) (ihs : ∀ sts cs, r sts = some cs → PSs X sts (tS X.K B ca W cl b wf cs))
    (iht : ∀ (W' : WX) (pn : List (Addr × Obj)) (xe : Value → Shared → Prop), XO (X.tr pn xe) W' ca cl k g S → PassesOwn (model X.prog X.w) X.A X.env xe → ∀ sts cs, r sts = some cs → PSs (X.tr pn xe) sts (tS X.K B ca W' cl b wf cs))
    (h : cSt g S (cE g n S) r st = some c) : PS X st (tS1 X.K B ca W cl b wf c) := by
  have ih : ∀ e c, cE g n S e = some c → EOk X W ca cl B e c := fun e c h => cE_ok n S X W e c h o
  unfold cSt at h
  split at h
  · exact exp_ok o hB h
  · obtain ⟨c1, h1, rfl⟩ := Option.map_eq_some_iff.mp h
    exact st_ret (ih _ c1 h1).pe
  · cases h; exact st_retN
  · exact asg_ok o hB h
  · exact aug_ok o hB h
  · rename_i cd p q pos
    split at h
    · rename_i c1 c2 c3 h1 h2 h3
      cases h
      exact st_if (ih cd c1 h1).pt (ihs _ _ h2) (ihs _ _ h3)
    · cases h
  · rename_i tg it body pos
    split at h
    · rename_i t single ht
      split at h
      · rename_i s cb h1 h2
        cases h
        obtain ⟨q1, q2⟩ := ok_iter o ih (tg := tg) ht h1
        exact st_for o own ht q1 q2 (ihs _ _ h2)
      · cases h
    · cases h
  · rename_i cd body pos
    split at h
    · rename_i c1 c2 h1 h2
      cases h
      exact st_while own (ih cd c1 h1).pt (ihs _ _ h2)
    · cases h
  · exact raise_ok o h
  · rename_i body hs pos
    unfold cTry at h
    split at h
    · rename_i x np n m mp n' ep apos pos'
      split at h
      · rename_i i j hits cb h1 h2 h3 h4
        split at h
        · rename_i hq
          obtain ⟨rfl, q2, q3, q4, q5, q6, q7⟩ := hq
          cases h
          exact st_try o fx h1 h2 q2 q3 q4 q5 q6 q7 h3 fun W' pn xe o' own' => iht W' pn xe o' own' _ _ h4
        · cases h
      · cases h
    · cases h
  · cases h; exact st_pass
  · cases h; exact st_brk
  · cases h; exact st_cont
  · cases h
theorem cBl_ok {f : Stmt → Option CS} (hf : ∀ st c, f st = some c → PS X st (tS1 X.K B ca W cl b wf c)) : ∀ sts cs, cBl f sts = some cs → PSs X sts (tS X.K B ca W cl b wf cs)
  | [], cs, h => by cases h; exact st_nil
  | s :: ss, cs, h => by
    unfold cBl at h
    split at h
    · rename_i c1 c2 h1 h2
      cases h
      exact st_cons (hf _ _ h1) (cBl_ok hf ss _ h2)
    · cases h
theorem cSs_okX {n : Nat} (hB : ∀ b' ∈ B, b' ≤ b) : ∀ (m : Nat) (X : Cx) (W : WX), XO X W ca cl k g S → PassesOwn (model X.prog X.w) X.A X.env X.xe → FnX X → ∀ sts cs, cSs g n S m sts = some cs → PSs X sts (tS X.K B ca W cl b wf cs)
  | 0, X, W, o, own, fx, sts, cs, h => by cases h
  | m + 1, X, W, o, own, fx, sts, cs, h => cBl_ok (fun st c h => cSt_ok o own hB fx (cSs_okX hB m X W o own fx) (fun W' pn xe o' own' => cSs_okX hB m (X.tr pn xe) W' o' own' fx) h) sts cs h
theorem cSs_ok {n : Nat} (o : XO X W ca cl k g S) (own : PassesOwn (model X.prog X.w) X.A X.env X.xe) (fx : FnX X) (hB : ∀ b' ∈ B, b' ≤ b) (m : Nat) (sts : List Stmt) (cs : CSs) (h : cSs g n S m sts = some cs) : PSs X sts (tS X.K B ca W cl b wf cs) :=
  cSs_okX hB m X W o own fx sts cs h
end
end MP

set_option Elab.async false
set_option linter.all false
set_option maxRecDepth 100000
set_option maxHeartbeats 1000000
namespace MP
open PySem PySem.Spec PyProof.Rows L2
section
variable {K : PySem.W.Frag} {Z φ more : List Addr} {H : Hp} {b : Nat}
theorem nf_pre {a : Addr} (h : Nf Z (φ ++ more) a) : Nf Z φ a := ⟨fun z => h.1 (List.mem_append_left _ z), h.2⟩
mutual
/-- what speaks of the first places alone -/
theorem RelD.cut (hb : b ≤ φ.length) : ∀ (d : D) (v : V), below b d = true → RelD K Z (φ ++ more) H d v → RelD K Z φ H d v
  | .non, v, _, h => h
  | .bl _, v, _, h => h
  | .int i, v, _, h => h
  | .str s, v, _, h => h
  | .tup xs, v, q, h => by
    obtain ⟨a, vs, h1, h2, h4⟩ := (show ∃ a vs, v = .ref a ∧ TupAt K Z (φ ++ more) H a vs ∧ RelDs K Z (φ ++ more) H xs vs from h)
    exact ⟨a, vs, h1, h2.imp (fun h => ⟨h.1, nf_pre h.2⟩) id, RelDs.cut hb xs vs q h4⟩
  | .lst xs, v, q, h => by
    obtain ⟨a, vs, h1, h2, h3, h4⟩ := (show ∃ a vs, v = .ref a ∧ H a = some (.lst vs) ∧ Nf Z (φ ++ more) a ∧ RelDs K Z (φ ++ more) H xs vs from h)
    exact ⟨a, vs, h1, h2, nf_pre h3, RelDs.cut hb xs vs q h4⟩
  | .ref n, v, q, h => by
    obtain ⟨a, h1, h2⟩ := (show ∃ a, (φ ++ more)[n]? = some a ∧ v = .ref a from h)
    have hn : n < b := of_decide_eq_true q
    rw [List.getElem?_append_left (by omega)] at h1
    exact ⟨a, h1, h2⟩
  | .dct _ _, v, _, h => h
  | .set _, v, _, h => h
  | .exc x y, v, qq, h => by
    obtain ⟨a, dx, w, h1, h2, h3, h4, h5, h6⟩ := (show ∃ a dx w, (v = .ref a ∧ ExcRd K (He.ga K x)) ∧ H a = some (xcO (He.ga K x) dx a) ∧ Nf Z (φ ++ more) a ∧ H dx = some (.xd [(("value" : Str), w)]) ∧ Nf Z (φ ++ more) dx ∧ RelD K Z (φ ++ more) H y w from h)
    exact ⟨a, dx, w, h1, h2, nf_pre h3, h4, nf_pre h5, RelD.cut hb y w qq h6⟩
  | .scr ns, v, _, h => by
    obtain ⟨a, h1, h2⟩ := (show ∃ a, v = .ref a ∧ LstAt K Z (φ ++ more) H a (ns.map V.int) from h)
    exact ⟨a, h1, h2.imp (fun h => ⟨h.1, nf_pre h.2⟩) id⟩
theorem RelDs.cut (hb : b ≤ φ.length) : ∀ (ds : List D) (vs : List V), belows b ds = true → RelDs K Z (φ ++ more) H ds vs → RelDs K Z φ H ds vs
  | [], vs, _, h => h
  | d :: ds, vs, q, h => by
    obtain ⟨v, r, h1, h2, h3⟩ := (show ∃ v r, vs = v :: r ∧ RelD K Z (φ ++ more) H d v ∧ RelDs K Z (φ ++ more) H ds r from h)
    obtain ⟨q1, q2⟩ := Bool.and_eq_true_iff.mp (show (below b d && belows b ds) = true from q)
    exact ⟨v, r, h1, RelD.cut hb d v q1 h2, RelDs.cut hb ds r q2 h3⟩
end
/-- what rd reads stands for the same -/
def RdOk (K : PySem.W.Frag) (Z φ more : List Addr) (H : Hp) (rd : Nat → Option D) : Prop := ∀ n d v, rd n = some d → RelD K Z (φ ++ more) H (.ref n) v → RelD K Z φ H d v
mutual
theorem frzW_ok {rd : Nat → Option D} (hr : RdOk K Z φ more H rd) : ∀ (d d' : D) (v : V), frzW rd d = some d' → RelD K Z (φ ++ more) H d v → RelD K Z φ H d' v
  | .non, d', v, e, h => by cases e; exact h
  | .bl _, d', v, e, h => by cases e; exact h
  | .int i, d', v, e, h => by cases e; exact h
  | .str s, d', v, e, h => by cases e; exact h
  | .tup xs, d', v, e, h => by
    obtain ⟨ys, e1, rfl⟩ := Option.map_eq_some_iff.mp (show (frzsW rd xs).map D.tup = some d' from e)
    obtain ⟨a, vs, h1, h2, h4⟩ := (show ∃ a vs, v = .ref a ∧ TupAt K Z (φ ++ more) H a vs ∧ RelDs K Z (φ ++ more) H xs vs from h)
    exact ⟨a, vs, h1, h2.imp (fun h => ⟨h.1, nf_pre h.2⟩) id, frzsW_ok hr xs ys vs e1 h4⟩
  | .lst xs, d', v, e, h => by
    obtain ⟨ys, e1, rfl⟩ := Option.map_eq_some_iff.mp (show (frzsW rd xs).map D.lst = some d' from e)
    obtain ⟨a, vs, h1, h2, h3, h4⟩ := (show ∃ a vs, v = .ref a ∧ H a = some (.lst vs) ∧ Nf Z (φ ++ more) a ∧ RelDs K Z (φ ++ more) H xs vs from h)
    exact ⟨a, vs, h1, h2, nf_pre h3, frzsW_ok hr xs ys vs e1 h4⟩
  | .ref n, d', v, e, h => hr n d' v e h
  | .dct _ _, d', v, e, h => by cases e
  | .set _, d', v, e, h => by cases e
  | .exc x y, d', v, e, h => by
    obtain ⟨y', e1, rfl⟩ := Option.map_eq_some_iff.mp (show (frzW rd y).map (D.exc x) = some d' from e)
    obtain ⟨a, dx, w, h1, h2, h3, h4, h5, h6⟩ := (show ∃ a dx w, (v = .ref a ∧ ExcRd K (He.ga K x)) ∧ H a = some (xcO (He.ga K x) dx a) ∧ Nf Z (φ ++ more) a ∧ H dx = some (.xd [(("value" : Str), w)]) ∧ Nf Z (φ ++ more) dx ∧ RelD K Z (φ ++ more) H y w from h)
    exact ⟨a, dx, w, h1, h2, nf_pre h3, h4, nf_pre h5, frzW_ok hr y y' w e1 h6⟩
  | .scr ns, d', v, e, h => by cases e
theorem frzsW_ok {rd : Nat → Option D} (hr : RdOk K Z φ more H rd) : ∀ (ds ds' : List D) (vs : List V), frzsW rd ds = some ds' → RelDs K Z (φ ++ more) H ds vs → RelDs K Z φ H ds' vs
  | [], ds', vs, e, h => by cases e; exact h
  | d :: ds, ds', vs, e, h => by
    unfold frzsW at e
    split at e
    · rename_i x xs e1 e2
      cases e
      obtain ⟨v, r, h1, h2, h3⟩ := (show ∃ v r, vs = v :: r ∧ RelD K Z (φ ++ more) H d v ∧ RelDs K Z (φ ++ more) H ds r from h)
      exact ⟨v, r, h1, frzW_ok hr d x v e1 h2, frzsW_ok hr ds xs r e2 h3⟩
    · cases e
end
theorem rf0_ok (hb : b = φ.length) : RdOk K Z φ more H (rf0 b) := fun n d v e h => by
  unfold rf0 at e
  split at e
  · rename_i hn
    cases e
    exact RelD.cut (b := b) (by omega) (.ref n) v (decide_eq_true hn) h
  · cases e
theorem rfS_ok {B : List Nat} {ρ : Env} {M : MH} {σ : L2.St} {rd : Nat → Option D} (R : Rel K Z (φ ++ more) B ρ M σ H) (hb : b = φ.length) (hr : RdOk K Z φ more H rd) : RdOk K Z φ more H (rfS b M rd) := fun n d v e h => by
  unfold rfS at e
  split at e
  · rename_i hn
    cases e
    exact RelD.cut (b := b) (by omega) (.ref n) v (decide_eq_true hn) h
  · rename_i hn
    split at e
    · rename_i xs hx
      obtain ⟨ys, e1, rfl⟩ := Option.map_eq_some_iff.mp e
      obtain ⟨a, h1, rfl⟩ := (show ∃ a, (φ ++ more)[n]? = some a ∧ v = .ref a from h)
      obtain ⟨vs, h2, h3⟩ := R.obj n a _ h1 hx
      refine ⟨a, vs, rfl, h2, ⟨fun z => ?_, fun z => (R.zz a z).2 (List.mem_of_getElem? h1)⟩, frzsW_ok hr xs ys vs e1 h3⟩
      obtain ⟨m, hm⟩ := List.mem_iff_getElem?.mp z
      have hml : m < φ.length := (List.getElem?_eq_some_iff.mp hm).1
      have hm2 : (φ ++ more)[m]? = some a := by rw [List.getElem?_append_left hml]; exact hm
      have h4 := List.getElem?_eq_some_iff.mp hm2
      have h5 := List.getElem?_eq_some_iff.mp h1
      have := (List.getElem_inj R.nd).mp (h4.2.trans h5.2.symm)
      omega
    · cases e
theorem frz_ok {B : List Nat} {ρ : Env} {M : MH} {σ : L2.St} {d d' : D} {v : V} (R : Rel K Z (φ ++ more) B ρ M σ H) (hb : b = φ.length) (e : frz b M d = some d') (h : RelD K Z (φ ++ more) H d v) : RelD K Z φ H d' v :=
  frzW_ok (rfS_ok R hb (rfS_ok R hb (rf0_ok hb))) d d' v e h
/-- behind a call the places that the def has made are given up -/
theorem Rel.cut {B : List Nat} {ρ ρ' : Env} {M M0 : MH} {σ σ' : L2.St} {H0 : Hp} (R0 : Rel K Z φ B ρ M0 σ H0) (e : Ext Z φ H0 (φ ++ more) H) (R : Rel K Z (φ ++ more) (M0.length :: B) ρ' M σ' H) :
    Rel K Z φ B ρ (M.take M0.length) σ H ∧ Ext Z φ H0 φ H := by
  have hM : M0.length ≤ M.length := R.bas _ List.mem_cons_self
  have e' : Ext Z φ H0 φ H := ⟨⟨[], by simp⟩, fun a o h n => ⟨(e.keep a o h n).1, n⟩, e.zs, e.old⟩
  refine ⟨⟨by rw [List.length_take, R0.len]; omega, fun b hb => by rw [List.length_take]; have := R0.bas b hb; omega, R0.nd, fun a ha => ⟨(R.zz a ha).1, (R0.zz a ha).2⟩, fun n a mo h1 h2 => ?_, fun b hb m mo h1 h2 => ?_, R0.ρlen, fun i d h => ?_⟩, e'⟩
  · have hn : n < φ.length := (List.getElem?_eq_some_iff.mp h1).1
    have hn2 : n < M0.length := by rw [← R0.len]; exact hn
    rw [List.getElem?_take_of_lt hn2] at h2
    have q := R.obj n a mo (by rw [List.getElem?_append_left hn]; exact h1) h2
    have hbel := R.old _ List.mem_cons_self n mo hn2 h2
    cases mo with
    | lst xs =>
      obtain ⟨vs, h3, h4⟩ := q
      exact ⟨vs, h3, RelDs.cut (b := M0.length) (by rw [R0.len]; exact Nat.le_refl _) _ _ hbel h4⟩
    | dead => exact q.elim
    | dct _ _ => exact q.elim
    | set _ => exact q.elim
  · have := R0.bas b hb
    rw [List.getElem?_take_of_lt (by omega)] at h2
    exact R.old b (List.mem_cons_of_mem _ hb) m mo h1 h2
  · obtain ⟨v, h1, h2⟩ := R0.env i d h
    exact ⟨v, h1, RelD.ext e' _ _ h2⟩
/-- .. or kept -/
theorem Rel.back {φ' : List Addr} {B : List Nat} {ρ ρ' : Env} {M M0 : MH} {σ σ' : L2.St} {H0 : Hp} (R0 : Rel K Z φ B ρ M0 σ H0) (e : Ext Z φ H0 φ' H) (R : Rel K Z φ' (M0.length :: B) ρ' M σ' H) : Rel K Z φ' B ρ M σ H :=
  ⟨R.len, fun b hb => R.bas b (List.mem_cons_of_mem _ hb), R.nd, R.zz, R.obj, fun b hb => R.old b (List.mem_cons_of_mem _ hb), R0.ρlen, fun i d h =>
    let ⟨v, h1, h2⟩ := R0.env i d h
    ⟨v, h1, RelD.ext e _ _ h2⟩⟩
/-- at a def's entry -/
theorem Rel.enter {B : List Nat} {ρ : Env} {M : MH} {σ : L2.St} {N : List Str} {ds : List D} {vs : List V} (R : Rel K Z φ B ρ M σ H) (r : RelDs K Z φ H ds vs) (hl : ds.length ≤ N.length) :
    Rel K Z φ (M.length :: B) (ds.map some ++ List.replicate (N.length - ds.length) none) M (L2.start N vs) H := by
  have hv := r.length
  refine ⟨R.len, fun b hb => ?_, R.nd, R.zz, R.obj, fun b hb m mo h1 h2 => ?_, ?_, fun i d h => ?_⟩
  · rcases List.mem_cons.mp hb with rfl | hb
    · exact Nat.le_refl _
    · exact R.bas b hb
  · rcases List.mem_cons.mp hb with rfl | hb
    · have hm : m < φ.length := by rw [R.len]; exact h1
      have q := R.obj m φ[m] mo (by simp [hm]) h2
      cases mo with
      | lst xs =>
        obtain ⟨us, h3, h4⟩ := q
        exact belows_of (fun k a hk => (List.getElem?_eq_some_iff.mp hk).1) (by rw [R.len]; exact Nat.le_refl _) xs us h4
      | dead => rfl
      | dct _ _ => rfl
      | set _ => rfl
    · exact R.old b hb m mo h1 h2
  · unfold L2.start
    simp [hv]
  · have hi : i < ds.length := by
      by_cases hi : i < ds.length
      · exact hi
      · rw [List.getElem?_append_right (by simpa using hi), List.getElem?_replicate] at h
        split at h <;> cases h
    rw [List.getElem?_append_left (by simpa using hi), List.getElem?_map] at h
    cases e : ds[i]? with
    | none => rw [e] at h; cases h
    | some d' =>
      rw [e] at h
      cases h
      obtain ⟨v, h1, h2⟩ := r.get e
      refine ⟨v, ?_, h2⟩
      unfold L2.start
      rw [List.getElem?_append_left (by rw [List.length_map, hv]; exact hi), List.getElem?_map, h1]
      rfl
end
end MP

set_option Elab.async false
set_option linter.all false
set_option maxRecDepth 100000
set_option maxHeartbeats 1000000
namespace MP
open PySem PySem.Spec PyProof.Rows L2
section
variable {P : Program} {w : World} {K : PySem.W.Frag} {mg : Str → Option Value} {base : Heap} {ca : Nat → Addr} {g : GE} {Pm : Nat → Option FD} {wf : Nat}
theorem spF_len {cl : Nat → List D → Ev D} {f n : Nat} (vs : List V) (H : Hp) (Q : VK) (E : XK) (h : spF K ca cl f n vs H Q E) : vs.length = n := by
  obtain ⟨Z, φ, B, ρ, M, σ, ds, R, r, hl, O⟩ := h
  rw [r.length, hl]
/-- a def by its body (as the layer's rule) -/
theorem fnG_of {CX : CXT} {k : Nat} {f : Addr} {x qual : Str} {params : Arguments} {body : List Stmt} {scope : Scope} {fd : FuncData} {N ps : List Str} {sp : Sp} (F : FunD K x qual params body scope [] [] f fd) (S : FnScope N ps scope)
    (len : ∀ vs H Q E, sp vs H Q E → vs.length = ps.length)
    (hbody : ∀ (cdv : Value) (A : Around) (outer : List PySem.Env) (s : Shared) (H : Hp) (vs : List V) (Q : VK) (E : XK), Room k (A.deeper (envOfC qual scope s.heap.objs.size f cdv)) → (A.deeper (envOfC qual scope s.heap.objs.size f cdv)).guards = some [] → sp vs H Q E →
      ∃ t, PSs (cxOf CX P w K mg base N qual scope f cdv A outer s H E) body t ∧ t { nx := fun _ H' => Q .non H', rt := Q } (L2.start N vs) H) :
    FnG P w K mg base CX (k + 1) f fd ps sp := by
  obtain ⟨oc, od, dV, kV, doc, pm, an, cdv, ct, osl, rfl, lk, hcd, _, _⟩ := F.ex
  refine ⟨len, fun A outer s H args us vs Q E hr hgd e0 hb r hsp => ?_⟩
  have hl := len _ _ _ _ hsp
  have KX : K.In s.heap := e0.mod.kin.keeps fun b o e => (e0.bs b o e).1
  have lim : s.heap.NoLimit := e0.mod.nolimit.keeps fun b o e => (e0.bs b o e).1
  have hkind : ∀ y ∈ ps.zip us, scope.names.lookup y.1 = some .local ∨ (scope.names.lookup y.1 = some .cell ∧ ((cellsFrom (s.heap.objs.size + 1) scope.names []).lookup y.1).isSome = true) := fun ⟨n, v⟩ hy => by
    rcases S.par n (List.of_mem_zip hy).1 with q | q
    · exact .inl q
    · exact .inr ⟨q, PySem.W.cellsFrom_some _ _ _ (.inl q)⟩
  refine codeAny_call_function hr.depth (KX _ _ lk) rfl S.co S.gen rfl (PySem.W.codeRec_of KX hcd) (hb _ _ _ _ ?_)
  refine wpAny_newFunctionEnv_cells S.kind hkind fun env he s1 x => ?_
  subst he
  refine ⟨lim.keeps x.toInCall.keep, codeAny_func ?_⟩
  obtain ⟨t, ht, hq⟩ := hbody cdv A outer s H vs Q E (hr.deeper _) (by first | exact hgd | (simpa [Around.deeper, Around.under, Code.guards, pushGuards] using hgd)) hsp
  have I : Inv (cxOf CX P w K mg base N qual scope f cdv A outer s H E) [] (L2.start N vs) H s1 := inv_start S hr.hd e0 hl r x
  refine wpAny_mono (ht.run [] s1 (L2.start N vs) H _ I hq) (fun fl s' hs => ?_) fun e s' hs => hs
  have fin : ∀ {σ' : L2.St} {H' : Hp} {v : V} {u : Value}, Inv (cxOf CX P w K mg base N qual scope f cdv A outer s H E) [] σ' H' s' → RelV v u → Q v H' → L2.CE outer P w H s Q u s' :=
    fun {σ' H' v u} J rv q => ⟨v, H', J.os, J.bare, J.base, J.hok, rv, q⟩
  cases fl with
  | ret u =>
    obtain ⟨v, σ', H', J, rv, q⟩ := hs
    exact fin J rv q
  | next =>
    obtain ⟨σ', H', J, q⟩ := hs
    exact fin (v := V.non) (u := Value.none) J rfl q
  | brk =>
    obtain ⟨_, _, _, q⟩ := hs
    exact False.elim q
  | cont =>
    obtain ⟨_, _, _, q⟩ := hs
    exact False.elim q
theorem fn_zero {f n k : Nat} {a : Addr} {fd : FuncData} {ps : List Str} (hn : ps.length = n) : FnG P w K mg base (L2.CX P w) k a fd ps (spF K ca (evF Pm wf 0) f n) :=
  ⟨fun vs H Q E h => (spF_len vs H Q E h).trans hn.symm, fun A outer s H args us vs Q E _ _ _ _ _ h => by
    obtain ⟨Z, φ, B, ρ, M, σ, ds, R, r, hl, O⟩ := h
    exact O.elim⟩
/-- what is asked of a def's body, from what is asked of the call -/
theorem rd_body {cl : Nat → List D → Ev D} {Z φ : List Addr} {B : List Nat} {ρ ρ0 : Env} {M : MH} {σ : L2.St} {H : Hp} {Q : VK} {E : XK} {keep : Bool} {cs : CSs} (R : Rel K Z φ B ρ M σ H)
    (O : Out K Z B ca (fun cls d _ H' => E cls d H') ρ σ φ H (match exs cl M.length wf cs ρ0 M with
        | some (.rt r, _, M') => fin keep M.length r M'
        | some (.nx, _, M') => fin keep M.length .non M'
        | some (.xc c v, _, M') => finX M.length c v M'
        | _ => none) fun d _ φ' H' => ∀ v, RelD K Z φ' H' d v → Q v H') :
    OutS K Z (M.length :: B) ca (fun cls d _ H' => E cls d H') { nx := fun _ H' => Q .non H', rt := Q } φ H (exs cl M.length wf cs ρ0 M) := by
  have ret : ∀ {r : D} {ρ' : Env} {M' : MH} {φ' : List Addr} {σ' : L2.St} {H' : Hp} {v : V}, Rel K Z φ' (M.length :: B) ρ' M' σ' H' → Ext Z φ H φ' H' → RelD K Z φ' H' r v →
      Out K Z B ca (fun cls d _ H' => E cls d H') ρ σ φ H (fin keep M.length r M') (fun d _ φ' H' => ∀ v, RelD K Z φ' H' d v → Q v H') → Q v H' := fun {r ρ' M' φ' σ' H' v} R' e' rv O => by
    unfold fin at O
    split at O
    · exact O φ' H' (R.back e' R') e' v rv
    · obtain ⟨more, rfl⟩ := e'.pre
      cases hf : frz M.length M' r with
      | none => rw [hf] at O; exact O.elim
      | some r' =>
        rw [hf] at O
        obtain ⟨R2, e2⟩ := R.cut e' R'
        exact O φ H' R2 e2 v (frz_ok R' R.len.symm hf rv)
  have exc : ∀ {c : Nat} {r : D} {ρ' : Env} {M' : MH} {φ' : List Addr} {σ' : L2.St} {H' : Hp} {v : V} {dx : Addr}, Rel K Z φ' (M.length :: B) ρ' M' σ' H' → Ext Z φ H φ' H' → Nf Z φ' dx → H' dx = some (.xd [("value", v)]) → RelD K Z φ' H' r v →
      Out K Z B ca (fun cls d _ H' => E cls d H') ρ σ φ H (finX M.length c r M') (fun d _ φ' H' => ∀ v, RelD K Z φ' H' d v → Q v H') → E (.ref (ca c)) (some dx) H' := fun {c r ρ' M' φ' σ' H' v dx} R' e' nf hd rv O => by
    unfold finX at O
    split at O
    · exact O φ' H' v dx (R.back e' R') e' nf hd rv
    · obtain ⟨more, rfl⟩ := e'.pre
      cases hf : frz M.length M' r with
      | none => rw [hf] at O; exact O.elim
      | some r' =>
        rw [hf] at O
        obtain ⟨R2, e2⟩ := R.cut e' R'
        exact O φ H' v dx R2 e2 (nf_pre nf) hd (frz_ok R' R.len.symm hf rv)
  cases hx : exs cl M.length wf cs ρ0 M with
  | none => rw [hx] at O; exact O
  | some r =>
    rw [hx] at O
    obtain ⟨fl, ρ', M'⟩ := r
    intro φ' σ' H' R' e'
    cases fl with
    | nx => exact ret (r := .non) (v := .non) R' e' rfl O
    | bk => exact O.elim
    | ct => exact O.elim
    | rt d => exact fun v rv => ret R' e' rv O
    | xc c d => exact fun v dx nf hd rv => exc R' e' nf hd rv O
/-- a def keeps its promise one level up -/
theorem fn_succ {d k f n m : Nat} {x qual : Str} {params : Arguments} {body : List Stmt} {scope : Scope} {a : Addr} {fd : FuncData} {N ps : List Str} {cs : CSs} {keep : Bool} (o : GO P w K mg base ca (evF Pm wf d) k g)
    (F : FunD K x qual params body scope [] [] a fd) (S : FnScope N ps scope) (hc : cSs g n ⟨N, scope, none⟩ m body = some cs) (hP : Pm f = some ⟨ps.length, N.length, cs, keep⟩) :
    FnG P w K mg base (L2.CX P w) (k + 1) a fd ps (spF K ca (evF Pm wf (d + 1)) f ps.length) := by
  refine fnG_of F S (fun vs H Q E h => spF_len vs H Q E h) fun cdv A outer s H vs Q E hr hgd hsp => ?_
  obtain ⟨Z, φ, B, ρ, M, σ, ds, R, r, hl, O⟩ := hsp
  have xo : XO (cxOf (L2.CX P w) P w K mg base N qual scope a cdv A outer s H E) (fun cls d _ H' => E cls d H') ca (evF Pm wf d) k g ⟨N, scope, none⟩ :=
    ⟨rfl, rfl, fun _ _ => rfl, S.nd, rfl, hr, hgd, takes_of rfl rfl rfl rfl, o⟩
  have hN : ps.length ≤ N.length := by have := congrArg List.length S.pre; rw [List.length_take] at this; omega
  have R' := R.enter (N := N) r (by rw [hl]; exact hN)
  refine ⟨_, cSs_ok (b := M.length) (wf := wf) (B := M.length :: B) xo (passes_of rfl) ⟨rfl, rfl, rfl⟩ (fun b' hb => ?_) m body cs hc, Z, φ, _, M, R', ?_⟩
  · rcases List.mem_cons.mp hb with rfl | hb
    · exact Nat.le_refl _
    · exact R.bas b' hb
  · rw [hl]
    refine rd_body (keep := keep) R ?_
    simp only [evF, hP, hl, if_true] at O
    exact O
/-- a def of the text: the facts that do not hang on the depth -/
structure DefOk (K : PySem.W.Frag) (mg : Str → Option Value) (g : GE) (Pm : Nat → Option FD) (f : Nat) (name : Str) (ps : List Str) : Prop where
  ex : ∃ (a : Addr) (fd : FuncData) (x qual : Str) (params : Arguments) (body : List Stmt) (scope : Scope) (N : List Str) (cs : CSs) (keep : Bool) (n m : Nat), mg name = some (.ref a) ∧ FunD K x qual params body scope [] [] a fd ∧ FnScope N ps scope ∧
    cSs g n ⟨N, scope, none⟩ m body = some cs ∧ Pm f = some ⟨ps.length, N.length, cs, keep⟩ ∧ Binds K fd ps [] ∧
    ∀ np ns perm, (f, np, ns, perm) ∈ g.kws → perm.length = ps.length ∧ ∀ (s : Shared) (us ws zs : List Value), us.length = np → ws.length = ns.length → perm.mapM (fun i => (us ++ ws)[i]?) = some zs → BindsTo s fd ⟨us, ns.zip ws⟩ (ps.zip zs)
/-- the whole text -/
structure TextOk (P : Program) (w : World) (K : PySem.W.Frag) (mg : Str → Option Value) (base : Heap) (ca : Nat → Addr) (g : GE) (Pm : Nat → Option FD) : Prop where
  bn : ∀ x ∈ bnames, mg x = none
  cst : ∀ x d, g.csts.lookup x = some d → ∃ u, mg x = some u ∧ ((∃ i t, d = .int i ∧ u = .int i t) ∨ ∃ z t, d = .str z ∧ u = .str z t ∧ strGood z = true)
  defs : ∀ f name ps, g.fns[f]? = some (name, ps) → DefOk K mg g Pm f name ps
  kid : ∀ x hits, g.kids.lookup x = some hits → ∃ C, mg x = some (.ref C) ∧ ∀ c, c < g.cls.length → PySem.W.exmOne K (.ref (ca c)) (.ref C) = some (hits.contains c)
  xcl : ∀ c name, g.cls[c]? = some name → ca c = He.ga K name ∧ ExcRd K (He.ga K name)
  isx : ∀ x hits, g.isxs.lookup x = some hits → (x == ("__debug__" : Str)) = false ∧ ∃ u, ((∃ C, mg x = some (.ref C) ∧ u = .ref C) ∨ (∃ T, mg x = none ∧ bootBuiltins x = some (.type T) ∧ x ≠ "__name__" ∧ u = .type T)) ∧ ∀ y, g.cls.contains y = true → PySem.W.kitOne K (.ref (He.ga K y)) u = some (hits.contains y)
  exk : ∀ c name, g.cls[c]? = some name → ∀ (k : Nat) (X : Cx) (a : Expr) (ta : TA) (p pos kp : Pos), X.prog = P → X.w = w → X.K = K → X.mg = mg → X.base = base → X.calm = true → Room (k + 2) X.A → Gl X name → PK X [⟨some "value", a, kp⟩] ta → PMk X (.Call (.Name name p) [] [⟨some "value", a, kp⟩] pos) (tMkE (ca c) ta)
  exc : ∀ c name, g.cls[c]? = some name → ∀ (k : Nat) (X : Cx) (a : Expr) (ta : TA) (p pos : Pos), X.prog = P → X.w = w → X.K = K → X.mg = mg → X.base = base → X.calm = true → Room (k + 2) X.A → Gl X name → PA X [a] ta → isStar a = false → PMk X (.Call (.Name name p) [a] [] pos) (tMkE (ca c) ta)
theorem go_all (t : TextOk P w K mg base ca g Pm) : ∀ d, GO P w K mg base ca (evF Pm wf d) (d + 2) g
  | 0 => ⟨t.bn, t.cst, fun f name ps h => by
      obtain ⟨a, fd, x, qual, params, body, scope, N, cs, keep, n, m, h1, h2, h3, h4, h5, h6, h7⟩ := (t.defs f name ps h).ex
      exact ⟨a, fd, h1, h2.kp, fn_zero rfl, h6, h7⟩, t.kid, t.xcl, t.isx, fun c name h => t.exk c name h 0, fun c name h => t.exc c name h 0⟩
  | d + 1 => ⟨t.bn, t.cst, fun f name ps h => by
      obtain ⟨a, fd, x, qual, params, body, scope, N, cs, keep, n, m, h1, h2, h3, h4, h5, h6, h7⟩ := (t.defs f name ps h).ex
      exact ⟨a, fd, h1, h2.kp, fn_succ (go_all t d) h2 h3 h4 h5, h6, h7⟩, t.kid, t.xcl, t.isx, fun c name h => t.exk c name h (d + 1), fun c name h => t.exc c name h (d + 1)⟩
end
end MP

set_option Elab.async false
set_option linter.all false
set_option maxRecDepth 100000
set_option maxHeartbeats 1000000
namespace MP
open PySem PySem.Spec PyProof.Rows L2

/-! ### the law's end -/
theorem law_callG {P : Program} {w : World} {K : PySem.W.Frag} {mg mb : Str → Option Value} {CX : CXT} {k : Nat} {fa a : Addr} {fd : FuncData} {x : Str} {sp : Sp} {s₁ : Shared} {vs : List Value} {ns : List Int}
    (KX : K.In s₁.heap) (hns : s₁.heap.Ns mainGlobals mg) (hb : s₁.heap.Ns builtinsNs mb) (hbb : ∀ x : Str, x ≠ "__name__" → mb x = bootBuiltins x) (hlim : s₁.heap.NoLimit) (hg : s₁.gens = #[])
    (ha : s₁.heap.get? a = some { cls := .type "list", data := .seq vs.toArray }) (hi : IntsAre vs ns) (hl : ns.length ≤ sizeLine) (hr : Room k callerA)
    (F : ∀ base : Heap, K.In base → base.Ns mainGlobals mg → FnG P w K mg base CX k fa fd [x] sp) (hbind : ∀ (s : Shared) (u : Value), BindsTo s fd ⟨[u], []⟩ [(x, u)])
    (hsp : ∀ H : Hp, Only H → SqL K H a (ns.map V.int) → sp [.ref a] H (fun v _ => v = .bl true) fun _ _ _ => False)
    (hCX : ∀ H e s', CX [] H s₁ (fun _ _ _ => False) e s' → False) :
    codeAny (model P w) callerA (.call (.ref fa) ⟨[.ref a], []⟩) (fun r s' => r = .ok (.ret (.bool true)) ∧ OldK s₁.heap s'.heap ∧ s'.os = s₁.os ∧ AllBare s'.gens) s₁ := by
  have rv := vals_ints hi
  have lenV := hi.length
  have core : ∀ H : Hp, Only H → SqL K H a (ns.map V.int) → HOk P w H s₁.heap → (∀ b, H b ≠ none → b = a) → (H a ≠ none → K.lookup a = none) →
      codeAny (model P w) callerA (.call (.ref fa) ⟨[.ref a], []⟩) (fun r s' => r = .ok (.ret (.bool true)) ∧ OldK s₁.heap s'.heap ∧ s'.os = s₁.os ∧ AllBare s'.gens) s₁ := by
    intro H hO hS hok hA hK
    have base_of : ∀ {b : Addr} {o : Obj}, s₁.heap.get? b = some o → H b = none → (hidT s₁.heap H).get? b = some o := fun e n => hidT_get e n
    have noA : ∀ {b : Addr} {o : Obj} {es : Array DictEntry} {ep : Nat}, s₁.heap.get? b = some o → o.data = .dict es ep → H b = none := fun {b o es ep} e d => by
      cases q : H b with
      | none => rfl
      | some u =>
        have e' : b = a := hA b (by rw [q]; simp)
        subst e'
        rw [ha] at e; cases e
        have d' : Data.seq vs.toArray _ = Data.dict es ep := d
        cases d'
    have nsK : ∀ {b : Addr} {m : Str → Option Value}, s₁.heap.Ns b m → (hidT s₁.heap H).Ns b m := fun {b m} ⟨o, es, ep, e, d, r⟩ => ⟨o, es, ep, base_of e (noA e d), d, r⟩
    have hKb : K.In (hidT s₁.heap H) := fun b o e => base_of (KX b o e) (by
      cases q : H b with
      | none => rfl
      | some u =>
        have e' : b = a := hA b (by rw [q]; simp)
        subst e'
        rw [hK (by rw [q]; simp)] at e; cases e)
    have hM : Mod K mg (hidT s₁.heap H) := ⟨hKb, nsK hns, ⟨mb, nsK hb, hbb⟩, let ⟨mc, h1, h2⟩ := hlim; ⟨mc, nsK h1, h2⟩⟩
    have e0 : Env0 P w K mg (hidT s₁.heap H) callerA [] s₁ H := ⟨rfl, hM, fun b o e => of_hidT e, Nat.le_of_eq (hidT_size _ _), trivial, fun b hb => absurd (show b ∈ ([] : List Addr) from hb) (by simp), hok, .of_eq hg⟩
    refine codeAny_mono ((F _ hKb (nsK hns)).run callerA [] s₁ H ⟨[.ref a], []⟩ [.ref a] [.ref a] _ _ hr rfl e0 (hbind s₁ (.ref a)) (.cons rfl .nil) (hsp H hO hS)) fun r s' h => ?_
    cases r with
    | error e => exact (hCX H e s' h).elim
    | ok fl =>
      cases fl with
      | next => exact False.elim h
      | brk => exact False.elim h
      | cont => exact False.elim h
      | ret u =>
        obtain ⟨v, H', os, bare, un, hok', r', q⟩ := h
        have q' : v = .bl true := q
        subst q'
        obtain rfl : u = Value.bool true := r'
        refine ⟨rfl, OldK.of_keep fun b o e => ?_, os, bare⟩
        cases q : H b with
        | none => exact un.keep b o e q (by intro z; exact absurd (show b ∈ ([] : List Addr) from z) (by simp)) (by simp)
        | some u =>
          rcases hO b with z | ⟨ob, xs, z⟩
          · rw [q] at z; cases z
          · have z2 := un.frzs b ob _ z
            obtain ⟨e1, _⟩ := hok b _ z
            obtain ⟨e2, _⟩ := hok' b _ z2
            rw [e] at e1; cases e1
            exact e2
  cases hk : K.lookup a with
  | some o =>
    have e := KX a o hk
    rw [ha] at e
    cases e
    refine core (fun _ => none) (fun _ => .inl rfl) (.inr ⟨_, vs.toArray, _, hk, rfl, rfl, rfl, by rw [List.size_toArray, lenV]; exact hl, by simpa using rv⟩) (fun b u z => by have z' : (none : Option HO) = some u := z; cases z') (fun b z => absurd rfl z) fun z => absurd rfl z
  | none =>
    refine core (fun b => if b = a then some (.frz { cls := .type "list", data := .seq vs.toArray } (.lst (ns.map V.int))) else none) (fun b => ?_) (.inl (.inr ⟨{ cls := .type "list", data := .seq vs.toArray }, if_pos rfl⟩)) (fun b u z => ?_) (fun b z => ?_) fun _ => hk
    · by_cases hb : b = a
      · exact .inr ⟨_, _, if_pos hb⟩
      · exact .inl (if_neg hb)
    · by_cases hb : b = a
      · have z' := (if_pos hb).symm.trans z
        cases z'
        subst hb
        exact ⟨ha, by rw [List.length_map]; exact hl, vs, _, rv, ha⟩
      · have z' := (if_neg hb).symm.trans z
        cases z'
    · by_cases hb : b = a
      · exact hb
      · exact absurd (if_neg hb) z
theorem law_sp {K : PySem.W.Frag} {ca : Nat → Addr} {cl : Nat → List D → Ev D} {f : Nat} {ns : List Int} {H : Hp} {a : Addr} {M' : MH} (hS : SqL K H a (ns.map V.int)) (h : cl f [.scr ns] [] = some (.ok (.bl true) M')) :
    spF K ca cl f 1 [.ref a] H (fun v _ => v = .bl true) fun _ _ _ => False := by
  refine ⟨[], [], [], [], [], [], [.scr ns], ⟨rfl, fun b hb => absurd hb (by simp), List.nodup_nil, fun a ha => absurd ha (by simp), fun n a mo h1 h2 => by simp at h1, fun b hb => absurd hb (by simp), rfl, fun i d h => by simp at h⟩, ⟨_, _, rfl, ⟨a, rfl, ?_⟩, rfl⟩, rfl, ?_⟩
  · rcases hS with hS | hS
    · exact .inl ⟨hS, ⟨by simp, by simp⟩⟩
    · exact .inr hS
  · rw [h]
    intro φ' H' R e v r
    exact r
theorem walkG {l : PySem.W.OpenLaw} {n k f : Nat} {q : Program} {loose : List Str} {XP : (Str → Option Value) → Heap → Prop} {YP : World → Heap → Prop} {d : DefRec} {x : Str} {cl : Nat → List D → Ev D}
    (hn : l.most = some n) (hn2 : n ≤ sizeLine) (hdf : d.params.defaults = []) (hr : Room k callerA)
    (F : ∀ (w : World) (mg : Str → Option Value) (fa : Addr) (h : Heap), YP w h → h.Ns mainGlobals mg → mg d.name = some (.ref fa) →
      ∃ (K : PySem.W.Frag) (fd : FuncData) (ca : Nat → Addr), K.In h ∧ (∀ (s : Shared) (u : Value), BindsTo s fd ⟨[u], []⟩ [(x, u)]) ∧
        ∀ base : Heap, K.In base → base.Ns mainGlobals mg → FnG l.prog w K mg base (L2.CX l.prog w) k fa fd [x] (spF K ca cl f 1))
    (hev : ∀ ns : List Int, ns.length ≤ n → ∃ M', cl f [.scr ns] [] = some (.ok (.bl true) M')) :
    PySem.W.WalkO q loose XP YP l.row.toRowW d [] (fun f vs => PySem.call f vs) := by
  refine Att.attach_call hn hdf fun w s₀ s₁ mg mb fa o pm cd doc a vs ns G Y ho hd hcd hmg hobj hints hlen hg => ?_
  obtain ⟨K, fd, ca, KX, hb, hF⟩ := F w mg fa _ Y G.T.g hmg
  obtain ⟨M', hM⟩ := hev ns hlen
  exact law_callG KX G.T.g G.T.b G.T.builtins G.T.nolimit hg hobj hints (Nat.le_trans hlen hn2) hr hF hb (fun H _ hS => law_sp hS hM) fun H e s' ⟨_, _, _, _, _, _, _, _, _, _, _, _, z⟩ => z.elim
end MP

set_option Elab.async false
set_option linter.all false
set_option maxRecDepth 100000
namespace MP
open PySem

/-! ### the evaluator's equations, with the heap given: for simp -/
/-- a value's type that names what simp is to leave alone -/
abbrev Fx {α : Type} (_ : α) (τ : Type) : Type := τ
def lR {α : Type} (o : Option α) (M : MH) : Option (Rs α) := match o with | none => none | some a => some (.ok a M)
def bR {α β : Type} (r : Option (Rs α)) (f : α → MH → Option (Rs β)) : Fx f (Option (Rs β)) := match r with
  | none => none
  | some (.ok a M) => f a M
  | some (.ex c v M) => some (.ex c v M)
/-- an expression's end within a statement -/
def tR {α : Type} (r : Option (Rs α)) (ρ : Env) (f : α → MH → Option (Fl × Env × MH)) : Fx (ρ, f) (Option (Fl × Env × MH)) := match r with
  | none => none
  | some (.ok a M) => f a M
  | some (.ex c v M) => some (.xc c v, ρ, M)
def sR (r : Option (Fl × Env × MH)) (f : Env → MH → Option (Fl × Env × MH)) : Fx f (Option (Fl × Env × MH)) := match r with
  | none => none
  | some (fl, ρ, M) => match fl with
    | .nx => f ρ M
    | .rt d => some (.rt d, ρ, M)
    | .bk => some (.bk, ρ, M)
    | .ct => some (.ct, ρ, M)
    | .xc c d => some (.xc c d, ρ, M)
def endR (keep : Bool) (b : Nat) (r : Option (Fl × Env × MH)) : Option (Rs D) := match r with
  | some (.rt r, _, M') => fin keep b r M'
  | some (.nx, _, M') => fin keep b .non M'
  | some (.xc c v, _, M') => finX b c v M'
  | _ => none
section
variable {α β : Type} {ρ ρ' : Env} {M M' : MH} {b n : Nat} {k : Bool}
theorem lR_some {a : α} : lR (some a) M = some (.ok a M) := Eq.trans rfl rfl
theorem bR_ok {a : α} {f : α → MH → Option (Rs β)} : bR (some (.ok a M)) f = f a M := Eq.trans rfl rfl
theorem bR_ex {c : Nat} {v : D} {f : α → MH → Option (Rs β)} : bR (some (.ex c v M)) f = some (.ex c v M) := Eq.trans rfl rfl
theorem tR_ok {a : α} {f : α → MH → Option (Fl × Env × MH)} : tR (some (.ok a M)) ρ f = f a M := Eq.trans rfl rfl
theorem tR_ex {c : Nat} {v : D} {f : α → MH → Option (Fl × Env × MH)} : tR (some (.ex c v M)) ρ f = some (.xc c v, ρ, M) := Eq.trans rfl rfl
theorem sR_nx {f : Env → MH → Option (Fl × Env × MH)} : sR (some (.nx, ρ, M)) f = f ρ M := Eq.trans rfl rfl
theorem sR_rt {d : D} {f : Env → MH → Option (Fl × Env × MH)} : sR (some (.rt d, ρ, M)) f = some (.rt d, ρ, M) := Eq.trans rfl rfl
theorem sR_bk {f : Env → MH → Option (Fl × Env × MH)} : sR (some (.bk, ρ, M)) f = some (.bk, ρ, M) := Eq.trans rfl rfl
theorem sR_ct {f : Env → MH → Option (Fl × Env × MH)} : sR (some (.ct, ρ, M)) f = some (.ct, ρ, M) := Eq.trans rfl rfl
theorem sR_xc {c : Nat} {d : D} {f : Env → MH → Option (Fl × Env × MH)} : sR (some (.xc c d, ρ, M)) f = some (.xc c d, ρ, M) := Eq.trans rfl rfl
theorem endR_rt {r : D} : endR k b (some (.rt r, ρ, M)) = fin k b r M := Eq.trans rfl rfl
theorem endR_nx : endR k b (some (.nx, ρ, M)) = fin k b .non M := Eq.trans rfl rfl
theorem endR_xc {c : Nat} {r : D} : endR k b (some (.xc c r, ρ, M)) = finX b c r M := Eq.trans rfl rfl
theorem fin_same {r : D} : fin k M.length r M = some (.ok r M) := by unfold fin; rw [if_pos (.inr rfl)]
theorem fin_eq {r : D} (h : M.length = b) : fin k b r M = some (.ok r M) := by unfold fin; rw [if_pos (.inr h)]
theorem fin_keep {r : D} : fin true b r M = some (.ok r M) := by unfold fin; rw [if_pos (.inl rfl)]
theorem finX_same {r : D} {c : Nat} : finX M.length c r M = some (.ex c r M) := by unfold finX; rw [if_pos rfl]
theorem finX_eq {r : D} {c : Nat} (h : M.length = b) : finX b c r M = some (.ex c r M) := by unfold finX; rw [if_pos h]
variable {cl : Nat → List D → Ev D} {wf i : Nat} {a c e : CE}
theorem bind_bR {x : Ev α} {f : α → Ev β} : Ev.bind x f M = bR (x M) f := by
  unfold Ev.bind bR
  cases x M with
  | none => rfl
  | some r => cases r <;> rfl
theorem bindF {x : Ev α} {f : α → Ev β} : Ev.bind x f = fun M => bR (x M) f := funext fun _ => bind_bR
theorem liftF {o : Option α} : Ev.lift o = fun M => lR o M := rfl
theorem lookF {f : MH → Option α} : Ev.look f = fun M => lR (f M) M := rfl
theorem lift_lR {o : Option α} : Ev.lift o M = lR o M := Eq.trans rfl rfl
theorem look_lR {f : MH → Option α} : Ev.look f M = lR (f M) M := Eq.trans rfl rfl
theorem sbind_tR {x : Ev α} {f : α → Se} : sbind x ρ f M = tR (x M) ρ f := by
  unfold sbind tR
  cases x M with
  | none => rfl
  | some r => cases r <;> rfl
theorem sbindF {x : Ev α} {f : α → Se} : sbind x ρ f = fun M => tR (x M) ρ f := funext fun _ => sbind_tR
theorem e_var : ev cl (.var i) ρ M = lR (getS ρ i) M := by simp only [ev]; rfl
theorem e_cst {d : D} : ev cl (.cst d) ρ M = some (.ok d M) := by simp only [ev]
theorem e_bin {op : BOp} {b : CE} : ev cl (.bin op a b) ρ M = bR (ev cl a ρ M) fun x M => bR (ev cl b ρ M) fun y M => lR (binD M op x y) M := by simp only [ev, bindF, lookF]
theorem e_neg : ev cl (.neg a) ρ M = bR (ev cl a ρ M) fun x M => lR ((intD x).map fun i => .int (-i)) M := by simp only [ev, bindF, liftF]
theorem e_cmp {op : COp} {b : CE} : ev cl (.cmp op a b) ρ M = bR (ev cl a ρ M) fun x M => bR (ev cl b ρ M) fun y M => lR ((cmpD M op x y).map .bl) M := by simp only [ev, bindF, lookF]
/-- by a truth value -/
def kR (k : Bool) (x y : MH → α) (M : MH) : Fx (x, y) α := match k with | true => x M | false => y M
theorem kR_t {x y : MH → α} : kR true x y M = x M := Eq.trans rfl rfl
theorem kR_f {x y : MH → α} : kR false x y M = y M := Eq.trans rfl rfl
theorem e_cmp2 {op op2 : COp} {b : CE} : ev cl (.cmp2 op op2 a b c) ρ M = bR (ev cl a ρ M) fun x M => bR (ev cl b ρ M) fun y M => bR (lR (cmpD M op x y) M) fun k M => kR k (fun M => bR (ev cl c ρ M) fun z M => lR ((cmpD M op2 y z).map .bl) M) (fun M => some (.ok (.bl false) M)) M := by
  simp only [ev, bindF, lookF]
  congr 1; funext x M; congr 1; funext y M; congr 1; funext k M
  cases k <;> rfl
/-- and, or -/
def kA (k : Bool) (r : Option (Rs D)) (M : MH) : Option (Rs D) := match k with | true => r | false => some (.ok (.bl false) M)
def kO (k : Bool) (r : Option (Rs D)) (M : MH) : Option (Rs D) := match k with | true => some (.ok (.bl true) M) | false => r
theorem kA_t {r : Option (Rs D)} : kA true r M = r := Eq.trans rfl rfl
theorem kA_f {r : Option (Rs D)} : kA false r M = some (.ok (.bl false) M) := Eq.trans rfl rfl
theorem kA_b {k j : Bool} : kA k (some (.ok (.bl j) M)) M = some (.ok (.bl (k && j)) M) := by cases k <;> rfl
theorem kO_t {r : Option (Rs D)} : kO true r M = some (.ok (.bl true) M) := Eq.trans rfl rfl
theorem kO_f {r : Option (Rs D)} : kO false r M = r := Eq.trans rfl rfl
theorem kO_b {k j : Bool} : kO k (some (.ok (.bl j) M)) M = some (.ok (.bl (k || j)) M) := by cases k <;> rfl
theorem e_and {b : CE} : ev cl (.and a b) ρ M = bR (ev cl a ρ M) fun x M => bR (lR (truD x) M) fun k M => kA k (ev cl b ρ M) M := by
  simp only [ev, bindF, liftF]
  congr 1; funext x M; congr 1; funext k M
  cases k <;> rfl
theorem e_or {b : CE} : ev cl (.or a b) ρ M = bR (ev cl a ρ M) fun x M => bR (lR (truD x) M) fun k M => kO k (ev cl b ρ M) M := by
  simp only [ev, bindF, liftF]
  congr 1; funext x M; congr 1; funext k M
  cases k <;> rfl
theorem e_not : ev cl (.not a) ρ M = bR (ev cl a ρ M) fun x M => bR (lR (truD x) M) fun k M => some (.ok (.bl (!k)) M) := by simp only [ev, bindF, liftF]
theorem e_ite {b : CE} : ev cl (.ite c a b) ρ M = bR (ev cl c ρ M) fun x M => bR (lR (truD x) M) fun k M => kR k (ev cl a ρ) (ev cl b ρ) M := by
  simp only [ev, bindF, liftF]
  congr 1; funext x M; congr 1; funext k M
  cases k <;> rfl
theorem e_tup {es : CEs} : ev cl (.tup es) ρ M = bR (evs cl es ρ M) fun ds M => if ds.length ≤ sizeLine then some (.ok (.tup ds) M) else none := by
  simp only [ev, bindF]
  congr 1; funext ds M
  split <;> rfl
theorem e_mkF {l : LE} : ev cl (.mk false l) ρ M = bR (evL cl l ρ M) fun xs M => some (.ok (.lst xs) M) := by simp only [ev, bindF]
theorem e_mkT {l : LE} : ev cl (.mk true l) ρ M = bR (evL cl l ρ M) fun xs M => some (.ok (.ref M.length) (M ++ [.lst xs])) := by simp only [ev, bindF]
theorem e_ix : ev cl (.ix a e) ρ M = bR (ev cl a ρ M) fun x M => bR (ev cl e ρ M) fun y M => bR (lR (intD y) M) fun k M => lR (ixD M x k) M := by simp only [ev, bindF, liftF, lookF]
theorem e_slLo : ev cl (.slLo a e) ρ M = bR (ev cl a ρ M) fun x M => bR (ev cl e ρ M) fun y M => bR (lR (intD y) M) fun k M => lR (slD M x (some k) none) M := by simp only [ev, bindF, liftF, lookF]
theorem e_slHi : ev cl (.slHi a e) ρ M = bR (ev cl a ρ M) fun x M => bR (ev cl e ρ M) fun y M => bR (lR (intD y) M) fun k M => lR (slD M x none (some k)) M := by simp only [ev, bindF, liftF, lookF]
theorem e_slLH : ev cl (.slLH a e c) ρ M = bR (ev cl a ρ M) fun x M => bR (ev cl e ρ M) fun y M => bR (lR (intD y) M) fun k M => bR (ev cl c ρ M) fun z M => bR (lR (intD z) M) fun j M => lR (slD M x (some k) (some j)) M := by simp only [ev, bindF, liftF, lookF]
theorem e_rev : ev cl (.rev a) ρ M = bR (ev cl a ρ M) fun x M => lR (revD M x) M := by simp only [ev, bindF, lookF]
theorem e_call {f : Nat} {es : CEs} {perm : List Nat} : ev cl (.call f es perm) ρ M = bR (evs cl es ρ M) fun ds M => bR (lR (permD ds perm) M) fun ds M => cl f ds M := by simp only [ev, bindF, liftF]
theorem e_bi {q : BI} {es : CEs} : ev cl (.bi q es) ρ M = bR (evs cl es ρ M) fun ds M => lR (biD M q ds) M := by simp only [ev, bindF, lookF]
theorem e_join {b : CE} : ev cl (.join a b) ρ M = bR (ev cl a ρ M) fun x M => match x with
    | .str s => bR (ev cl b ρ M) fun y M => lR (joinD M s y) M
    | _ => none := by
  simp only [ev, bindF]
  congr 1; funext x M
  cases x <;> first | rfl | simp only [bindF, lookF]
theorem e_isx {hits names : List Str} : ev cl (.isx a hits names) ρ M = bR (ev cl a ρ M) fun x M => lR (isxD hits names x) M := by simp only [ev, bindF, liftF]
theorem e_isi {ts : List Ty} : ev cl (.isi a ts) ρ M = bR (ev cl a ρ M) fun x M => lR ((tyD M x).map fun t => .bl (isiT t ts)) M := by simp only [ev, bindF, lookF]
theorem es_nil : evs cl .nil ρ M = some (.ok [] M) := by simp only [evs]
theorem es_cons {es : CEs} : evs cl (.cons e es) ρ M = bR (ev cl e ρ M) fun d M => bR (evs cl es ρ M) fun ds M => some (.ok (d :: ds) M) := by simp only [evs, bindF]
theorem ec_nil : evC cl .nil ρ M = some (.ok true M) := by simp only [evC]
theorem ec_cons {es : CEs} : evC cl (.cons e es) ρ M = bR (ev cl e ρ M) fun x M => lR (truD x) M := by simp only [evC, bindF, liftF]
theorem el_disp {es : CEs} : evL cl (.disp es) ρ M = bR (evs cl es ρ M) fun ds M => if ds.length ≤ sizeLine then some (.ok ds M) else none := by
  simp only [evL, bindF]
  congr 1; funext ds M
  split <;> rfl
/-- one turn of a comprehension -/
def turnE (cl : Nat → List D → Ev D) (t : List Nat) (single : Bool) (c : CEs) (e : CE) (ρ : Env) (x : D) (M : MH) : Option (Rs (Option D)) := match bindT t single x ρ with
  | none => none
  | some ρ' => bR (evC cl c ρ' M) fun k M => kR k (fun M => bR (ev cl e ρ' M) fun d M => some (.ok (some d) M)) (fun M => some (.ok none M)) M
theorem el_comp {s : SE} {t w : List Nat} {single : Bool} {c : CEs} : evL cl (.comp s t single c e w) ρ M = bR (evS cl s ρ M) fun wk M => if lenW M wk ≤ sizeLine then walkW (turnE cl t single c e (wipeS ρ w)) wk (lenW M wk) 0 M else none := by
  simp only [evL, bindF]
  congr 1; funext wk M
  congr 2
  funext x M
  unfold turnE
  cases bindT t single x (wipeS ρ w) with
  | none => rfl
  | some ρ' =>
    simp only [bindF]
    congr 1; funext k M
    cases k
    · rfl
    · simp only [bindF] <;> rfl
theorem el_cat {b : CE} : evL cl (.cat a b) ρ M = bR (ev cl a ρ M) fun x M => bR (ev cl b ρ M) fun y M => lR (match lstOf M x, lstOf M y with
      | some xs, some ys => if xs.length + ys.length ≤ sizeLine then some (xs ++ ys) else none
      | _, _ => none) M := by simp only [evL, bindF, lookF] <;> rfl
theorem el_rep {b : CE} : evL cl (.rep a b) ρ M = bR (ev cl a ρ M) fun x M => bR (ev cl b ρ M) fun y M => lR (match lstOf M x, intD y with
      | some xs, some k => if -(2 ^ 63) ≤ k ∧ k < 2 ^ 63 ∧ xs.length * k.toNat ≤ sizeLine then some (List.replicate k.toNat xs).flatten else none
      | _, _ => none) M := by simp only [evL, bindF, lookF] <;> rfl
theorem el_list : evL cl (.list a) ρ M = bR (ev cl a ρ M) fun x M => lR (seqOf M x) M := by simp only [evL, bindF, lookF]
theorem ew_seq : evS cl (.seq e) ρ M = bR (ev cl e ρ M) fun x M => lR ((srcOf M x).map .one) M := by simp only [evS, bindF, lookF]
def rngR (i j : Int) (M : MH) : Option (Rs Wk) := if (rngOk i && rngOk j) = true then some (.ok (.one (.fix (rangeD i j))) M) else none
theorem ew_rng1 : evS cl (.rng1 a) ρ M = bR (ev cl a ρ M) fun x M => bR (lR (intD x) M) fun i M => rngR 0 i M := by
  simp only [evS, bindF]
  congr 1; funext x M
  cases x <;> first | rfl | skip
  show (if _ then _ else _ : Ev Wk) _ = _
  unfold intD lR bR rngR
  simp only
  rw [show rngOk 0 = true by decide, Bool.true_and]
  split <;> rfl
theorem ew_rng2 {b : CE} : evS cl (.rng2 a b) ρ M = bR (ev cl a ρ M) fun x M => bR (ev cl b ρ M) fun y M => bR (lR (intD x) M) fun i M => bR (lR (intD y) M) fun j M => rngR i j M := by
  simp only [evS, bindF]
  congr 1; funext x M; congr 1; funext y M
  cases x <;> cases y <;> first | rfl | skip
  show (if _ then _ else _ : Ev Wk) _ = _
  unfold intD lR bR rngR
  simp only
  split <;> rfl
theorem ew_enum : evS cl (.enum a) ρ M = bR (ev cl a ρ M) fun x M => lR (if (isLstD x || isTupD x) = true then (srcOf M x).map .enum else none) M := by simp only [evS, bindF, lookF]
theorem ew_zip {b : CE} : evS cl (.zip a b) ρ M = bR (ev cl a ρ M) fun x M => bR (ev cl b ρ M) fun y M => lR (if (isLstD x && isLstD y || isTupD x && isTupD y) = true then match srcOf M x, srcOf M y with
      | some s, some t => some (.zip s t)
      | _, _ => none else none) M := by simp only [evS, bindF, lookF] <;> rfl
variable {bd th el : CSs} {es : CEs}
theorem s_expr : exs1 cl b wf (.expr e) ρ M = tR (ev cl e ρ M) ρ fun _ M => some (.nx, ρ, M) := by simp only [exs1, sbindF]
theorem s_ret : exs1 cl b wf (.ret e) ρ M = tR (ev cl e ρ M) ρ fun d M => some (.rt d, ρ, M) := by simp only [exs1, sbindF]
theorem s_retN : exs1 cl b wf .retN ρ M = some (.rt .non, ρ, M) := by simp only [exs1]
theorem s_set : exs1 cl b wf (.set i e) ρ M = tR (ev cl e ρ M) ρ fun d M => some (.nx, ρ.set i (some d), M) := by simp only [exs1, sbindF]
theorem s_par {is : List Nat} : exs1 cl b wf (.par is es) ρ M = tR (evs cl es ρ M) ρ fun ds M => tR (lR (setsS ρ is ds) M) ρ fun ρ' M => some (.nx, ρ', M) := by simp only [exs1, sbindF, liftF]
theorem s_unp {is : List Nat} : exs1 cl b wf (.unp is e) ρ M = tR (ev cl e ρ M) ρ fun d M => tR (lR (bindT is false d ρ) M) ρ fun ρ' M => some (.nx, ρ', M) := by simp only [exs1, sbindF, liftF]
theorem s_app : exs1 cl b wf (.app a e) ρ M = tR (ev cl a ρ M) ρ fun x M => tR (lR (lstOf M x) M) ρ fun _ M => tR (ev cl e ρ M) ρ fun d M => tR (appE b x d M) ρ fun _ M => some (.nx, ρ, M) := by simp only [exs1, sbindF, lookF]
theorem s_setIx {o : CE} : exs1 cl b wf (.setIx o a e) ρ M = tR (ev cl e ρ M) ρ fun d M => tR (ev cl o ρ M) ρ fun x M => tR (ev cl a ρ M) ρ fun y M => tR (setIxE b x y d M) ρ fun _ M => some (.nx, ρ, M) := by simp only [exs1, sbindF]
theorem s_augIx {op : BOp} {o : CE} : exs1 cl b wf (.augIx op o a e) ρ M = tR (ev cl o ρ M) ρ fun x M => tR (ev cl a ρ M) ρ fun y M => tR (lR (intD y) M) ρ fun k M => tR (lR ((lstOf M x).bind fun xs => L2.atI xs k) M) ρ fun old M =>
      tR (ev cl e ρ M) ρ fun d M => tR (lR (augD op old d) M) ρ fun new M => tR (setIxE b x y new M) ρ fun _ M => some (.nx, ρ, M) := by simp only [exs1, sbindF, liftF, lookF]
theorem s_aug {op : BOp} : exs1 cl b wf (.aug op i e) ρ M = tR (lR (getS ρ i) M) ρ fun old M => tR (ev cl e ρ M) ρ fun d M => tR (lR (augD op old d) M) ρ fun new M => some (.nx, ρ.set i (some new), M) := by simp only [exs1, sbindF, liftF]
theorem s_iff : exs1 cl b wf (.iff c th el) ρ M = tR (ev cl c ρ M) ρ fun x M => tR (lR (truD x) M) ρ fun k M => kR k (exs cl b wf th ρ) (exs cl b wf el ρ) M := by
  simp only [exs1, sbindF, liftF]
  congr 1; funext x M; congr 1; funext k M
  cases k <;> rfl
/-- one turn of a for -/
def turnS (cl : Nat → List D → Ev D) (b wf : Nat) (t : List Nat) (single : Bool) (bd : CSs) (d : D) (ρ : Env) : Se := match bindT t single d ρ with | none => fun _ => none | some ρ' => exs cl b wf bd ρ'
theorem s_for {t : List Nat} {single : Bool} {s : SE} : exs1 cl b wf (.for t single s bd) ρ M = tR (evS cl s ρ M) ρ fun w M => forW (turnS cl b wf t single bd) w (fuelW wf w) 0 ρ M := by
  simp only [exs1, sbindF]; rfl
theorem s_while : exs1 cl b wf (.while c bd) ρ M = whileE (ev cl c) (exs cl b wf bd) wf ρ M := by simp only [exs1]
theorem s_raise : exs1 cl b wf (.raise i e) ρ M = tR (ev cl e ρ M) ρ fun d M => some (.xc i d, ρ, M) := by simp only [exs1, sbindF]
/-- a try's end -/
def tkR (hits : List Nat) (names : List Str) (m i : Nat) (r : Option (Fl × Env × MH)) : Option (Fl × Env × MH) := match r with
  | none => none
  | some (fl, ρ', M') => match fl with
    | .xc c d => if c < names.length then (if hits.contains c = true then some (.nx, (ρ'.set m (some (.exc (names.getD c Str.empty) d))).set i none, M') else some (.xc c d, ρ', M')) else none
    | .nx => some (.nx, ρ', M')
    | .rt d => some (.rt d, ρ', M')
    | .bk => some (.bk, ρ', M')
    | .ct => some (.ct, ρ', M')
theorem s_try {hits : List Nat} {names : List Str} {m : Nat} : exs1 cl b wf (.tryK bd hits names m i) ρ M = tkR hits names m i (exs cl b wf bd ρ M) := by
  simp only [exs1]
  unfold tkR
  rfl
theorem e_val : ev cl (.val a) ρ M = bR (ev cl a ρ M) fun x M => lR (valD x) M := by simp only [ev, bindF, liftF]
theorem s_pass : exs1 cl b wf .pass ρ M = some (.nx, ρ, M) := by simp only [exs1]
theorem s_brk : exs1 cl b wf .brk ρ M = some (.bk, ρ, M) := by simp only [exs1]
theorem s_cont : exs1 cl b wf .cont ρ M = some (.ct, ρ, M) := by simp only [exs1]
theorem ss_nil : exs cl b wf .nil ρ M = some (.nx, ρ, M) := by simp only [exs]
theorem ss_cons {s : CS} {ss : CSs} : exs cl b wf (.cons s ss) ρ M = sR (exs1 cl b wf s ρ M) (exs cl b wf ss) := by
  simp only [exs]
  unfold sR
  cases exs1 cl b wf s ρ M with
  | none => rfl
  | some r =>
    obtain ⟨fl, ρ', M'⟩ := r
    cases fl <;> rfl
/-- a call -/
theorem evF_eq {P : Nat → Option FD} {d f : Nat} {fd : FD} {args : List D} (h : P f = some fd) (hl : args.length = fd.np) :
    evF P wf (d + 1) f args M = endR fd.keep M.length (exs (evF P wf d) M.length wf fd.body (args.map some ++ List.replicate (fd.nl - fd.np) none) M) := by
  simp only [evF, h, hl, if_true]
  unfold endR
  rfl
theorem tS_1 {d : D} : turnS cl b wf [i] true bd d ρ M = exs cl b wf bd (ρ.set i (some d)) M := Eq.trans rfl rfl
theorem tS_n {t : List Nat} {ds : List D} {ρ' : Env} (h : setsS ρ t ds = some ρ') : turnS cl b wf t false bd (.tup ds) ρ M = exs cl b wf bd ρ' M := by
  unfold turnS
  rw [show bindT t false (.tup ds) ρ = some ρ' from h]
/-! slots -/
theorem g_0 {d : D} : getS (some d :: ρ) 0 = some d := Eq.trans rfl rfl
theorem g_s {o : Option D} : getS (o :: ρ) (i + 1) = getS ρ i := by unfold getS; rw [List.getElem?_cons_succ]
theorem st_0 {o o' : Option D} : List.set (o :: ρ) 0 o' = o' :: ρ := Eq.trans rfl rfl
theorem st_s {o o' : Option D} : List.set (o :: ρ) (i + 1) o' = o :: List.set ρ i o' := Eq.trans rfl rfl
theorem bT_1 {d : D} : bindT [i] true d ρ = some (ρ.set i (some d)) := Eq.trans rfl rfl
theorem bT_n {t : List Nat} {ds : List D} : bindT t false (.tup ds) ρ = setsS ρ t ds := Eq.trans rfl rfl
theorem ss0 : setsS ρ [] [] = some ρ := Eq.trans rfl rfl
theorem ss1 {is : List Nat} {d : D} {ds : List D} : setsS ρ (i :: is) (d :: ds) = setsS (ρ.set i (some d)) is ds := Eq.trans rfl rfl
theorem wp0 : wipeS ρ [] = ρ := Eq.trans rfl rfl
theorem wp1 {is : List Nat} : wipeS ρ (i :: is) = (wipeS ρ is).set i none := Eq.trans rfl rfl
theorem pm0 {ds : List D} : permD ds [] = some [] := Eq.trans rfl rfl
theorem pm1 {ds : List D} {is : List Nat} {d : D} {r : List D} (h1 : ds[i]? = some d) (h2 : permD ds is = some r) : permD ds (i :: is) = some (d :: r) := by unfold permD; rw [h1, h2]
/-! walks -/
theorem forW_fix {f : D → Env → Se} {xs : List D} : ∀ (k i : Nat) (ρ : Env) (M : MH), i + k = xs.length → forW f (.one (.fix xs)) k i ρ M = forE f (xs.drop i) ρ M
  | 0, i, ρ, M, h => by
    rw [List.drop_eq_nil_of_le (by omega)]
    unfold forW forE itemW itemS
    simp only [List.getElem?_eq_none (show xs.length ≤ i by omega)]
  | k + 1, i, ρ, M, h => by
    have hi : i < xs.length := by omega
    rw [List.drop_eq_getElem_cons hi]
    unfold forW forE itemW itemS
    simp only [List.getElem?_eq_getElem hi]
    have hh : i + 1 + k = xs.length := by omega
    cases f xs[i] ρ M with
    | none => rfl
    | some r =>
      obtain ⟨fl, ρ', M'⟩ := r
      cases fl <;> simp only [forW_fix k (i + 1) _ _ hh]
theorem forW_fix0 {f : D → Env → Se} {xs : List D} : forW f (.one (.fix xs)) (fuelW wf (.one (.fix xs))) 0 ρ M = forE f xs ρ M := by
  have := forW_fix (f := f) (xs := xs) xs.length 0 ρ M (by omega)
  rw [List.drop_zero] at this
  exact this
theorem walkW_fix {f : D → Ev (Option D)} {xs : List D} : ∀ (k i : Nat) (M : MH), i + k = xs.length → walkW f (.one (.fix xs)) k i M = walkE f (xs.drop i) M
  | 0, i, M, h => by
    rw [List.drop_eq_nil_of_le (by omega)]
    unfold walkW walkE itemW itemS
    simp only [List.getElem?_eq_none (show xs.length ≤ i by omega)]
  | k + 1, i, M, h => by
    have hi : i < xs.length := by omega
    rw [List.drop_eq_getElem_cons hi]
    unfold walkW walkE itemW itemS
    simp only [List.getElem?_eq_getElem hi]
    have hh : i + 1 + k = xs.length := by omega
    cases f xs[i] M with
    | none => rfl
    | some r =>
      cases r with
      | ok y M1 => simp only [walkW_fix k (i + 1) _ hh]
      | ex c v M1 => rfl
theorem walkW_fix0 {f : D → Ev (Option D)} {xs : List D} : walkW f (.one (.fix xs)) (lenW M (.one (.fix xs))) 0 M = walkE f xs M := by
  have := walkW_fix (f := f) (xs := xs) xs.length 0 M (by omega)
  rw [List.drop_zero] at this
  exact this
/-- each turn gives a value and leaves the heap -/
theorem walkE_pure {f : D → Ev (Option D)} {g : D → Option D} : ∀ {xs : List D}, (∀ x ∈ xs, f x M = some (.ok (g x) M)) → walkE f xs M = some (.ok (xs.filterMap g) M)
  | [], _ => rfl
  | x :: xs, h => by
    unfold walkE
    rw [h x List.mem_cons_self]
    simp only [walkE_pure (xs := xs) fun y hy => h y (List.mem_cons_of_mem _ hy)]
    rw [List.filterMap_cons]
    cases g x <;> rfl
theorem walkE_map {f : D → Ev (Option D)} {g : D → D} {xs : List D} (h : ∀ x ∈ xs, f x M = some (.ok (some (g x)) M)) : walkE f xs M = some (.ok (xs.map g) M) := by
  rw [walkE_pure (g := fun x => some (g x)) h]
  congr 2
  exact List.filterMap_eq_map ▸ rfl
/-- a for that goes on to its end -/
theorem forE_nx {f : D → Env → Se} (I : Nat → Env → MH → Prop) : ∀ {xs : List D} {k : Nat} {ρ : Env} {M : MH}, I k ρ M → (∀ i x ρ M, xs[i]? = some x → I (k + i) ρ M → ∃ ρ' M', f x ρ M = some (.nx, ρ', M') ∧ I (k + i + 1) ρ' M') →
    ∃ ρ' M', forE f xs ρ M = some (.nx, ρ', M') ∧ I (k + xs.length) ρ' M'
  | [], k, ρ, M, h, _ => ⟨ρ, M, rfl, h⟩
  | x :: xs, k, ρ, M, h, st => by
    obtain ⟨ρ1, M1, e1, h1⟩ := st 0 x ρ M rfl h
    obtain ⟨ρ2, M2, e2, h2⟩ := forE_nx I (xs := xs) (k := k + 1) h1 fun i y ρ M hy hI => by
      have := st (i + 1) y ρ M (by simpa using hy) (by rw [show k + (i + 1) = k + 1 + i by omega]; exact hI)
      rw [show k + (i + 1) + 1 = k + 1 + i + 1 by omega] at this
      exact this
    refine ⟨ρ2, M2, ?_, by rw [List.length_cons, show k + (xs.length + 1) = k + 1 + xs.length by omega]; exact h2⟩
    unfold forE
    rw [e1]
    exact e2
/-- .. or that may hand something back -/
theorem forE_end {f : D → Env → Se} (I : Nat → Env → MH → Prop) (E : Option (Fl × Env × MH) → Prop) : ∀ {xs : List D} {k : Nat} {ρ : Env} {M : MH}, I k ρ M →
    (∀ i x ρ M, xs[i]? = some x → I (k + i) ρ M → (∃ ρ' M', f x ρ M = some (.nx, ρ', M') ∧ I (k + i + 1) ρ' M') ∨ ∃ d ρ' M', f x ρ M = some (.rt d, ρ', M') ∧ E (some (.rt d, ρ', M'))) →
    (∀ ρ' M', I (k + xs.length) ρ' M' → E (some (.nx, ρ', M'))) → E (forE f xs ρ M)
  | [], k, ρ, M, h, _, en => en ρ M h
  | x :: xs, k, ρ, M, h, st, en => by
    rcases st 0 x ρ M rfl h with ⟨ρ1, M1, e1, h1⟩ | ⟨d, ρ1, M1, e1, h1⟩
    · have := forE_end I E (xs := xs) (k := k + 1) h1 (fun i y ρ M hy hI => by
        have := st (i + 1) y ρ M (by simpa using hy) (by rw [show k + (i + 1) = k + 1 + i by omega]; exact hI)
        rw [show k + (i + 1) + 1 = k + 1 + i + 1 by omega] at this
        exact this) fun ρ' M' hI => en ρ' M' (by rw [List.length_cons, show k + (xs.length + 1) = k + 1 + xs.length by omega]; exact hI)
      unfold forE
      rw [e1]
      exact this
    · unfold forE
      rw [e1]
      exact h1
end
end MP

set_option Elab.async false
set_option linter.all false
set_option maxRecDepth 100000
namespace MP
open PySem
theorem ixN_nat {n i : Nat} (h : i < n) : L2.ixN n (i : Int) = some i := by
  unfold L2.ixN
  rw [if_pos (by omega), if_pos (by omega)]
  simp
theorem atI_nat {α : Type} {xs : List α} {i : Nat} {a : α} (h : xs[i]? = some a) : L2.atI xs (i : Int) = some a := by
  unfold L2.atI
  rw [ixN_nat (List.getElem?_eq_some_iff.mp h).1]
  exact h
theorem atI_int {α : Type} {xs : List α} {i : Int} {a : α} (h0 : 0 ≤ i) (h : xs[i.toNat]? = some a) : L2.atI xs i = some a := by
  have := atI_nat h
  rwa [Int.toNat_of_nonneg h0] at this
section
variable {α : Type} {a b c e f : α} {xs : List α}
theorem at0 : L2.atI (a :: xs) 0 = some a := atI_nat (i := 0) rfl
theorem at1 : L2.atI (a :: b :: xs) 1 = some b := atI_nat (i := 1) rfl
theorem at2 : L2.atI (a :: b :: c :: xs) 2 = some c := atI_nat (i := 2) rfl
theorem at3 : L2.atI (a :: b :: c :: e :: xs) 3 = some e := atI_nat (i := 3) rfl
theorem at4 : L2.atI (a :: b :: c :: e :: f :: xs) 4 = some f := atI_nat (i := 4) rfl
end
section
variable {M : MH} {n b : Nat} {xs ys : List D} {d : D}
theorem lstOf_ref (h : M[n]? = some (.lst xs)) : lstOf M (.ref n) = some xs := by unfold lstOf; simp only [h]
theorem seqOf_ref (h : M[n]? = some (.lst xs)) : seqOf M (.ref n) = some xs := by unfold seqOf; simp only [h]
theorem lstOf_lst : lstOf M (.lst xs) = some xs := rfl
theorem seqOf_lst : seqOf M (.lst xs) = some xs := rfl
theorem seqOf_tup : seqOf M (.tup xs) = some xs := rfl
theorem ixD_ref {i : Int} (h : M[n]? = some (.lst xs)) : ixD M (.ref n) i = L2.atI xs i := by unfold ixD; simp only [seqOf_ref h]
theorem ixD_lst {i : Int} : ixD M (.lst xs) i = L2.atI xs i := rfl
theorem ixD_tup {i : Int} : ixD M (.tup xs) i = L2.atI xs i := rfl
theorem lenD_ref (h : M[n]? = some (.lst xs)) : lenD M (.ref n) = some (.int xs.length) := by unfold lenD; simp only [seqOf_ref h]; rfl
theorem lenD_lst : lenD M (.lst xs) = some (.int xs.length) := rfl
theorem lenD_tup : lenD M (.tup xs) = some (.int xs.length) := rfl
theorem lenD_str {z : Str} : lenD M (.str z) = some (.int z.length) := rfl
/-- after a store the place holds what was stored -/
theorem set_get (h : M[n]? = some (.lst xs)) : (M.set n (.lst ys))[n]? = some (.lst ys) := List.getElem?_set_self (List.getElem?_eq_some_iff.mp h).1
theorem set_len : (M.set n (.lst ys)).length = M.length := List.length_set ..
/-- a store at a place of a list -/
theorem setIx_ok {k : Int} {j : Nat} (h : M[n]? = some (.lst xs)) (hj : L2.ixN xs.length k = some j) (hd : b ≤ n ∨ norefs d = true) : setIxE b (.ref n) (.int k) d M = some (.ok () (M.set n (.lst (xs.set j d)))) := by
  unfold setIxE
  simp only [h, hj, if_pos hd]
theorem setIx_nat {j : Nat} (h : M[n]? = some (.lst xs)) (hj : j < xs.length) (hd : b ≤ n ∨ norefs d = true) : setIxE b (.ref n) (.int j) d M = some (.ok () (M.set n (.lst (xs.set j d)))) := setIx_ok h (ixN_nat hj) hd
theorem app_ok (h : M[n]? = some (.lst xs)) (hl : xs.length < sizeLine) (hd : b ≤ n ∨ norefs d = true) : appE b (.ref n) d M = some (.ok () (M.set n (.lst (xs ++ [d])))) := by
  unfold appE
  simp only [h, if_pos (And.intro hl hd)]
theorem sR_kR {k : Bool} {f g : MH → Option (Fl × Env × MH)} {h : Env → MH → Option (Fl × Env × MH)} : sR (kR k f g M) h = kR k (fun M => sR (f M) h) (fun M => sR (g M) h) M := by cases k <;> rfl
end
/-- an int's own operations -/
theorem bin_add {M : MH} {i j : Int} : binD M .add (.int i) (.int j) = some (.int (i + j)) := rfl
theorem bin_addS {M : MH} {x y : Str} (h : x.length + y.length ≤ sizeLine) : binD M .add (.str x) (.str y) = some (.str (x ++ y)) := by
  show (if x.length + y.length ≤ sizeLine then some (D.str (x ++ y)) else none) = _
  rw [if_pos h]
theorem bin_addT {M : MH} {x y : List D} (h : x.length + y.length ≤ sizeLine) : binD M .add (.tup x) (.tup y) = some (.tup (x ++ y)) := by
  show (if x.length + y.length ≤ sizeLine then some (D.tup (x ++ y)) else none) = _
  rw [if_pos h]
theorem bin_addL {M : MH} {x y : List D} (h : x.length + y.length ≤ sizeLine) : binD M .add (.lst x) (.lst y) = some (.lst (x ++ y)) := by
  show (if x.length + y.length ≤ sizeLine then some (D.lst (x ++ y)) else none) = _
  rw [if_pos h]
theorem bin_mulS {M : MH} {x : Str} {k : Int} (h : -(2 ^ 63) ≤ k ∧ k < 2 ^ 62 ∧ x.length * k.toNat ≤ sizeLine) : binD M .mul (.str x) (.int k) = some (.str (repS x k.toNat)) := by
  show (if -(2 ^ 63) ≤ k ∧ k < 2 ^ 62 ∧ x.length * k.toNat ≤ sizeLine then some (D.str (repS x k.toNat)) else none) = _
  rw [if_pos h]
theorem bin_mulT {M : MH} {x : List D} {k : Int} (h : x.length ≤ 1000 ∧ k ≤ 1000 ∧ -(2 ^ 63) ≤ k) : binD M .mul (.tup x) (.int k) = some (.tup (List.replicate k.toNat x).flatten) := by
  show (if x.length ≤ 1000 ∧ k ≤ 1000 ∧ -(2 ^ 63) ≤ k then some (D.tup (List.replicate k.toNat x).flatten) else none) = _
  rw [if_pos h]
theorem slD_str {M : MH} {z : Str} {lo hi : Option Int} : slD M (.str z) lo hi = some (.str (L2.cutS z lo hi)) := rfl
theorem slD_tup {M : MH} {xs : List D} {lo hi : Option Int} : slD M (.tup xs) lo hi = some (.tup (cutD xs lo hi)) := rfl
theorem slD_lst {M : MH} {xs : List D} {lo hi : Option Int} : slD M (.lst xs) lo hi = some (.lst (cutD xs lo hi)) := rfl
theorem cutD_mem {α : Type} {xs : List α} {lo hi : Option Int} {x : α} (h : x ∈ cutD xs lo hi) : x ∈ xs := List.mem_of_mem_drop (List.mem_of_mem_take h)
theorem cutD_len {α : Type} {xs : List α} {lo hi : Option Int} : (cutD xs lo hi).length ≤ xs.length := by
  unfold cutD
  rw [List.length_take, List.length_drop]
  omega
theorem atI_mem {α : Type} {xs : List α} {r : Int} (h0 : 0 ≤ r) (h1 : r < xs.length) : ∃ y, L2.atI xs r = some y ∧ y ∈ xs := by
  have h : r.toNat < xs.length := by omega
  exact ⟨xs[r.toNat], atI_int h0 (List.getElem?_eq_getElem h), List.getElem_mem h⟩
theorem bin_sub {M : MH} {i j : Int} : binD M .sub (.int i) (.int j) = some (.int (i - j)) := rfl
theorem bin_mul {M : MH} {i j : Int} (h : mulOk i j = true) : binD M .mul (.int i) (.int j) = some (.int (i * j)) := by
  show (if mulOk i j = true then some (D.int (i * j)) else none) = _
  rw [if_pos h]
theorem bin_fdiv {M : MH} {i j : Int} (h : divOk j = true) : binD M .fdiv (.int i) (.int j) = some (.int (i.fdiv j)) := by
  show (if divOk j = true then some (D.int (i.fdiv j)) else none) = _
  rw [if_pos h]
theorem bin_mod {M : MH} {i j : Int} (h : j ≠ 0) : binD M .mod (.int i) (.int j) = some (.int (i.fmod j)) := by
  show (if j ≠ 0 then some (D.int (i.fmod j)) else none) = _
  rw [if_pos h]
theorem bin_pow {M : MH} {i j : Int} (h : 0 ≤ j ∧ j ≤ 1000000 ∧ i.natAbs < 2 ^ 64) : binD M .pow (.int i) (.int j) = some (.int (i ^ j.toNat)) := by
  show (if 0 ≤ j ∧ j ≤ 1000000 ∧ i.natAbs < 2 ^ 64 then some (D.int (i ^ j.toNat)) else none) = _
  rw [if_pos h]
theorem cmp_lt {M : MH} {i j : Int} : cmpD M .lt (.int i) (.int j) = some (decide (i < j)) := rfl
theorem cmp_le {M : MH} {i j : Int} : cmpD M .le (.int i) (.int j) = some (decide (i ≤ j)) := rfl
theorem cmp_gt {M : MH} {i j : Int} : cmpD M .gt (.int i) (.int j) = some (decide (j < i)) := rfl
theorem cmp_ge {M : MH} {i j : Int} : cmpD M .ge (.int i) (.int j) = some (decide (j ≤ i)) := rfl
theorem cmp_eqI {M : MH} {i j : Int} : cmpD M .eq (.int i) (.int j) = some (decide (i = j)) := rfl
theorem cmp_eqB {M : MH} {i j : Bool} : cmpD M .eq (.bl i) (.bl j) = some (decide (i = j)) := rfl
theorem cmp_eqS {M : MH} {i j : Str} : cmpD M .eq (.str i) (.str j) = some (decide (i = j)) := rfl
theorem cmp_neI {M : MH} {i j : Int} : cmpD M .ne (.int i) (.int j) = some (!decide (i = j)) := rfl
theorem cmp_neB {M : MH} {i j : Bool} : cmpD M .ne (.bl i) (.bl j) = some (!decide (i = j)) := rfl
theorem cmp_neS {M : MH} {i j : Str} : cmpD M .ne (.str i) (.str j) = some (!decide (i = j)) := rfl
theorem cmp_isN {M : MH} {a : D} : cmpD M .isN a .non = some (isNonD a) := rfl
theorem cmp_notN {M : MH} {a : D} : cmpD M .notN a .non = some (!isNonD a) := rfl
theorem bi_lenE {M : MH} {a : D} : biD M .len [a] = lenD M a := rfl
theorem bi_intI {M : MH} {i : Int} : biD M .int [.int i] = some (.int i) := rfl
theorem bi_min2 {M : MH} {i j : Int} : biD M .min2 [.int i, .int j] = some (.int (if j < i then j else i)) := rfl
theorem bi_max2 {M : MH} {i j : Int} : biD M .max2 [.int i, .int j] = some (.int (if j > i then j else i)) := rfl
theorem bi_allE {M : MH} {a : D} : biD M .all [a] = allD M a := rfl
theorem bi_anyE {M : MH} {a : D} : biD M .any [a] = anyD M a := rfl
theorem asBls_map {α : Type} {p : α → Bool} : ∀ {xs : List α}, asBls (xs.map fun x => .bl (p x)) = some (xs.map p)
  | [] => rfl
  | x :: xs => by
    show (asBls (xs.map fun x => .bl (p x))).map (p x :: ·) = _
    rw [asBls_map]; rfl
theorem all_map {α : Type} {M : MH} {p : α → Bool} {xs : List α} : allD M (.lst (xs.map fun x => .bl (p x))) = some (.bl (xs.all p)) := by
  show ((some (xs.map fun x => D.bl (p x))).bind asBls).map (fun bs => D.bl (bs.all id)) = _
  rw [Option.bind_some, asBls_map]
  simp
theorem any_map {α : Type} {M : MH} {p : α → Bool} {xs : List α} : anyD M (.lst (xs.map fun x => .bl (p x))) = some (.bl (xs.any p)) := by
  show ((some (xs.map fun x => D.bl (p x))).bind asBls).map (fun bs => D.bl (bs.any id)) = _
  rw [Option.bind_some, asBls_map]
  simp
theorem rangeD_eq {n : Nat} : rangeD 0 (n : Int) = (List.range n).map fun (i : Nat) => D.int (i : Int) := by
  unfold rangeD
  rw [show ((n : Int) - 0).toNat = n by omega]
  congr 1
  funext i
  rw [Int.zero_add]
theorem walkE_range {M : MH} {n : Nat} {f : D → Ev (Option D)} {g : Nat → D} (h : ∀ i, i < n → f (.int (i : Int)) M = some (.ok (some (g i)) M)) : walkE f (rangeD 0 (n : Int)) M = some (.ok ((List.range n).map g) M) := by
  rw [rangeD_eq]
  have : ∀ l : List Nat, (∀ i ∈ l, i < n) → walkE f (l.map fun (i : Nat) => D.int (i : Int)) M = some (.ok (l.map g) M) := by
    intro l
    induction l with
    | nil => intro _; rfl
    | cons i l ih =>
      intro hl
      show walkE f (.int (i : Int) :: l.map fun (i : Nat) => D.int (i : Int)) M = _
      unfold walkE
      rw [h i (hl i List.mem_cons_self)]
      simp only [ih fun j hj => hl j (List.mem_cons_of_mem _ hj)]
      rfl
  exact this _ fun i hi => List.mem_range.mp hi
section
variable {cl : Nat → List D → Ev D} {M : MH} {ρ : Env} {i : Nat} {e c : CE} {xs : List D} {t : List Nat}
/-- [e for x in xs] -/
theorem cm_map (g : D → D) (h : ∀ x ∈ xs, ev cl e (ρ.set i (some x)) M = some (.ok (g x) M)) : walkW (turnE cl [i] true .nil e ρ) (.one (.fix xs)) (lenW M (.one (.fix xs))) 0 M = some (.ok (xs.map g) M) := by
  rw [walkW_fix0]
  refine walkE_map fun x hx => ?_
  unfold turnE
  simp only [bT_1, ec_nil, bR_ok, kR_t, h x hx]
/-- [e for (x, ..) in xs] -/
theorem cm_mapT (g : D → D) (h : ∀ x ∈ xs, ∃ ρ', bindT t false x ρ = some ρ' ∧ ev cl e ρ' M = some (.ok (g x) M)) : walkW (turnE cl t false .nil e ρ) (.one (.fix xs)) (lenW M (.one (.fix xs))) 0 M = some (.ok (xs.map g) M) := by
  rw [walkW_fix0]
  refine walkE_map fun x hx => ?_
  obtain ⟨ρ', h1, h2⟩ := h x hx
  unfold turnE
  simp only [h1, ec_nil, bR_ok, kR_t, h2]
/-- [e for x in xs if c] -/
theorem cm_flt (g : D → D) (p : D → Bool) (h : ∀ x ∈ xs, ev cl c (ρ.set i (some x)) M = some (.ok (.bl (p x)) M) ∧ (p x = true → ev cl e (ρ.set i (some x)) M = some (.ok (g x) M))) :
    walkW (turnE cl [i] true (.cons c .nil) e ρ) (.one (.fix xs)) (lenW M (.one (.fix xs))) 0 M = some (.ok ((xs.filter p).map g) M) := by
  rw [walkW_fix0, walkE_pure (g := fun x => if p x = true then some (g x) else none) fun x hx => ?_]
  · congr 2
    clear h
    induction xs with
    | nil => rfl
    | cons x xs ih =>
      rw [List.filterMap_cons, List.filter_cons]
      by_cases hp : p x = true <;> simp [hp, ih]
  · obtain ⟨h1, h2⟩ := h x hx
    unfold turnE
    simp only [bT_1, ec_cons, h1, bR_ok, truD, lR_some]
    cases hp : p x with
    | true => simp only [kR_t, h2 hp, bR_ok, if_true]
    | false => simp only [kR_f, Bool.false_eq_true, if_false]
/-- [e for i in range(n)] -/
theorem cm_range {n : Nat} (g : Nat → D) (h : ∀ k, k < n → ev cl e (ρ.set i (some (.int (k : Int)))) M = some (.ok (g k) M)) : walkW (turnE cl [i] true .nil e ρ) (.one (.fix (rangeD 0 (n : Int)))) (lenW M (.one (.fix (rangeD 0 (n : Int))))) 0 M = some (.ok ((List.range n).map g) M) := by
  rw [walkW_fix0]
  refine walkE_range fun k hk => ?_
  unfold turnE
  simp only [bT_1, ec_nil, bR_ok, kR_t, h k hk]
theorem lenW_fix {n : Nat} (h : xs.length ≤ n) (hn : n ≤ sizeLine := by decide) : lenW M (.one (.fix xs)) ≤ sizeLine := Nat.le_trans h hn
theorem len_range {n : Nat} : (rangeD 0 (n : Int)).length = n := by rw [rangeD_eq, List.length_map, List.length_range]
theorem rngOk_nat {n : Nat} (h : n < 2 ^ 62) : rngOk (n : Int) = true := by
  unfold rngOk
  rw [Bool.and_eq_true]
  exact ⟨decide_eq_true (by omega), decide_eq_true (by omega)⟩
theorem rngR_0 {n : Nat} (h : n < 2 ^ 62) : rngR 0 (n : Int) M = some (.ok (.one (.fix (rangeD 0 (n : Int)))) M) := by
  unfold rngR
  rw [rngOk_nat h, show rngOk 0 = true by decide]; rfl
theorem chrs_length {z : Str} : (chrs z).length = z.length := by
  unfold chrs
  rw [List.length_map, Array.length_toList]; rfl
end
theorem whileE_t {t : Env → Ev D} {f : Env → Se} {n : Nat} {ρ ρ' : Env} {M M1 M' : MH} (h : t ρ M = some (.ok (.bl true) M1)) (hf : f ρ M1 = some (.nx, ρ', M')) : whileE t f (n + 1) ρ M = whileE t f n ρ' M' := by
  rw [whileE]
  simp only [h, hf]
theorem whileE_f {t : Env → Ev D} {f : Env → Se} {n : Nat} {ρ : Env} {M M1 : MH} (h : t ρ M = some (.ok (.bl false) M1)) : whileE t f (n + 1) ρ M = some (.nx, ρ, M1) := by
  rw [whileE]
  simp only [h]
mutual
/-- data that stands by itself -/
def clo : D → Bool
  | .non => true | .bl _ => true | .int _ => true | .str _ => true
  | .tup xs => clos xs
  | .lst xs => clos xs
  | .dct _ _ => false | .set _ => false | .ref _ => false | .exc _ _ => false | .scr _ => false
def clos : List D → Bool
  | [] => true
  | x :: xs => clo x && clos xs
end
mutual
def pyOf : D → PyData
  | .non => .none | .bl b => .bool b | .int i => .int i | .str s => .str s
  | .tup xs => .tuple (pysOf xs)
  | .lst xs => .list (pysOf xs)
  | .dct _ _ => .none | .set _ => .none | .ref _ => .none | .exc _ _ => .none | .scr _ => .none
def pysOf : List D → List PyData
  | [] => []
  | x :: xs => pyOf x :: pysOf xs
end
mutual
theorem toPyW_clo {rd : Nat → Option PyData} : ∀ d : D, clo d = true → toPyW rd d = some (pyOf d)
  | .non, _ => rfl
  | .bl _, _ => rfl
  | .int _, _ => rfl
  | .str _, _ => rfl
  | .tup xs, h => by
    show (toPysW rd xs).map PyData.tuple = _
    rw [toPysW_clo xs h]; rfl
  | .lst xs, h => by
    show (toPysW rd xs).map PyData.list = _
    rw [toPysW_clo xs h]; rfl
  | .dct _ _, h => by cases h
  | .set _, h => by cases h
  | .ref _, h => by cases h
  | .exc _ _, h => by cases h
  | .scr _, h => by cases h
theorem toPysW_clo {rd : Nat → Option PyData} : ∀ ds : List D, clos ds = true → toPysW rd ds = some (pysOf ds)
  | [], _ => rfl
  | d :: ds, h => by
    obtain ⟨h1, h2⟩ := Bool.and_eq_true_iff.mp (show (clo d && clos ds) = true from h)
    unfold toPysW
    rw [toPyW_clo d h1, toPysW_clo ds h2]; rfl
end
theorem toPy_clo {M : MH} {d : D} (h : clo d = true) : toPy M d = some (pyOf d) := toPyW_clo d h
mutual
/-- such data stays as it is at a def's end -/
theorem frzW_clo {rd : Nat → Option D} : ∀ d : D, clo d = true → frzW rd d = some d
  | .non, _ => rfl
  | .bl _, _ => rfl
  | .int _, _ => rfl
  | .str _, _ => rfl
  | .tup xs, h => by
    show (frzsW rd xs).map D.tup = _
    rw [frzsW_clo xs h]; rfl
  | .lst xs, h => by
    show (frzsW rd xs).map D.lst = _
    rw [frzsW_clo xs h]; rfl
  | .dct _ _, h => by cases h
  | .set _, h => by cases h
  | .ref _, h => by cases h
  | .exc _ _, h => by cases h
  | .scr _, h => by cases h
theorem frzsW_clo {rd : Nat → Option D} : ∀ ds : List D, clos ds = true → frzsW rd ds = some ds
  | [], _ => rfl
  | d :: ds, h => by
    obtain ⟨h1, h2⟩ := Bool.and_eq_true_iff.mp (show (clo d && clos ds) = true from h)
    unfold frzsW
    rw [frzW_clo d h1, frzsW_clo ds h2]
end
theorem fin_clo {M : MH} {k : Bool} {b : Nat} {d : D} (h : clo d = true) (hk : k = false) : fin k b d M = some (.ok d (M.take b)) := by
  subst hk
  unfold fin
  by_cases hb : M.length = b
  · rw [if_pos (.inr hb), ← hb, List.take_length]
  · rw [if_neg (by simp [hb])]
    unfold frz
    rw [frzW_clo d h]; rfl
theorem clos_of {xs : List D} (h : ∀ x ∈ xs, clo x = true) : clos xs = true := by
  induction xs with
  | nil => rfl
  | cons x xs ih =>
    show (clo x && clos xs) = true
    rw [h x List.mem_cons_self, ih fun y hy => h y (List.mem_cons_of_mem _ hy)]; rfl
def dep (d : D) : Nat := (pyOf d).depth
theorem pysOf_len : ∀ ds : List D, (pysOf ds).length = ds.length
  | [] => rfl
  | d :: ds => by show (pysOf ds).length + 1 = _; rw [pysOf_len ds]; rfl
theorem clos_mem : ∀ {xs : List D}, clos xs = true → ∀ x ∈ xs, clo x = true
  | x :: xs, h, y, hy => by
    obtain ⟨h1, h2⟩ := Bool.and_eq_true_iff.mp (show (clo x && clos xs) = true from h)
    rcases List.mem_cons.mp hy with rfl | hy
    · exact h1
    · exact clos_mem h2 y hy
theorem dep_mem : ∀ {xs : List D} {x : D}, x ∈ xs → dep x ≤ PyData.depthAll (pysOf xs)
  | y :: ys, x, h => by
    show dep x ≤ max (pyOf y).depth (PyData.depthAll (pysOf ys))
    rcases List.mem_cons.mp h with rfl | h
    · exact Nat.le_max_left _ _
    · exact Nat.le_trans (dep_mem h) (Nat.le_max_right _ _)
theorem dep_tup {xs : List D} {x : D} (h : x ∈ xs) : dep x < dep (.tup xs) := Nat.lt_succ_of_le (dep_mem h)
/-- == (): is it empty -/
theorem eq_empty {M : MH} {xs : List D} (h : clos xs = true) (hd : dep (.tup xs) ≤ 64) : cmpD M .eq (.tup xs) (.tup []) = some xs.isEmpty := by
  show eqD M (.tup xs) (.tup []) = _
  unfold eqD
  have h1 : toPy M (.tup xs) = some (pyOf (.tup xs)) := toPy_clo h
  have h2 : toPy M (.tup []) = some (.tuple []) := rfl
  simp only [h1, h2]
  rw [if_pos ⟨hd, by decide⟩]
  cases xs with
  | nil => rfl
  | cons x xs => rfl
/-- a for that checks each item: r handed back at the first that fails -/
theorem forE_chk {M : MH} {f : D → Env → Se} (I : Env → Prop) (p : D → Bool) (r : D) : ∀ {xs : List D} {ρ : Env}, I ρ → (∀ x ∈ xs, ∀ ρ, I ρ → (p x = true → ∃ ρ', f x ρ M = some (.nx, ρ', M) ∧ I ρ') ∧ (p x = false → ∃ ρ', f x ρ M = some (.rt r, ρ', M))) →
    (xs.all p = true → ∃ ρ', forE f xs ρ M = some (.nx, ρ', M) ∧ I ρ') ∧ (xs.all p = false → ∃ ρ', forE f xs ρ M = some (.rt r, ρ', M))
  | [], ρ, h, _ => ⟨fun _ => ⟨ρ, rfl, h⟩, fun z => absurd z (by simp)⟩
  | x :: xs, ρ, h, st => by
    obtain ⟨s1, s2⟩ := st x List.mem_cons_self ρ h
    rw [List.all_cons]
    cases hp : p x with
    | false =>
      refine ⟨fun z => absurd z (by simp), fun _ => ?_⟩
      obtain ⟨ρ', e⟩ := s2 hp
      exact ⟨ρ', by unfold forE; rw [e]⟩
    | true =>
      obtain ⟨ρ1, e1, h1⟩ := s1 hp
      have ih := forE_chk I p r (xs := xs) (ρ := ρ1) h1 fun y hy => st y (List.mem_cons_of_mem _ hy)
      rw [Bool.true_and]
      unfold forE
      rw [e1]
      exact ih
theorem fmod_range {i m : Int} (h : 0 < m) : 0 ≤ i.fmod m ∧ i.fmod m < m := ⟨Int.fmod_nonneg_of_pos i h, Int.fmod_lt_of_pos i h⟩
theorem mulOk_r {i j : Int} (h : -(2 ^ 64) < j ∧ j < 2 ^ 64) : mulOk i j = true := by
  unfold mulOk small
  rw [Bool.or_eq_true, Bool.or_eq_true]
  exact .inl (.inr (by simp only [Bool.and_eq_true, decide_eq_true_eq]; exact h))
theorem mulOk_l {i j : Int} (h : -(2 ^ 64) < i ∧ i < 2 ^ 64) : mulOk i j = true := by
  unfold mulOk small
  rw [Bool.or_eq_true, Bool.or_eq_true]
  exact .inl (.inl (by simp only [Bool.and_eq_true, decide_eq_true_eq]; exact h))
theorem divOk_s {j : Int} (h : 0 < j ∧ j < 1073741824) : divOk j = true := by
  unfold divOk
  rw [Bool.or_eq_true]
  exact .inl (decide_eq_true (by omega))
end MP

set_option Elab.async false
set_option linter.all false
set_option maxRecDepth 100000
namespace MP
open PySem
/-! ### data that may be shown -/
mutual
def gd : D → Bool
  | .non => true | .bl _ => true
  | .int i => decide (i.natAbs < 10 ^ 500)
  | .str s => PyData.strOk s && decide (s.length ≤ 50)
  | .tup xs => decide (xs.length ≤ 1000) && gds xs
  | .lst xs => decide (xs.length ≤ 1000) && gds xs
  | .dct _ _ => false | .set _ => false | .ref _ => false | .exc _ _ => false | .scr _ => false
def gds : List D → Bool
  | [] => true
  | x :: xs => gd x && gds xs
end
mutual
/-- how much there is to show -/
def wt : D → Nat
  | .tup xs => wts xs + 1
  | .lst xs => wts xs + 1
  | .non => 1 | .bl _ => 1 | .int _ => 1 | .str _ => 1
  | .dct _ _ => 1 | .set _ => 1 | .ref _ => 1 | .exc _ _ => 1 | .scr _ => 1
def wts : List D → Nat
  | [] => 0
  | x :: xs => wt x + wts xs
end
theorem gds_mem : ∀ {xs : List D}, gds xs = true → ∀ x ∈ xs, gd x = true
  | x :: xs, h, y, hy => by
    obtain ⟨h1, h2⟩ := Bool.and_eq_true_iff.mp (show (gd x && gds xs) = true from h)
    rcases List.mem_cons.mp hy with rfl | hy
    · exact h1
    · exact gds_mem h2 y hy
theorem gds_of {xs : List D} (h : ∀ x ∈ xs, gd x = true) : gds xs = true := by
  induction xs with
  | nil => rfl
  | cons x xs ih =>
    show (gd x && gds xs) = true
    rw [h x List.mem_cons_self, ih fun y hy => h y (List.mem_cons_of_mem _ hy)]; rfl
mutual
theorem gd_clo : ∀ v : D, gd v = true → clo v = true
  | .non, _ => rfl
  | .bl _, _ => rfl
  | .int _, _ => rfl
  | .str _, _ => rfl
  | .tup xs, h => gds_clo xs (Bool.and_eq_true_iff.mp (show (decide (xs.length ≤ 1000) && gds xs) = true from h)).2
  | .lst xs, h => gds_clo xs (Bool.and_eq_true_iff.mp (show (decide (xs.length ≤ 1000) && gds xs) = true from h)).2
  | .dct _ _, h => by cases h
  | .set _, h => by cases h
  | .ref _, h => by cases h
  | .exc _ _, h => by cases h
  | .scr _, h => by cases h
theorem gds_clo : ∀ xs : List D, gds xs = true → clos xs = true
  | [], _ => rfl
  | x :: xs, h => by
    obtain ⟨h1, h2⟩ := Bool.and_eq_true_iff.mp (show (gd x && gds xs) = true from h)
    show (clo x && clos xs) = true
    rw [gd_clo x h1, gds_clo xs h2]; rfl
end
theorem ok_append {x y : Str} (hx : PyData.strOk x = true) (hy : PyData.strOk y = true) : PyData.strOk (x ++ y) = true := str_app hx hy
theorem hexOk {q c : Nat} (hq : q < 0x110000) (hc : c < 0x110000) : ∀ e ∈ Builtin.Str.reprChar q c, e < 0x110000 := by
  have hex : ∀ (n w : Nat), ∀ e ∈ List.replicate (w - ((Nat.toDigits 16 n).map Char.toNat).length) 48 ++ (Nat.toDigits 16 n).map Char.toNat, e < 0x110000 := by
    intro n w e he
    rcases List.mem_append.mp he with he | he
    · rw [(List.mem_replicate.mp he).2]; decide
    · obtain ⟨ch, _, rfl⟩ := List.mem_map.mp he
      have := ch.valid
      rcases this with h | h
      · exact Nat.lt_trans h (by decide)
      · exact h.2
  intro e he
  unfold Builtin.Str.reprChar at he
  simp only at he
  repeat' split at he
  all_goals first
    | (simp only [List.mem_cons, List.not_mem_nil, or_false] at he; rcases he with rfl | rfl <;> first | decide | assumption)
    | (simp only [List.mem_cons, List.not_mem_nil, or_false] at he; subst he; assumption)
    | (rcases List.mem_append.mp he with he | he
       · simp only [List.mem_cons, List.not_mem_nil, or_false] at he; rcases he with rfl | rfl <;> decide
       · exact hex _ _ e he)
theorem repr_strOk {x : Str} (h : PyData.strOk x = true) : PyData.strOk (reprText x) = true := by
  have hq : reprQuote x < 0x110000 := by unfold reprQuote; split <;> decide
  unfold PyData.strOk at *
  rw [← Array.all_toList] at h ⊢
  unfold reprText
  have : ∀ (l : List Nat) (acc : Array Nat), (∀ c ∈ l, c < 0x110000) → (∀ c ∈ acc.toList, c < 0x110000) → ∀ c ∈ (l.foldl (fun out c => out ++ (Builtin.Str.reprChar (reprQuote x) c).toArray) acc).toList, c < 0x110000 := by
    intro l
    induction l with
    | nil => intro acc _ h; exact h
    | cons e l ih =>
      intro acc hl ha
      refine ih _ (fun c hc => hl c (List.mem_cons_of_mem _ hc)) fun c hc => ?_
      rw [Array.toList_append] at hc
      rcases List.mem_append.mp hc with hc | hc
      · exact ha c hc
      · exact hexOk hq (hl e List.mem_cons_self) c (by simpa using hc)
  simp only [Array.toList_push, List.all_append, List.all_cons, List.all_nil, Bool.and_true, Bool.and_eq_true, decide_eq_true_eq]
  refine ⟨?_, hq⟩
  rw [List.all_eq_true]
  intro c hc
  rw [decide_eq_true_eq]
  rw [← Array.foldl_toList] at hc
  exact this x.cps.toList #[reprQuote x] (fun e he => by simpa using List.all_eq_true.mp h e he) (fun e he => by simp at he; rw [he]; exact hq) c hc
mutual
theorem shown_facts : ∀ v : D, gd v = true → (pyOf v).showable = true ∧ (pyOf v).shown.length + 2 ≤ 600 * wt v ∧ PyData.strOk (pyOf v).shown = true
  | .non, _ => ⟨rfl, by show PyData.none.shown.length + 2 ≤ 600 * 1; rw [PyData.shown_none]; decide, by show PyData.strOk PyData.none.shown = true; rw [PyData.shown_none]; decide +kernel⟩
  | .bl b, _ => by
    refine ⟨rfl, ?_, ?_⟩
    · show (PyData.bool b).shown.length + 2 ≤ 600 * 1
      rw [PyData.shown_bool]; cases b <;> decide
    · show PyData.strOk (PyData.bool b).shown = true
      rw [PyData.shown_bool]; cases b <;> decide +kernel
  | .int i, h => by
    have hi : i.natAbs < 10 ^ 500 := of_decide_eq_true h
    refine ⟨?_, ?_, ?_⟩
    · show (PyData.int i).showable = true
      simp only [PyData.showable, decide_eq_true_eq]
      by_cases h0 : i.natAbs = 0
      · rw [h0]; decide
      · exact (Nat.log2_lt h0).mpr (Nat.lt_trans hi (by decide +kernel))
    · show (PyData.int i).shown.length + 2 ≤ 600 * 1
      rw [PyData.shown_int]
      have := int_text_length_le10 (k := 500) (by decide) hi
      have e : (Str.ofString (toString i)).length = (toString i).length := ofString_length _
      show (Str.ofString (toString i)).length + 2 ≤ _
      omega
    · show PyData.strOk (PyData.int i).shown = true
      rw [PyData.shown_int]
      exact strOk_of _
  | .str s, h => by
    obtain ⟨h1, h2⟩ := Bool.and_eq_true_iff.mp (show (PyData.strOk s && decide (s.length ≤ 50)) = true from h)
    have h2 := of_decide_eq_true h2
    refine ⟨rfl, ?_, ?_⟩
    · show (PyData.str s).shown.length + 2 ≤ 600 * 1
      rw [PyData.shown_str]
      have := StrLaws.reprText_len s fun c hc => by
        unfold PyData.strOk at h1
        rw [← Array.all_toList] at h1
        have := List.all_eq_true.mp h1 c hc
        simp at this; omega
      omega
    · show PyData.strOk (PyData.str s).shown = true
      rw [PyData.shown_str]
      exact repr_strOk h1
  | .tup xs, h => by
    obtain ⟨h1, h2, h3⟩ := showns_facts xs (Bool.and_eq_true_iff.mp (show (decide (xs.length ≤ 1000) && gds xs) = true from h)).2
    refine ⟨by simpa [pyOf, PyData.showable] using h1, ?_, ?_⟩
    · show (PyData.tuple (pysOf xs)).shown.length + 2 ≤ 600 * (wts xs + 1)
      rw [PyData.shown_tuple, strLen_append, strLen_append]
      have e1 : ("(" : Str).length = 1 := by decide +kernel
      have e2 : ((if (pysOf xs).length == 1 then ",)" else ")" : String) : Str).length ≤ 2 := by split <;> decide
      have e3 : (Str.join ", " (PyData.shownAll (pysOf xs))).length ≤ piled (PyData.shownAll (pysOf xs)) := by
        cases hq : PyData.shownAll (pysOf xs) with
        | nil => exact Nat.zero_le _
        | cons a b => have := join_length_add (a :: b) (by simp); omega
      omega
    · show PyData.strOk (PyData.tuple (pysOf xs)).shown = true
      rw [PyData.shown_tuple]
      refine ok_append (ok_append (by decide +kernel) (join_strOk (by decide +kernel) _ h3)) ?_
      split <;> decide +kernel
  | .lst xs, h => by
    obtain ⟨h1, h2, h3⟩ := showns_facts xs (Bool.and_eq_true_iff.mp (show (decide (xs.length ≤ 1000) && gds xs) = true from h)).2
    refine ⟨by simpa [pyOf, PyData.showable] using h1, ?_, ?_⟩
    · show (PyData.list (pysOf xs)).shown.length + 2 ≤ 600 * (wts xs + 1)
      rw [PyData.shown_list, strLen_append, strLen_append]
      have e1 : ("[" : Str).length = 1 := by decide +kernel
      have e2 : ("]" : Str).length = 1 := by decide +kernel
      have e3 : (Str.join ", " (PyData.shownAll (pysOf xs))).length ≤ piled (PyData.shownAll (pysOf xs)) := by
        cases hq : PyData.shownAll (pysOf xs) with
        | nil => exact Nat.zero_le _
        | cons a b => have := join_length_add (a :: b) (by simp); omega
      omega
    · show PyData.strOk (PyData.list (pysOf xs)).shown = true
      rw [PyData.shown_list]
      exact ok_append (ok_append (by decide +kernel) (join_strOk (by decide +kernel) _ h3)) (by decide +kernel)
  | .dct _ _, h => by cases h
  | .set _, h => by cases h
  | .ref _, h => by cases h
  | .exc _ _, h => by cases h
  | .scr _, h => by cases h
theorem showns_facts : ∀ xs : List D, gds xs = true → PyData.showableAll (pysOf xs) = true ∧ piled (PyData.shownAll (pysOf xs)) ≤ 600 * wts xs ∧ ∀ y ∈ PyData.shownAll (pysOf xs), PyData.strOk y = true
  | [], _ => ⟨rfl, by show piled (PyData.shownAll []) ≤ 0; rw [PyData.shownAll_nil]; exact Nat.le_refl _, fun y hy => by
      have : y ∈ PyData.shownAll [] := hy
      rw [PyData.shownAll_nil] at this; cases this⟩
  | x :: xs, h => by
    obtain ⟨h1, h2⟩ := Bool.and_eq_true_iff.mp (show (gd x && gds xs) = true from h)
    obtain ⟨a1, a2, a3⟩ := shown_facts x h1
    obtain ⟨b1, b2, b3⟩ := showns_facts xs h2
    refine ⟨by simp [pysOf, PyData.showableAll, a1, b1], ?_, ?_⟩
    · show piled (PyData.shownAll (pyOf x :: pysOf xs)) ≤ 600 * (wt x + wts xs)
      rw [PyData.shownAll_cons, piled_cons]
      omega
    · show ∀ y ∈ PyData.shownAll (pyOf x :: pysOf xs), _
      rw [PyData.shownAll_cons]
      intro y hy
      rcases List.mem_cons.mp hy with rfl | hy
      · exact a3
      · exact b3 y hy
end
/-- repr of such data -/
theorem repr_good {M : MH} {v : D} (h : gd v = true) (hw : wt v ≤ 20000) (hd : dep v ≤ 60) : biD M .repr [v] = some (.str (pyOf v).shown) := by
  show reprD M v = _
  unfold reprD
  obtain ⟨h1, h2, h3⟩ := shown_facts v h
  simp only [toPy_clo (gd_clo v h)]
  have : (pyOf v).shown.length ≤ sizeLine := by rw [sizeLine_eq]; omega
  rw [if_pos ⟨h1, hd, this, h3⟩]
/-- data of depth k and weight w -/
structure Good (k w : Nat) (v : D) : Prop where
  g : gd v = true
  d : dep v ≤ k
  w : wt v ≤ w
theorem Good.mono {k k' w w' : Nat} {v : D} (h : Good k w v) (hk : k ≤ k') (hw : w ≤ w') : Good k' w' v := ⟨h.g, Nat.le_trans h.d hk, Nat.le_trans h.w hw⟩
theorem wts_le {w : Nat} : ∀ {xs : List D}, (∀ x ∈ xs, wt x ≤ w) → wts xs ≤ xs.length * w
  | [], _ => Nat.zero_le _
  | x :: xs, h => by
    show wt x + wts xs ≤ (xs.length + 1) * w
    have h1 := h x List.mem_cons_self
    have h2 := wts_le (xs := xs) fun y hy => h y (List.mem_cons_of_mem _ hy)
    rw [Nat.succ_mul]
    omega
theorem depAll_le {k : Nat} : ∀ {xs : List D}, (∀ x ∈ xs, dep x ≤ k) → PyData.depthAll (pysOf xs) ≤ k
  | [], _ => Nat.zero_le _
  | x :: xs, h => Nat.max_le.mpr ⟨h x List.mem_cons_self, depAll_le fun y hy => h y (List.mem_cons_of_mem _ hy)⟩
theorem good_tup {k w m : Nat} {xs : List D} (h : ∀ x ∈ xs, Good k w x) (hl : xs.length ≤ m) (hm : m ≤ 1000 := by decide) : Good (k + 1) (m * w + 1) (.tup xs) := by
  refine ⟨?_, Nat.succ_le_succ (depAll_le fun x hx => (h x hx).d), Nat.succ_le_succ (Nat.le_trans (wts_le fun x hx => (h x hx).w) (Nat.mul_le_mul_right _ hl))⟩
  show (decide (xs.length ≤ 1000) && gds xs) = true
  rw [decide_eq_true (by omega), gds_of fun x hx => (h x hx).g]; rfl
theorem good_lst {k w m : Nat} {xs : List D} (h : ∀ x ∈ xs, Good k w x) (hl : xs.length ≤ m) (hm : m ≤ 1000 := by decide) : Good (k + 1) (m * w + 1) (.lst xs) := by
  refine ⟨?_, Nat.succ_le_succ (depAll_le fun x hx => (h x hx).d), Nat.succ_le_succ (Nat.le_trans (wts_le fun x hx => (h x hx).w) (Nat.mul_le_mul_right _ hl))⟩
  show (decide (xs.length ≤ 1000) && gds xs) = true
  rw [decide_eq_true (by omega), gds_of fun x hx => (h x hx).g]; rfl
theorem good_int {i : Int} (h : i.natAbs < 10 ^ 500) : Good 0 1 (.int i) := ⟨decide_eq_true h, Nat.le_refl _, Nat.le_refl _⟩
theorem good_small {i : Int} (h : i.natAbs < 10 ^ 60) : Good 0 1 (.int i) := good_int (Nat.lt_trans h (by decide +kernel))
theorem good_non : Good 0 1 .non := ⟨rfl, Nat.le_refl _, Nat.le_refl _⟩
theorem good_bl {b : Bool} : Good 0 1 (.bl b) := ⟨rfl, Nat.le_refl _, Nat.le_refl _⟩
theorem good_str {s : Str} (h : PyData.strOk s = true) (hl : s.length ≤ 50) : Good 0 1 (.str s) := ⟨by show (PyData.strOk s && decide (s.length ≤ 50)) = true; rw [h, decide_eq_true hl]; rfl, Nat.le_refl _, Nat.le_refl _⟩
end MP

set_option Elab.async false
set_option linter.all false
set_option maxRecDepth 100000
set_option maxHeartbeats 1000000
namespace MP
open PySem PySem.Spec PyProof.Rows L2
section
variable {K : PySem.W.Frag} {mg : Str → Option Value} {g : GE} {Pm : Nat → Option FD}
theorem defOk {f n m : Nat} {name : Str} {a : Addr} {fd : FuncData} {x qual : Str} {params : Arguments} {body : List Stmt} {scope : Scope} {N ps : List Str} {cs : CSs} {keep : Bool}
    (hm : mg name = some (.ref a)) (F : FunD K x qual params body scope [] [] a fd) (S : FnScope N ps scope) (hc : cSs g n ⟨N, scope, none⟩ m body = some cs) (hP : Pm f = some ⟨ps.length, N.length, cs, keep⟩)
    (hb : ∀ (kV doc pm : Value) (an : Option Addr) (cdv ct : Value) (us : List Value), us.length = ps.length → bindArgs (PySem.W.fnOf x qual params body scope .none kV doc pm an cdv ct) ⟨us, []⟩ = pure (ps.zip us))
    (hk : ∀ np ns perm, (f, np, ns, perm) ∈ g.kws → perm.length = ps.length ∧ ∀ (kV doc pm : Value) (an : Option Addr) (cdv ct : Value) (us ws zs : List Value), us.length = np → ws.length = ns.length → perm.mapM (fun i => (us ++ ws)[i]?) = some zs →
      bindArgs (PySem.W.fnOf x qual params body scope .none kV doc pm an cdv ct) ⟨us, ns.zip ws⟩ = pure (ps.zip zs)) : DefOk K mg g Pm f name ps := by
  refine ⟨a, fd, x, qual, params, body, scope, N, cs, keep, n, m, hm, F, S, hc, hP, F.bindsN hb, fun np ns perm h => ⟨(hk np ns perm h).1, fun s us ws zs l1 l2 l3 => ?_⟩⟩
  obtain ⟨oc, od, dV, kV, doc, pm, an, cdv, ct, osl, rfl, lk, hcd, hD, hK⟩ := F.ex
  rcases hD with ⟨_, rfl⟩ | ⟨e, _⟩
  · exact .of_eq ((hk np ns perm h).2 kV doc pm an cdv ct us ws zs l1 l2 l3)
  · exact absurd rfl e
theorem noKws {f : Nat} {g : GE} {p : Nat → List Str → List Nat → Prop} (h : g.kws.all (fun q => q.1 != f) = true) : ∀ np ns perm, (f, np, ns, perm) ∈ g.kws → p np ns perm := fun np ns perm hm => by
  have := List.all_eq_true.mp h _ hm
  simp at this
end
end MP

set_option Elab.async false
set_option linter.all false
set_option maxRecDepth 100000
set_option maxHeartbeats 1000000
namespace MP
open PySem PySem.Spec PyProof.Rows L2
/-! ### exception classes of the text: facts -/
def clsB (K : PySem.W.Frag) (C : Addr) : Bool := match K.lookup C with
  | some ⟨.type t, _, .cls cd, sl⟩ => (match cd.mro, sl.toList with
    | .ref C' :: bm, [_, _, _, _, some (.builtin n), _] => decide (t = "type") && (decide (C' = C) && (decide (n = "ValueError.__new__") && (!cd.hasDel && (cd.hasDict && PySem.HandSPX.refsVE bm))))
    | _, _ => false)
  | _ => false
theorem clsB_ok {K : PySem.W.Frag} {C : Addr} (q : clsB K C = true) : ∃ nm qn N bs bm sn sub ab col dd k0 k1 k2 k3 k5, K.lookup C = some (excClassObj nm qn C N bs bm true sn sub ab col dd k0 k1 k2 k3 k5 "ValueError.__new__") ∧ PySem.HandSPX.refsVE bm = true := by
  unfold clsB at q
  split at q
  · rename_i t dd cd sl ho
    split at q
    · rename_i C' bm k0 k1 k2 k3 n k5 hm hs
      simp only [Bool.and_eq_true, decide_eq_true_eq, Bool.not_eq_true'] at q
      obtain ⟨rfl, rfl, rfl, hdel, hh, ht⟩ := q
      obtain ⟨nm, bs, mro, ns, qn, hd, sn, sub, ab, col, del⟩ := cd
      dsimp only at hm hdel hh
      subst hm hdel hh
      have hsl : sl = #[k0, k1, k2, k3, some (.builtin "ValueError.__new__"), k5] := by
        obtain ⟨l⟩ := sl
        simp only at hs
        rw [hs]
      subst hsl
      exact ⟨nm, qn, ns, bs, bm, sn, sub, ab, col, dd, k0, k1, k2, k3, k5, ho, ht⟩
    · cases q
  · cases q
/-- all that is asked of the class x; its __init__ is that of the class b -/
def excB (b x : Str) (K : PySem.W.Frag) : Bool :=
  clsB K (He.ga K x) && (He.eqO (PySem.W.findIn K (.ref (He.ga K x)) "__setattr__") (some (some (.builtin "object.__setattr__"))) && (decide (PySem.W.subIn K (.ref (He.ga K x)) (.type "BaseException") = some true) &&
  (decide (PySem.W.typeIn K (.ref (He.ga K x)) = some (.type "type")) && (PySem.W.keepIn K (.ref (He.ga K x)) && (He.eqO (PySem.W.findIn K (.ref (He.ga K x)) "__getattribute__") (some (some (.builtin "BaseException.__getattribute__"))) &&
  (He.eqO (PySem.W.findIn K (.ref (He.ga K x)) "__getattr__") (some none) && (He.eqO (PySem.W.findIn K (.ref (He.ga K x)) "value") (some none) && (PySem.W.hasDictIn K (He.ga K x) &&
  (He.eqO (PySem.W.findIn K (.ref (He.ga K x)) "__init__") (some (some (.ref (He.fAd K (b, some "__init__"))))) && (decide (PySem.W.typeIn K (.ref (He.fAd K (b, some "__init__"))) = some (.type "function")) &&
  (He.eqO (PySem.W.findIn K (.ref (He.ga K x)) "__class__") (some (some (.builtin "object.__class__"))) && (He.eqO (PySem.W.specialIn K (.builtin "object.__class__") "__get__") (some (some (.builtin "getset_descriptor.__get__"))) &&
  (decide (PySem.W.takesIn K (.builtin "object.__class__") = some true) && decide (PySem.W.mroIn K (He.ga K x) (.type "object") = some true))))))))))))))
structure ExcF (K : PySem.W.Frag) (b x : Str) : Prop where
  oex : OexC K (He.ga K x)
  rd : ExcRd K (He.ga K x)
  init : PySem.W.findIn K (.ref (He.ga K x)) "__init__" = some (some (.ref (He.fAd K (b, some "__init__"))))
  fn : PySem.W.typeIn K (.ref (He.fAd K (b, some "__init__"))) = some (.type "function")
theorem excB_ok {K : PySem.W.Frag} {b x : Str} (q : excB b x K = true) : ExcF K b x := by
  obtain ⟨q1, q⟩ := He.ba q
  obtain ⟨q2, q⟩ := He.ba q
  obtain ⟨q3, q⟩ := He.ba q
  obtain ⟨q4, q⟩ := He.ba q
  obtain ⟨q5, q⟩ := He.ba q
  obtain ⟨q6, q⟩ := He.ba q
  obtain ⟨q7, q⟩ := He.ba q
  obtain ⟨q8, q⟩ := He.ba q
  obtain ⟨q9, q⟩ := He.ba q
  obtain ⟨q10, q⟩ := He.ba q
  obtain ⟨q11, q⟩ := He.ba q
  obtain ⟨q12, q⟩ := He.ba q
  obtain ⟨q13, q⟩ := He.ba q
  obtain ⟨q14, q15⟩ := He.ba q
  exact ⟨⟨clsB_ok q1, He.eqO_ok q2, of_decide_eq_true q3, of_decide_eq_true q4, q5⟩, ⟨He.eqO_ok q6, He.eqO_ok q7, He.eqO_ok q8, of_decide_eq_true q3, q9, He.eqO_ok q12, He.eqO_ok q13, of_decide_eq_true q14, of_decide_eq_true q15⟩, He.eqO_ok q10, of_decide_eq_true q11⟩
/-! ### the hook, by one more Bool -/
abbrev AlM : Type := He.AlD × Bool
def obsM (n : Nat) (fa : List He.Fa) (fn : List He.DefD) (ex : PySem.W.Frag → Bool) (g : Addr → Option Obj) : AlM := (He.obsD fa fn (He.frG g (He.asD g n)), ex (He.frG g (He.asD g n)))
def hookM (n : Nat) (fa : List He.Fa) (fn : List He.DefD) (ex : PySem.W.Frag → Bool) : PySem.W.Hook where
  α := AlM
  obs := fun s => obsM n fa fn ex s.heap.get?
  val := fun _ => (He.valD fn, true)
  says := fun _ h => ∃ K : PySem.W.Frag, K.In h ∧ He.SaysD fa fn K ∧ ex K = true
  of := fun _ _ e => ⟨_, He.frG_in, congrArg (fun z : AlM => z.1) e, congrArg (fun z : AlM => z.2) e⟩
  keeps := fun _ _ _ ⟨K, hK, c⟩ k => ⟨K, PySem.W.Frag.In.keeps hK k, c⟩
theorem obsM_eq {n : Nat} {fa : List He.Fa} {fn : List He.DefD} {ex : PySem.W.Frag → Bool} {g : Addr → Option Obj} {s : Shared} (h : ∀ a, g a = s.heap.get? a) : obsM n fa fn ex g = (hookM n fa fn ex).obs s := by
  have e : g = s.heap.get? := funext h
  rw [e] <;> rfl
/-! ### __init__ -/
def clsInit (s : Stmt) : Stmt := match s with
  | .ClassDef _ _ _ (i :: _) _ _ _ _ _ _ _ => i
  | s => s
def spInit (K : PySem.W.Frag) (C : Addr) : Sp := fun vs H Q E => ∃ a y, vs = [.ref a, y] ∧ H a = some (exo a C none) ∧ ∀ dx, H dx = none → dx ≠ a → Q .non (upd (upd H dx (exd dx [("value", y)])) a (exo a C (some dx)))
theorem findVE (K : PySem.W.Frag) : PySem.W.findCls K (.type "ValueError") (.type "type") "__init__" = some (.val (.builtin "ValueError.__init__")) := by kernel_rfl
section
variable {P : Program} {w : World} {K : PySem.W.Frag} {mg : Str → Option Value} {base : Heap}
theorem mpos {few : Bool} {o : Expr} {env : PySem.Env} {apos pos : Pos} (hl : (apos.endLine == pos.line) = true) : methodCallPos few o env apos pos = pure pos := by
  unfold methodCallPos
  rw [hl, Bool.or_true, if_pos rfl]
theorem ve_call {env : PySem.Env} {e1 e2 : Expr} {p1 p2 p5 : Pos} (hl : (p2.endLine == p5.line) = true) (h1 : isStar e1 = false) (h2 : isStar e2 = false) : eval (.Call (.Attribute (.Name "ValueError" p1) "__init__" p2) [e1, e2] [] p5) env = (do
      let ov ← eval (.Name "ValueError" p1) env
      standAt p2.atName
      let (f, first) ← holding [ov] (getMethod ov "__init__" (do return (← importBound (.Name "ValueError" p1) env).getD true))
      callWith p5 f first (backTo p5 (starEach [e1, e2] env)) (backToKw p5 (keywordEach [] env))) := by
  have few : methodCallForm 2 (backTo p5 (starEach [e1, e2] env)) (backToKw p5 (keywordEach [] env)) = true := by
    rw [star_no h1, star_no h2]
    rfl
  show (do
    let ov ← eval (.Name "ValueError" p1) env
    standAt p2.atName
    let (f, first) ← holding [ov] (calleeOf (methodCallForm 2 (backTo p5 (starEach [e1, e2] env)) (backToKw p5 (keywordEach [] env))) (.Name "ValueError" p1) env ov "__init__")
    let callPos ← methodCallPos (methodCallForm 2 (backTo p5 (starEach [e1, e2] env)) (backToKw p5 (keywordEach [] env))) (.Name "ValueError" p1) env p2 p5
    callWith callPos f first (backTo p5 (starEach [e1, e2] env)) (backToKw p5 (keywordEach [] env))) = _
  rw [mpos hl, few]
  rfl
theorem init_fn {CX : CXT} {k : Nat} {qual : Str} {params : Arguments} {body : List Stmt} {scope : Scope} {f C : Addr} {fd : FuncData} {p1 p2 p3 p4 p5 p6 p7 p8 p9 p10 : Pos}
    (F : FunD K "__init__" qual params body scope [] [] f fd) (S : FnScope ["self", "value"] ["self", "value"] scope) (T : OexC K C) (no : PySem.W.findIn K (.ref C) "value" = some none) (hm : mg "ValueError" = none)
    (hg : scope.names.lookup ("ValueError" : Str) = some .globalImplicit) (hl : (p2.endLine == p5.line) = true)
    (hb : body = [.Expr (.Call (.Attribute (.Name "ValueError" p1) "__init__" p2) [.Name "self" p3, .Name "value" p4] [] p5) p6, .Assign [.Attribute (.Name "self" p7) "value" p8] (.Name "value" p9) p10]) :
    FnOk P w K mg base CX (k + 1) f fd ["self", "value"] (spInit K C) := by
  subst hb
  have vs : Vis scope "self" := (S.par "self" (by simp)).elim .inl fun h => .inr (.inl h)
  have vv : Vis scope "value" := (S.par "value" (by simp)).elim .inl fun h => .inr (.inl h)
  refine F.ok S (fun vs H Q E h => ?_) fun cdv A outer s H vs Q E hr h => ?_
  · obtain ⟨a, y, rfl, _⟩ := h
    rfl
  · obtain ⟨a, y, rfl, ha, hq⟩ := h
    refine ⟨_, pss_cons (ps_expr (pe_veinit (X := cxOf CX P w K mg base ["self", "value"] qual scope f cdv A outer s H E) hg hm (findVE K) (pa_cons (pe_var (i := 0) rfl vs) (pa_cons (pe_var (i := 1) rfl vv) pa_nil)) (ve_call hl rfl rfl))) (pss_one (ps_ost (pe_var (i := 0) rfl vs) (pe_var (i := 1) rfl vv))), ?_⟩
    refine ⟨.ref a, rfl, y, rfl, ?_⟩
    exact ⟨a, C, [y], rfl, by simp, T, ha, y, rfl, .ref a, rfl, a, C, rfl, T, no, .inl ⟨ha, fun dx n ne => hq dx n ne⟩⟩
theorem pa_mono {X : Cx} {es : List Expr} {ta : TA} (h : PA X es ta) : PA X es (fun σ H Q => ∃ Q0 : List V → Hp → Prop, ta σ H Q0 ∧ ∀ vs H1, Q0 vs H1 → Q vs H1) := by
  refine ⟨fun pos pins s σ H Q I h => ?_⟩
  obtain ⟨Q0, h0, hq⟩ := h
  refine thn (h.run pos pins s σ H Q0 I h0) fun us s1 ⟨vs, H1, I1, r, q⟩ => ⟨vs, H1, I1, r, hq _ _ q⟩
end
end MP

set_option Elab.async false
set_option linter.all false
set_option maxRecDepth 100000
set_option maxHeartbeats 1000000
namespace MP
open PySem PySem.Spec PyProof.Rows L2
section
variable {P : Program} {w : World} {K : PySem.W.Frag} {mg : Str → Option Value} {base : Heap}
theorem hp_mk {H1 : Hp} {a dx C : Addr} {y : V} (h1 : H1 a = none) (ne : dx ≠ a) :
    upd (del (upd (upd (upd H1 a (exo a C none)) dx (exd dx [("value", y)])) a (exo a C (some dx))) a) dx (.xd [("value", y)]) = upd H1 dx (.xd [(("value" : Str), y)]) := by
  funext q
  by_cases h : q = dx
  · subst h
    rw [upd_same, upd_same]
  · rw [upd_ne h, upd_ne h]
    by_cases h2 : q = a
    · subst h2
      rw [del_same, h1]
    · rw [del_ne h2, upd_ne h2, upd_ne h, upd_ne h2]
theorem pmk_imp {X : Cx} {e : Expr} {t t' : L2.St → Hp → XK → Prop} (h : PMk X e t) (i : ∀ σ H Q, t' σ H Q → t σ H Q) : PMk X e t' := fun pins s σ H Q I q => h pins s σ H Q I (i _ _ _ q)
theorem exc_mk {b x qual : Str} {params : Arguments} {body : List Stmt} {scope : Scope} {fd : FuncData} {p1 p2 p3 p4 p5 p6 p7 p8 p9 p10 : Pos} (E : ExcF K b x)
    (F : FunD K "__init__" qual params body scope [] [] (He.fAd K (b, some "__init__")) fd) (S : FnScope ["self", "value"] ["self", "value"] scope) (hm : mg "ValueError" = none)
    (hg : scope.names.lookup ("ValueError" : Str) = some .globalImplicit) (hl : (p2.endLine == p5.line) = true)
    (hb : body = [.Expr (.Call (.Attribute (.Name "ValueError" p1) "__init__" p2) [.Name "self" p3, .Name "value" p4] [] p5) p6, .Assign [.Attribute (.Name "self" p7) "value" p8] (.Name "value" p9) p10])
    (bn : Binds K fd ["self", "value"] []) (hx : mg x = some (.ref (He.ga K x))) (hd : (x == ("__debug__" : Str)) = false) :
    ∀ (k : Nat) (X : Cx) (a : Expr) (ta : TA) (p pos : Pos), X.prog = P → X.w = w → X.K = K → X.mg = mg → X.base = base → X.calm = true → Room (k + 2) X.A → Gl X x → PA X [a] ta → isStar a = false → PMk X (.Call (.Name x p) [a] [] pos) (tMkE (He.ga K x) ta) := by
  intro k X a ta p pos hP hw hK hmg hbase hc hr hgl hpa hs
  subst hP hw hK hmg hbase
  have F1 : FnOk X.prog X.w X.K X.mg X.base (fun _ _ _ _ _ _ => False) (k + 1) _ fd ["self", "value"] (spInit X.K (He.ga X.K x)) := init_fn F S E.oex E.rd.no hm hg hl hb
  have pm := pmk_oex (e := a) (es := []) (p := p) (pos := pos) (dvs := []) (ds := []) E.oex E.init E.fn F1 hr bn .nil (fun _ _ _ _ _ _ _ z => z.elim) hgl hx (pa_mono hpa) hd (star_no hs) rfl
  refine pmk_imp pm fun σ H Q h => ?_
  refine ⟨_, h, fun vs H1 ⟨v, e, q⟩ => ?_⟩
  subst e
  refine ⟨by simp, fun a' n => ⟨a', v, rfl, upd_same, fun dx nd ne => ⟨rfl, dx, [("value", v)], upd_same, ?_, ?_, ?_⟩⟩⟩
  · rw [upd_ne ne, upd_same]
  · rw [upd_ne ne] at nd
    exact nd
  · rw [upd_ne ne] at nd
    rw [hp_mk n ne]
    exact q dx nd
theorem pk_mono {X : Cx} {ks : List Keyword} {ta : TA} (h : PK X ks ta) : PK X ks (fun σ H Q => ∃ Q0 : List V → Hp → Prop, ta σ H Q0 ∧ ∀ vs H1, Q0 vs H1 → Q vs H1) := by
  refine ⟨fun pos pins s σ H Q I h => ?_⟩
  obtain ⟨Q0, h0, hq⟩ := h
  refine thn (h.run pos pins s σ H Q0 I h0) fun us s1 ⟨vs, H1, I1, r, q⟩ => ⟨vs, H1, I1, r, hq _ _ q⟩
/-- C(value=e) -/
theorem exc_mkK {b x qual : Str} {params : Arguments} {body : List Stmt} {scope : Scope} {fd : FuncData} {p1 p2 p3 p4 p5 p6 p7 p8 p9 p10 : Pos} (E : ExcF K b x)
    (F : FunD K "__init__" qual params body scope [] [] (He.fAd K (b, some "__init__")) fd) (S : FnScope ["self", "value"] ["self", "value"] scope) (hm : mg "ValueError" = none)
    (hg : scope.names.lookup ("ValueError" : Str) = some .globalImplicit) (hl : (p2.endLine == p5.line) = true)
    (hb : body = [.Expr (.Call (.Attribute (.Name "ValueError" p1) "__init__" p2) [.Name "self" p3, .Name "value" p4] [] p5) p6, .Assign [.Attribute (.Name "self" p7) "value" p8] (.Name "value" p9) p10])
    (bn : ∀ (s : Shared) (u v : Value), BindsTo s fd ⟨[u], [(("value" : Str), v)]⟩ [(("self" : Str), u), (("value" : Str), v)]) (hx : mg x = some (.ref (He.ga K x))) (hd : (x == ("__debug__" : Str)) = false) :
    ∀ (k : Nat) (X : Cx) (a : Expr) (ta : TA) (p pos kp : Pos), X.prog = P → X.w = w → X.K = K → X.mg = mg → X.base = base → X.calm = true → Room (k + 2) X.A → Gl X x → PK X [⟨some "value", a, kp⟩] ta → PMk X (.Call (.Name x p) [] [⟨some "value", a, kp⟩] pos) (tMkE (He.ga K x) ta) := by
  intro k X a ta p pos kp hP hw hK hmg hbase hc hr hgl hpk
  subst hP hw hK hmg hbase
  have F1 : FnOk X.prog X.w X.K X.mg X.base (fun _ _ _ _ _ _ => False) (k + 1) _ fd ["self", "value"] (spInit X.K (He.ga X.K x)) := init_fn F S E.oex E.rd.no hm hg hl hb
  intro pins s σ H Q I h
  obtain ⟨nm, q, N, bs, bm, sn, sub, ab, col, dd, k0, k1, k2, k3, k5, hC, hbm⟩ := E.oex.cls
  refine wpAny_Call_Name_kw (ld_glob I hgl hx ?_ hd)
  refine PySem.W.callWith_KW0 (h₀ := X.base) I.ok.mod.kin E.oex.kC rfl ?_ rfl
  refine thn ((pk_mono hpk).run pos pins s σ H (fun vs H1 => ∃ v, vs = [v] ∧ ∀ d, H1 d = none → Q (.ref (He.ga X.K x)) (some d) (upd H1 d (.xd [(("value" : Str), v)]))) I ⟨_, h, fun _ _ z => z⟩) fun ws s1 ⟨zs, H1, I1, rz, v, ev, q1⟩ => ⟨I1.kIn, ?_⟩
  subst ev
  cases rz with
  | @cons _ u _ ws' ru rw' =>
    cases rw'
    show wpAny _ _ (call (.ref (He.ga X.K x)) [] [(("value" : Str), u)]) _ _ _
    obtain ⟨hp, g, dr, tk, os⟩ := s1
    have hsz : hp.objs.size ≤ hp.objs.size + 1 := Nat.le_succ _
    have hn : H1 (hp.objs.size + 1) = none := I1.hok.fresh hsz
    have kk : ∀ b o, hp.get? b = some o → ((hp.push (PySem.W.kdv_tup [])).push (PySem.HandSPX.excO (He.ga X.K x) hp.objs.size)).get? b = some o := fun b o e => Heap.get?_push_of_some _ (Heap.get?_push_of_some _ e)
    have hget : ((hp.push (PySem.W.kdv_tup [])).push (PySem.HandSPX.excO (He.ga X.K x) hp.objs.size)).get? (hp.objs.size + 1) = some (PySem.HandSPX.excO (He.ga X.K x) hp.objs.size) := by heap_get
    have I2 : Inv X pins σ (upd H1 (hp.objs.size + 1) (exo (hp.objs.size + 1) (He.ga X.K x) none)) ⟨(hp.push (PySem.W.kdv_tup [])).push (PySem.HandSPX.excO (He.ga X.K x) hp.objs.size), g, dr, tk, os⟩ :=
      I1.laid (t' := tk) (a := hp.objs.size + 1) (o := exo (hp.objs.size + 1) (He.ga X.K x) none) (h' := (hp.push (PySem.W.kdv_tup [])).push (PySem.HandSPX.excO (He.ga X.K x) hp.objs.size)) kk hsz (exo_ok hget)
    have r2 : Vals [V.ref (hp.objs.size + 1), v] [Value.ref (hp.objs.size + 1), u] := .cons rfl (.cons ru .nil)
    have hsp : spInit X.K (He.ga X.K x) [V.ref (hp.objs.size + 1), v] (upd H1 (hp.objs.size + 1) (exo (hp.objs.size + 1) (He.ga X.K x) none))
        (fun v' H2 => v' = .non ∧ ∃ (d : Addr) (fs : List (Str × V)), H2 (hp.objs.size + 1) = some (exo (hp.objs.size + 1) (He.ga X.K x) (some d)) ∧ H2 d = some (exd d fs) ∧ H1 d = none ∧ Q (.ref (He.ga X.K x)) (some d) (upd (del H2 (hp.objs.size + 1)) d (.xd fs))) (fun _ _ _ => False) := by
      refine ⟨hp.objs.size + 1, v, rfl, upd_same, fun dx nd ne => ⟨rfl, dx, [("value", v)], ?_, ?_, ?_, ?_⟩⟩
      · exact upd_same
      · rw [upd_ne ne, upd_same]
      · rw [upd_ne ne] at nd
        exact nd
      · rw [upd_ne ne] at nd
        rw [hp_mk hn ne]
        exact q1 dx nd
    refine wpAny_call (PySem.HandSPX.call_kw PySem.F.excBase_ValueError (fun Y => PySem.HandSPX.refsVE_contains Y bm hbm) (I1.kIn _ _ hC) (PySem.W.looks_findIn I1.kIn E.init) (fun self => PySem.W.bind_fn I1.kIn self E.fn)
      (codeAny_mono (F1.run _ X.stack _ _ ⟨[Value.ref (hp.objs.size + 1)], [(("value" : Str), u)]⟩ [Value.ref (hp.objs.size + 1), u] _ _ (fun _ _ _ => False) (hr.make _ [] _) (I2.env0.make _ [] _) (bn _ _ _) r2 hsp) fun r s' hq' => ?_))
    cases r with
    | error er => exact hq'.elim
    | ok fl =>
      cases fl with
      | ret u =>
        obtain ⟨v', H2, os2, bare2, un2, hok2, rv, ev, d, fs, ea, ed, hd1, q2⟩ := hq'
        subst ev
        obtain ⟨h2, g2, d2, t2, os'⟩ := s'
        exact ⟨rv, mk_end (raises_own E.oex.exC E.oex.tyC) I1 hsz kk un2 hok2 os2 bare2 ea ed hd1 q2⟩
      | next => exact False.elim hq'
      | brk => exact False.elim hq'
      | cont => exact False.elim hq'
theorem binds_kw {x qual : Str} {params : Arguments} {body : List Stmt} {scope : Scope} {a : Addr} {fd : FuncData} (F : FunD K x qual params body scope [] [] a fd)
    (h : ∀ (kV doc pm : Value) (an : Option Addr) (cdv ct u v : Value), bindArgs (PySem.W.fnOf x qual params body scope .none kV doc pm an cdv ct) ⟨[u], [(("value" : Str), v)]⟩ = pure [(("self" : Str), u), (("value" : Str), v)]) :
    ∀ (s : Shared) (u v : Value), BindsTo s fd ⟨[u], [(("value" : Str), v)]⟩ [(("self" : Str), u), (("value" : Str), v)] := fun s u v => by
  obtain ⟨oc, od, dV, kV, doc, pm, an, cdv, ct, osl, rfl, lk, hcd, hD, hK⟩ := F.ex
  rcases hD with ⟨_, rfl⟩ | ⟨e, _⟩
  · exact .of_eq (h kV doc pm an cdv ct u v)
  · exact absurd rfl e
theorem mem_lookup {α : Type} {x : Str} {v : α} : ∀ {l : List (Str × α)}, l.lookup x = some v → (x, v) ∈ l
  | [], h => by cases h
  | (y, u) :: r, h => by
    have h2 : (match x == y with | true => some u | false => r.lookup x) = some v := h
    cases q : (x == y) with
    | true =>
      rw [q] at h2
      cases h2
      rw [beq_iff_eq.mp q]
      exact List.mem_cons_self
    | false =>
      rw [q] at h2
      exact List.mem_cons_of_mem _ (mem_lookup h2)
end
/-- what isinstance is asked about -/
def askV (K : PySem.W.Frag) (x : Str) : Value := if x = "ValueError" then .type "ValueError" else .ref (He.ga K x)
def isxB (cls : List Str) (isxs : List (Str × List Str)) (K : PySem.W.Frag) : Bool := isxs.all fun p => cls.all fun y => decide (PySem.W.kitOne K (.ref (He.ga K y)) (askV K p.1) = some (p.2.contains y))
theorem isx_of {K : PySem.W.Frag} {mg : Str → Option Value} {cls : List Str} {isxs : List (Str × List Str)} (h : isxB cls isxs K = true) (hv : mg "ValueError" = none) (hc : ∀ name ∈ cls, mg name = some (.ref (He.ga K name)) ∧ (name == ("__debug__" : Str)) = false)
    (hn : ∀ p ∈ isxs, p.1 = "ValueError" ∨ (p.1 ∈ cls ∧ p.1 ≠ "ValueError")) : ∀ x hits, isxs.lookup x = some hits → (x == ("__debug__" : Str)) = false ∧ ∃ u, ((∃ C, mg x = some (.ref C) ∧ u = .ref C) ∨ (∃ T, mg x = none ∧ bootBuiltins x = some (.type T) ∧ x ≠ "__name__" ∧ u = .type T)) ∧ ∀ y, cls.contains y = true → PySem.W.kitOne K (.ref (He.ga K y)) u = some (hits.contains y) := fun x hits hk => by
  have hm := mem_lookup hk
  have h2 := List.all_eq_true.mp h _ hm
  have h3 : ∀ y, cls.contains y = true → PySem.W.kitOne K (.ref (He.ga K y)) (askV K x) = some (hits.contains y) := fun y hy => of_decide_eq_true (List.all_eq_true.mp h2 y (List.contains_iff_mem.mp hy))
  rcases hn _ hm with e | ⟨e, ne⟩
  · have e : x = "ValueError" := e
    subst e
    exact ⟨by decide, .type "ValueError", .inr ⟨"ValueError", hv, PyProof.Rows.Boot.«ValueError», by decide, rfl⟩, fun y hy => by have := h3 y hy; unfold askV at this; rwa [if_pos rfl] at this⟩
  · have ne : x ≠ "ValueError" := ne
    obtain ⟨c1, c2⟩ := hc x e
    exact ⟨c2, .ref (He.ga K x), .inl ⟨_, c1, rfl⟩, fun y hy => by have := h3 y hy; unfold askV at this; rwa [if_neg ne] at this⟩
end MP

set_option Elab.async false
set_option linter.all false
set_option maxRecDepth 100000
namespace MP
open PySem L2
/-! ### the laws' own small defs (draws of the first kind, same) -/
def KA_pot_1 : CS := (.ret (.mk true (.cat (.mk true (.disp (.cons (.cst (.int (0))) (.cons (.cst (.int (30402457))) (.cons (.cst (.int (0))) (.cons (.cst (.int (4))) .nil)))))) (.mk false (.list (.var 0))))))
def KA_pot : CSs := (.cons KA_pot_1 .nil)
def KA_take_1a_1 : CS := (.set 2 (.ix (.var 0) (.ix (.var 0) (.cst (.int (3))))))
def KA_take_1a_2 : CS := (.augIx .add (.var 0) (.cst (.int (3))) (.cst (.int (1))))
def KA_take_1a_3a_1 : CS := (.setIx (.var 0) (.cst (.int (0))) (.bin .sub (.var 2) (.bin .pow (.cst (.int (10))) (.cst (.int (18))))))
def KA_take_1a_3a : CSs := (.cons KA_take_1a_3a_1 .nil)
def KA_take_1a_3b_1 : CS := (.setIx (.var 0) (.cst (.int (1))) (.bin .mod (.bi .int (.cons (.bin .add (.bin .mul (.bin .add (.ix (.var 0) (.cst (.int (1)))) (.var 2)) (.cst (.int (6700417)))) (.bin .mul (.cst (.int (211))) (.ix (.var 0) (.cst (.int (3)))))) .nil)) (.cst (.int (2305843009213693951)))))
def KA_take_1a_3b : CSs := (.cons KA_take_1a_3b_1 .nil)
def KA_take_1a_3 : CS := (.iff (.cmp .ge (.var 2) (.bin .pow (.cst (.int (10))) (.cst (.int (18))))) KA_take_1a_3a KA_take_1a_3b)
def KA_take_1a : CSs := (.cons KA_take_1a_1 (.cons KA_take_1a_2 (.cons KA_take_1a_3 .nil)))
def KA_take_1 : CS := (.iff (.and (.cmp .eq (.ix (.var 0) (.cst (.int (0)))) (.cst (.int (0)))) (.cmp .lt (.ix (.var 0) (.cst (.int (3)))) (.bi .len (.cons (.var 0) .nil)))) KA_take_1a .nil)
def KA_take_2a_1 : CS := (.set 3 (.bin .mod (.bi .int (.cons (.ix (.var 0) (.cst (.int (0)))) .nil)) (.var 1)))
def KA_take_2a_2 : CS := (.setIx (.var 0) (.cst (.int (0))) (.bin .fdiv (.ix (.var 0) (.cst (.int (0)))) (.var 1)))
def KA_take_2a_3 : CS := (.ret (.var 3))
def KA_take_2a : CSs := (.cons KA_take_2a_1 (.cons KA_take_2a_2 (.cons KA_take_2a_3 .nil)))
def KA_take_2 : CS := (.iff (.cmp .gt (.ix (.var 0) (.cst (.int (0)))) (.cst (.int (0)))) KA_take_2a .nil)
def KA_take_3 : CS := (.augIx .add (.var 0) (.cst (.int (2))) (.cst (.int (1))))
def KA_take_4 : CS := (.set 4 (.bin .mod (.bi .int (.cons (.bin .pow (.bin .add (.ix (.var 0) (.cst (.int (1)))) (.bin .mul (.cst (.int (4256233))) (.ix (.var 0) (.cst (.int (2)))))) (.cst (.int (3)))) .nil)) (.cst (.int (2305843009213693951)))))
def KA_take_5 : CS := (.set 4 (.bin .mod (.bi .int (.cons (.bin .pow (.bin .add (.var 4) (.bin .mul (.cst (.int (151))) (.ix (.var 0) (.cst (.int (2)))))) (.cst (.int (2)))) .nil)) (.cst (.int (1000000000000000003)))))
def KA_take_6 : CS := (.ret (.bin .mod (.bi .int (.cons (.bin .fdiv (.var 4) (.cst (.int (128)))) .nil)) (.var 1)))
def KA_take : CSs := (.cons KA_take_1 (.cons KA_take_2 (.cons KA_take_3 (.cons KA_take_4 (.cons KA_take_5 (.cons KA_take_6 .nil))))))
def K_same_1a_1 : CS := (.ret (.cmp .isN (.var 0) (.cst .non)))
def K_same_1a : CSs := (.cons K_same_1a_1 .nil)
def K_same_1 : CS := (.iff (.cmp .isN (.var 1) (.cst .non)) K_same_1a .nil)
def K_same_2a_1 : CS := (.ret (.and (.cmp .eq (.isi (.var 0) [.bool]) (.isi (.var 1) [.bool])) (.and (.isi (.var 0) [.bool, .str]) (.cmp .eq (.var 0) (.var 1)))))
def K_same_2a : CSs := (.cons K_same_2a_1 .nil)
def K_same_2 : CS := (.iff (.isi (.var 1) [.bool, .str]) K_same_2a .nil)
def K_same_3a_1 : CS := (.ret (.and (.isi (.var 0) [.int]) (.and (.not (.isi (.var 0) [.bool])) (.cmp .eq (.var 0) (.var 1)))))
def K_same_3a : CSs := (.cons K_same_3a_1 .nil)
def K_same_3 : CS := (.iff (.isi (.var 1) [.int]) K_same_3a .nil)
def K_same_4a_1 : CS := (.ret (.cst (.bl false)))
def K_same_4a : CSs := (.cons K_same_4a_1 .nil)
def K_same_4 : CS := (.iff (.or (.cmp .ne (.isi (.var 1) [.list]) (.isi (.var 0) [.list])) (.cmp .ne (.isi (.var 1) [.tuple]) (.isi (.var 0) [.tuple]))) K_same_4a .nil)
def K_same_5 (i : Nat) : CS := (.ret (.and (.cmp .eq (.bi .len (.cons (.var 0) .nil)) (.bi .len (.cons (.var 1) .nil))) (.bi .all (.cons (.mk false (.comp (.rng1 (.bi .len (.cons (.var 1) .nil))) [2] true .nil (.call i (.cons (.ix (.var 0) (.var 2)) (.cons (.ix (.var 1) (.var 2)) .nil)) [0, 1]) [2])) .nil))))
def K_same (i : Nat) : CSs := (.cons K_same_1 (.cons K_same_2 (.cons K_same_3 (.cons K_same_4 (.cons (K_same_5 i) .nil)))))

section
variable {wf d : Nat} {M : MH} {P : Nat → Option FD} {iT iS : Nat}
/-! ### draws -/
abbrev pot (a b c e : Int) (ns : List Int) : List D := .int a :: .int b :: .int c :: .int e :: ns.map .int
theorem set_same {M : MH} {n : Nat} {mo : MO} (h : M[n]? = some mo) : M.set n mo = M := by
  obtain ⟨h1, h2⟩ := List.getElem?_eq_some_iff.mp h
  rw [← h2]
  exact List.set_getElem_self h1
section
variable {bb n : Nat} {a b c e v : Int} {ns : List Int}
theorem pot_len : (pot a b c e ns).length = 4 + ns.length := by simp [pot]; omega
theorem pot_s0 (hP : M[n]? = some (.lst (pot a b c e ns))) : setIxE bb (.ref n) (.int 0) (.int v) M = some (.ok () (M.set n (.lst (pot v b c e ns)))) := setIx_nat (j := 0) hP (by rw [pot_len]; omega) (.inr rfl)
theorem pot_s1 (hP : M[n]? = some (.lst (pot a b c e ns))) : setIxE bb (.ref n) (.int 1) (.int v) M = some (.ok () (M.set n (.lst (pot a v c e ns)))) := setIx_nat (j := 1) hP (by rw [pot_len]; omega) (.inr rfl)
theorem pot_s2 (hP : M[n]? = some (.lst (pot a b c e ns))) : setIxE bb (.ref n) (.int 2) (.int v) M = some (.ok () (M.set n (.lst (pot a b v e ns)))) := setIx_nat (j := 2) hP (by rw [pot_len]; omega) (.inr rfl)
theorem pot_s3 (hP : M[n]? = some (.lst (pot a b c e ns))) : setIxE bb (.ref n) (.int 3) (.int v) M = some (.ok () (M.set n (.lst (pot a b c v ns)))) := setIx_nat (j := 3) hP (by rw [pot_len]; omega) (.inr rfl)
theorem pot_get {a' b' c' e' : Int} (hP : M[n]? = some (.lst (pot a b c e ns))) : (M.set n (.lst (pot a' b' c' e' ns)))[n]? = some (.lst (pot a' b' c' e' ns)) := set_get hP
theorem pot_lenD (hP : M[n]? = some (.lst (pot a b c e ns))) : lenD M (.ref n) = some (.int (4 + (ns.length : Int))) := by rw [lenD_ref hP, pot_len]; simp
theorem take_1 {cl : Nat → List D → Ev D} {many : Int} (hP : M[n]? = some (.lst (pot a b c e ns))) (ha : 0 ≤ a) (hb : 0 ≤ b) (hb2 : b < 2305843009213693951) (he : 4 ≤ e) (hn : ns.length ≤ 100) :
    ∃ a' b' e' x, exs1 cl bb wf KA_take_1 [some (.ref n), some (.int many), none, none, none] M = some (.nx, [some (.ref n), some (.int many), x, none, none], M.set n (.lst (pot a' b' c e' ns))) ∧ 0 ≤ a' ∧ 0 ≤ b' ∧ b' < 2305843009213693951 ∧ 4 ≤ e' := by
  simp only [KA_take_1, e_var, e_cst, e_bin, e_neg, e_cmp, e_cmp2, e_and, e_or, e_not, e_ite, e_tup, e_mkF, e_mkT, e_ix, e_slLo, e_slHi, e_slLH, e_rev, e_call, e_bi, e_isi, es_nil, es_cons, ec_nil, ec_cons, el_disp, el_cat, el_rep, el_list, ew_seq, ew_rng1, ew_rng2, ew_enum, ew_zip, s_expr, s_ret, s_retN, s_set, s_par, s_unp, s_app, s_setIx, s_augIx, s_aug, s_iff, s_while, s_raise, s_pass, s_brk, s_cont, ss_nil, ss_cons, lR_some, bR_ok, bR_ex, tR_ok, tR_ex, sR_nx, sR_rt, sR_bk, sR_ct, sR_xc, endR_rt, endR_nx, endR_xc, kR_t, kR_f, kA_t, kA_f, kA_b, kO_t, kO_f, kO_b, g_0, g_s, st_0, st_s, bT_1, bT_n, tS_1, ss0, ss1, wp0, wp1, permD, intD, truD, Option.map_some, Option.map_none, Option.bind_some, List.getElem?_cons_zero, List.getElem?_cons_succ, List.map_cons, List.map_nil, List.length_cons, List.length_nil, List.cons_append, List.nil_append, List.replicate_succ, List.replicate_zero, Nat.sub_self, fin_same, finX_same, fin_keep, if_true, if_false, reduceIte, ixD_ref hP, at0, at3, bi_lenE, pot_lenD hP, cmp_eqI, cmp_lt]
  by_cases h : (decide (a = 0) && decide (e < 4 + (ns.length : Int))) = true
  · rw [h]
    have h2 : e < 4 + (ns.length : Int) := by simp at h; omega
    obtain ⟨cell, hc⟩ : ∃ cell, ns[e.toNat - 4]? = some cell := ⟨ns[e.toNat - 4]'(by omega), by simp⟩
    have hat : L2.atI (pot a b c e ns) e = some (.int cell) := by
      refine atI_int (by omega) ?_
      have : e.toNat = (e.toNat - 4) + 4 := by omega
      rw [this]
      simp [pot, hc]
    have hP1 := pot_get (a' := a) (b' := b) (c' := c) (e' := e + 1) hP
    simp only [e_var, e_cst, e_bin, e_neg, e_cmp, e_cmp2, e_and, e_or, e_not, e_ite, e_tup, e_mkF, e_mkT, e_ix, e_slLo, e_slHi, e_slLH, e_rev, e_call, e_bi, e_isi, es_nil, es_cons, ec_nil, ec_cons, el_disp, el_cat, el_rep, el_list, ew_seq, ew_rng1, ew_rng2, ew_enum, ew_zip, s_expr, s_ret, s_retN, s_set, s_par, s_unp, s_app, s_setIx, s_augIx, s_aug, s_iff, s_while, s_raise, s_pass, s_brk, s_cont, ss_nil, ss_cons, lR_some, bR_ok, bR_ex, tR_ok, tR_ex, sR_nx, sR_rt, sR_bk, sR_ct, sR_xc, endR_rt, endR_nx, endR_xc, kR_t, kR_f, kA_t, kA_f, kA_b, kO_t, kO_f, kO_b, g_0, g_s, st_0, st_s, bT_1, bT_n, tS_1, ss0, ss1, wp0, wp1, permD, intD, truD, Option.map_some, Option.map_none, Option.bind_some, List.getElem?_cons_zero, List.getElem?_cons_succ, List.map_cons, List.map_nil, List.length_cons, List.length_nil, List.cons_append, List.nil_append, List.replicate_succ, List.replicate_zero, Nat.sub_self, fin_same, finX_same, fin_keep, if_true, if_false, reduceIte, KA_take_1a, KA_take_1a_1, KA_take_1a_2, KA_take_1a_3, ixD_ref hP, lstOf_ref hP, at3, hat, augD, pot_s3 hP, bin_pow (i := 10) (j := 18) (by decide), cmp_ge]
    by_cases h3 : (10 : Int) ^ (18 : Int).toNat ≤ cell
    · simp only [decide_eq_true h3, e_var, e_cst, e_bin, e_neg, e_cmp, e_cmp2, e_and, e_or, e_not, e_ite, e_tup, e_mkF, e_mkT, e_ix, e_slLo, e_slHi, e_slLH, e_rev, e_call, e_bi, e_isi, es_nil, es_cons, ec_nil, ec_cons, el_disp, el_cat, el_rep, el_list, ew_seq, ew_rng1, ew_rng2, ew_enum, ew_zip, s_expr, s_ret, s_retN, s_set, s_par, s_unp, s_app, s_setIx, s_augIx, s_aug, s_iff, s_while, s_raise, s_pass, s_brk, s_cont, ss_nil, ss_cons, lR_some, bR_ok, bR_ex, tR_ok, tR_ex, sR_nx, sR_rt, sR_bk, sR_ct, sR_xc, endR_rt, endR_nx, endR_xc, kR_t, kR_f, kA_t, kA_f, kA_b, kO_t, kO_f, kO_b, g_0, g_s, st_0, st_s, bT_1, bT_n, tS_1, ss0, ss1, wp0, wp1, permD, intD, truD, Option.map_some, Option.map_none, Option.bind_some, List.getElem?_cons_zero, List.getElem?_cons_succ, List.map_cons, List.map_nil, List.length_cons, List.length_nil, List.cons_append, List.nil_append, List.replicate_succ, List.replicate_zero, Nat.sub_self, fin_same, finX_same, fin_keep, if_true, if_false, reduceIte, KA_take_1a_3a, KA_take_1a_3a_1, bin_pow (i := 10) (j := 18) (by decide), bin_sub, pot_s0 hP1, List.set_set]
      exact ⟨_, _, _, _, rfl, by omega, hb, hb2, by omega⟩
    · simp only [decide_eq_false h3, e_var, e_cst, e_bin, e_neg, e_cmp, e_cmp2, e_and, e_or, e_not, e_ite, e_tup, e_mkF, e_mkT, e_ix, e_slLo, e_slHi, e_slLH, e_rev, e_call, e_bi, e_isi, es_nil, es_cons, ec_nil, ec_cons, el_disp, el_cat, el_rep, el_list, ew_seq, ew_rng1, ew_rng2, ew_enum, ew_zip, s_expr, s_ret, s_retN, s_set, s_par, s_unp, s_app, s_setIx, s_augIx, s_aug, s_iff, s_while, s_raise, s_pass, s_brk, s_cont, ss_nil, ss_cons, lR_some, bR_ok, bR_ex, tR_ok, tR_ex, sR_nx, sR_rt, sR_bk, sR_ct, sR_xc, endR_rt, endR_nx, endR_xc, kR_t, kR_f, kA_t, kA_f, kA_b, kO_t, kO_f, kO_b, g_0, g_s, st_0, st_s, bT_1, bT_n, tS_1, ss0, ss1, wp0, wp1, permD, intD, truD, Option.map_some, Option.map_none, Option.bind_some, List.getElem?_cons_zero, List.getElem?_cons_succ, List.map_cons, List.map_nil, List.length_cons, List.length_nil, List.cons_append, List.nil_append, List.replicate_succ, List.replicate_zero, Nat.sub_self, fin_same, finX_same, fin_keep, if_true, if_false, reduceIte, KA_take_1a_3b, KA_take_1a_3b_1, ixD_ref hP1, at1, at3, bin_add, bin_mul (mulOk_r (j := 6700417) (by decide)), bin_mul (mulOk_l (i := 211) (by decide)), bi_intI, bin_mod (j := 2305843009213693951) (by decide), pot_s1 hP1, List.set_set]
      obtain ⟨q1, q2⟩ := fmod_range (i := (b + cell) * 6700417 + 211 * (e + 1)) (m := 2305843009213693951) (by decide)
      exact ⟨_, _, _, _, rfl, ha, q1, q2, by omega⟩
  · simp only [Bool.not_eq_true] at h
    rw [h]
    refine ⟨a, b, e, none, ?_, ha, hb, hb2, he⟩
    simp only [e_var, e_cst, e_bin, e_neg, e_cmp, e_cmp2, e_and, e_or, e_not, e_ite, e_tup, e_mkF, e_mkT, e_ix, e_slLo, e_slHi, e_slLH, e_rev, e_call, e_bi, e_isi, es_nil, es_cons, ec_nil, ec_cons, el_disp, el_cat, el_rep, el_list, ew_seq, ew_rng1, ew_rng2, ew_enum, ew_zip, s_expr, s_ret, s_retN, s_set, s_par, s_unp, s_app, s_setIx, s_augIx, s_aug, s_iff, s_while, s_raise, s_pass, s_brk, s_cont, ss_nil, ss_cons, lR_some, bR_ok, bR_ex, tR_ok, tR_ex, sR_nx, sR_rt, sR_bk, sR_ct, sR_xc, endR_rt, endR_nx, endR_xc, kR_t, kR_f, kA_t, kA_f, kA_b, kO_t, kO_f, kO_b, g_0, g_s, st_0, st_s, bT_1, bT_n, tS_1, ss0, ss1, wp0, wp1, permD, intD, truD, Option.map_some, Option.map_none, Option.bind_some, List.getElem?_cons_zero, List.getElem?_cons_succ, List.map_cons, List.map_nil, List.length_cons, List.length_nil, List.cons_append, List.nil_append, List.replicate_succ, List.replicate_zero, Nat.sub_self, fin_same, finX_same, fin_keep, if_true, if_false, reduceIte, set_same hP]
/-- a pot in the small heap: K bounds how many draws were mixed -/
def PotAt (M : MH) (n : Nat) (ns : List Int) (K : Int) : Prop := ∃ a b c e, M[n]? = some (.lst (pot a b c e ns)) ∧ 0 ≤ a ∧ 0 ≤ b ∧ b < 2305843009213693951 ∧ 0 ≤ c ∧ c ≤ K ∧ 4 ≤ e
theorem PotAt.mono {K K' : Int} (h : PotAt M n ns K) (hk : K ≤ K') : PotAt M n ns K' := by
  obtain ⟨a, b, c, e, h1, h2, h3, h4, h5, h6, h7⟩ := h
  exact ⟨a, b, c, e, h1, h2, h3, h4, h5, by omega, h7⟩
/-- only the place n may have changed -/
def Only (M : MH) (n : Nat) (M' : MH) : Prop := M'.length = M.length ∧ ∀ m, m ≠ n → M'[m]? = M[m]?
theorem only_set {mo : MO} : Only M n (M.set n mo) := ⟨List.length_set .., fun m hm => List.getElem?_set_ne (Ne.symm hm)⟩
theorem take_ok {many K : Int} (hT : P iT = some ⟨2, 5, KA_take, false⟩) (hp : PotAt M n ns K) (hn : ns.length ≤ 100) (hK : K ≤ 1000000) (hm : 0 < many) (hm2 : many ≤ 1000000) :
    ∃ r M', evF P wf (d + 1) iT [.ref n, .int many] M = some (.ok (.int r) M') ∧ 0 ≤ r ∧ r < many ∧ PotAt M' n ns (K + 1) ∧ Only M n M' := by
  obtain ⟨a, b, c, e, hP, ha, hb, hb2, hc, hcK, he⟩ := hp
  rw [evF_eq hT rfl]
  obtain ⟨a1, b1, e1, x, q, ha1, hb1, hb3, he1⟩ := take_1 (cl := evF P wf d) (wf := wf) (bb := M.length) (many := many) hP ha hb hb2 he hn
  have hP1 := pot_get (a' := a1) (b' := b1) (c' := c) (e' := e1) hP
  generalize hM1 : M.set n (.lst (pot a1 b1 c e1 ns)) = M1 at q hP1
  have hO1 : Only M n M1 := by rw [← hM1]; exact only_set
  have hL1 : M1.length = M.length := hO1.1
  simp only [KA_take, e_var, e_cst, e_bin, e_neg, e_cmp, e_cmp2, e_and, e_or, e_not, e_ite, e_tup, e_mkF, e_mkT, e_ix, e_slLo, e_slHi, e_slLH, e_rev, e_call, e_bi, e_isi, es_nil, es_cons, ec_nil, ec_cons, el_disp, el_cat, el_rep, el_list, ew_seq, ew_rng1, ew_rng2, ew_enum, ew_zip, s_expr, s_ret, s_retN, s_set, s_par, s_unp, s_app, s_setIx, s_augIx, s_aug, s_iff, s_while, s_raise, s_pass, s_brk, s_cont, ss_nil, ss_cons, lR_some, bR_ok, bR_ex, tR_ok, tR_ex, sR_nx, sR_rt, sR_bk, sR_ct, sR_xc, endR_rt, endR_nx, endR_xc, kR_t, kR_f, kA_t, kA_f, kA_b, kO_t, kO_f, kO_b, g_0, g_s, st_0, st_s, bT_1, bT_n, tS_1, ss0, ss1, wp0, wp1, permD, intD, truD, Option.map_some, Option.map_none, Option.bind_some, List.getElem?_cons_zero, List.getElem?_cons_succ, List.map_cons, List.map_nil, List.length_cons, List.length_nil, List.cons_append, List.nil_append, List.replicate_succ, List.replicate_zero, Nat.sub_self, fin_same, finX_same, fin_keep, if_true, if_false, reduceIte, q, KA_take_2, ixD_ref hP1, at0, cmp_gt]
  by_cases h : 0 < a1
  · obtain ⟨r1, r2⟩ := fmod_range (i := a1) hm
    have hd : 0 ≤ a1.fdiv many := Int.fdiv_nonneg ha1 (by omega)
    simp only [decide_eq_true h, e_var, e_cst, e_bin, e_neg, e_cmp, e_cmp2, e_and, e_or, e_not, e_ite, e_tup, e_mkF, e_mkT, e_ix, e_slLo, e_slHi, e_slLH, e_rev, e_call, e_bi, e_isi, es_nil, es_cons, ec_nil, ec_cons, el_disp, el_cat, el_rep, el_list, ew_seq, ew_rng1, ew_rng2, ew_enum, ew_zip, s_expr, s_ret, s_retN, s_set, s_par, s_unp, s_app, s_setIx, s_augIx, s_aug, s_iff, s_while, s_raise, s_pass, s_brk, s_cont, ss_nil, ss_cons, lR_some, bR_ok, bR_ex, tR_ok, tR_ex, sR_nx, sR_rt, sR_bk, sR_ct, sR_xc, endR_rt, endR_nx, endR_xc, kR_t, kR_f, kA_t, kA_f, kA_b, kO_t, kO_f, kO_b, g_0, g_s, st_0, st_s, bT_1, bT_n, tS_1, ss0, ss1, wp0, wp1, permD, intD, truD, Option.map_some, Option.map_none, Option.bind_some, List.getElem?_cons_zero, List.getElem?_cons_succ, List.map_cons, List.map_nil, List.length_cons, List.length_nil, List.cons_append, List.nil_append, List.replicate_succ, List.replicate_zero, Nat.sub_self, fin_same, finX_same, fin_keep, if_true, if_false, reduceIte, KA_take_2a, KA_take_2a_1, KA_take_2a_2, KA_take_2a_3, ixD_ref hP1, at0, bi_intI, bin_mod (show many ≠ 0 by omega), bin_fdiv (divOk_s (j := many) (by omega)), pot_s0 hP1]
    rw [← hL1, ← set_len (n := n) (ys := pot (a1.fdiv many) b1 c e1 ns), fin_same]
    exact ⟨_, _, rfl, r1, r2, ⟨_, _, _, _, pot_get hP1, hd, hb1, hb3, hc, by omega, he1⟩, (only_set).1.trans hL1, fun m hm => (only_set.2 m hm).trans (hO1.2 m hm)⟩
  · have hP2 := pot_get (a' := a1) (b' := b1) (c' := c + 1) (e' := e1) hP1
    have hb5 : (b1 + 4256233 * (c + 1)).natAbs < 2 ^ 64 := by omega
    obtain ⟨m1, m2⟩ := fmod_range (i := (b1 + 4256233 * (c + 1)) ^ (3 : Int).toNat) (m := 2305843009213693951) (by decide)
    have hb6 : ((((b1 + 4256233 * (c + 1)) ^ (3 : Int).toNat).fmod 2305843009213693951) + 151 * (c + 1)).natAbs < 2 ^ 64 := by omega
    simp only [decide_eq_false h, e_var, e_cst, e_bin, e_neg, e_cmp, e_cmp2, e_and, e_or, e_not, e_ite, e_tup, e_mkF, e_mkT, e_ix, e_slLo, e_slHi, e_slLH, e_rev, e_call, e_bi, e_isi, es_nil, es_cons, ec_nil, ec_cons, el_disp, el_cat, el_rep, el_list, ew_seq, ew_rng1, ew_rng2, ew_enum, ew_zip, s_expr, s_ret, s_retN, s_set, s_par, s_unp, s_app, s_setIx, s_augIx, s_aug, s_iff, s_while, s_raise, s_pass, s_brk, s_cont, ss_nil, ss_cons, lR_some, bR_ok, bR_ex, tR_ok, tR_ex, sR_nx, sR_rt, sR_bk, sR_ct, sR_xc, endR_rt, endR_nx, endR_xc, kR_t, kR_f, kA_t, kA_f, kA_b, kO_t, kO_f, kO_b, g_0, g_s, st_0, st_s, bT_1, bT_n, tS_1, ss0, ss1, wp0, wp1, permD, intD, truD, Option.map_some, Option.map_none, Option.bind_some, List.getElem?_cons_zero, List.getElem?_cons_succ, List.map_cons, List.map_nil, List.length_cons, List.length_nil, List.cons_append, List.nil_append, List.replicate_succ, List.replicate_zero, Nat.sub_self, fin_same, finX_same, fin_keep, if_true, if_false, reduceIte, KA_take_3, KA_take_4, KA_take_5, KA_take_6, lstOf_ref hP1, at2, augD, pot_s2 hP1, ixD_ref hP2, at1, bin_mul (mulOk_l (i := 4256233) (by decide)), bin_add, bin_pow (show 0 ≤ (3 : Int) ∧ (3 : Int) ≤ 1000000 ∧ _ from ⟨by decide, by decide, hb5⟩),
      bi_intI, bin_mod (j := 2305843009213693951) (by decide), bin_mul (mulOk_l (i := 151) (by decide)), bin_pow (show 0 ≤ (2 : Int) ∧ (2 : Int) ≤ 1000000 ∧ _ from ⟨by decide, by decide, hb6⟩), bin_mod (j := 1000000000000000003) (by decide), bin_fdiv (divOk_s (j := 128) (by decide)), bin_mod (show many ≠ 0 by omega)]
    rw [← hL1, ← set_len (n := n) (ys := pot a1 b1 (c + 1) e1 ns), fin_same]
    obtain ⟨r1, r2⟩ := fmod_range (i := (((((b1 + 4256233 * (c + 1)) ^ (3 : Int).toNat).fmod 2305843009213693951) + 151 * (c + 1)) ^ (2 : Int).toNat).fmod 1000000000000000003 |>.fdiv 128) hm
    exact ⟨_, _, rfl, r1, r2, ⟨_, _, _, _, hP2, ha1, hb1, hb3, by omega, by omega, he1⟩, (only_set).1.trans hL1, fun m hm => (only_set.2 m hm).trans (hO1.2 m hm)⟩
end

theorem scr_seq {M : MH} {ns : List Int} : seqOf M (.scr ns) = some (ns.map .int) := rfl
theorem t_pot {ns : List Int} {iP : Nat} (hP : P iP = some ⟨1, 1, KA_pot, true⟩) (hl : ns.length ≤ 100) : evF P wf (d + 1) iP [.scr ns] [] = some (.ok (.ref 1) [.lst [.int 0, .int 30402457, .int 0, .int 4], .lst (pot 0 30402457 0 4 ns)]) := by
  rw [evF_eq hP rfl]
  have h1 : lstOf ([] ++ [MO.lst [.int 0, .int 30402457, .int 0, .int 4]]) (.ref ([] : MH).length) = some [.int 0, .int 30402457, .int 0, .int 4] := rfl
  have h2 : (4 : Nat) ≤ sizeLine := by decide
  have h3 : [D.int 0, .int 30402457, .int 0, .int 4].length + (ns.map D.int).length ≤ sizeLine := by
    rw [List.length_map]
    exact Nat.le_trans (show 4 + ns.length ≤ 104 by omega) (by decide)
  simp only [KA_pot, KA_pot_1, e_mkT, el_cat, el_disp, e_mkF, el_list, es_cons, es_nil, e_cst, e_var, bR_ok, lR_some, s_ret, ss_cons, tR_ok, sR_rt, endR_rt, fin_keep, List.map_cons, List.map_nil, List.cons_append, List.nil_append, g_0, scr_seq, List.length_cons, List.length_nil, Nat.reduceAdd, if_pos h2, lstOf_lst]
  simp only [lstOf, List.getElem?_cons_zero, bR_ok, lR_some]
  rw [if_pos h3]
  rfl
theorem Only.trans {M M1 M2 : MH} {n : Nat} (a : Only M n M1) (b : Only M1 n M2) : Only M n M2 := ⟨b.1.trans a.1, fun m hm => (b.2 m hm).trans (a.2 m hm)⟩
theorem Only.refl {M : MH} {n : Nat} : Only M n M := ⟨rfl, fun _ _ => rfl⟩
theorem PotAt.other {M M' : MH} {k : Nat} {ns : List Int} {K : Int} (h : PotAt M k ns K) (e : M'[k]? = M[k]?) : PotAt M' k ns K := by
  obtain ⟨a, b, c, e', h1, h2⟩ := h
  exact ⟨a, b, c, e', by rw [e]; exact h1, h2⟩
/-- what is left of the small heap behind a def that has drawn -/
theorem take_same {M M' : MH} {k : Nat} (hl : M.length ≤ M'.length) (h : ∀ m, m < M.length → m ≠ k → M'[m]? = M[m]?) : Only M k (M'.take M.length) := by
  refine ⟨by rw [List.length_take]; omega, fun m hm => ?_⟩
  by_cases hml : m < M.length
  · rw [List.getElem?_take_of_lt hml, h m hml hm]
  · rw [List.getElem?_eq_none (by rw [List.length_take]; omega), List.getElem?_eq_none (by omega)]
end
end MP

set_option Elab.async false
set_option linter.all false
set_option maxRecDepth 100000
namespace MP
open PySem L2
section
variable {wf d : Nat} {M : MH} {P : Nat → Option FD}
/-! ### kinds of data that may be shown -/
def isIntB (v : D) : Bool := match v with | .int _ => true | _ => false
def isNatB (v : D) : Bool := match v with | .int i => decide (0 ≤ i) | _ => false
def isTupB (v : D) : Bool := match v with | .tup _ => true | _ => false
def isLsB (v : D) : Bool := match v with | .lst _ => true | _ => false
def isStrB (v : D) : Bool := match v with | .str _ => true | _ => false
theorem int_cases (v : D) : (∃ i, v = .int i) ∨ (isIntB v = false ∧ isNatB v = false) := by
  cases v <;> first | exact .inl ⟨_, rfl⟩ | exact .inr ⟨rfl, rfl⟩
theorem str_cases (v : D) : (∃ z, v = .str z) ∨ isStrB v = false := by
  cases v <;> first | exact .inl ⟨_, rfl⟩ | exact .inr rfl
theorem tup_cases (v : D) : (∃ xs, v = .tup xs) ∨ isTupB v = false := by
  cases v <;> first | exact .inl ⟨_, rfl⟩ | exact .inr rfl
theorem ty_int {v : D} (h : gd v = true) : (tyD M v).map (fun t => D.bl (isiT t [.int])) = some (.bl (match v with | .int _ => true | .bl _ => true | _ => false)) := by cases v <;> first | rfl | cases h
theorem ty_bool {v : D} (h : gd v = true) : (tyD M v).map (fun t => D.bl (isiT t [.bool])) = some (.bl (match v with | .bl _ => true | _ => false)) := by cases v <;> first | rfl | cases h
theorem ty_tup {v : D} (h : gd v = true) : (tyD M v).map (fun t => D.bl (isiT t [.tuple])) = some (.bl (isTupB v)) := by cases v <;> first | rfl | cases h
theorem ty_list {v : D} (h : gd v = true) : (tyD M v).map (fun t => D.bl (isiT t [.list])) = some (.bl (isLsB v)) := by cases v <;> first | rfl | cases h
theorem ty_str {v : D} (h : gd v = true) : (tyD M v).map (fun t => D.bl (isiT t [.str])) = some (.bl (isStrB v)) := by cases v <;> first | rfl | cases h
theorem gd_tup {xs : List D} (h : gd (.tup xs) = true) : xs.length ≤ 1000 ∧ ∀ x ∈ xs, gd x = true := by
  obtain ⟨h1, h2⟩ := Bool.and_eq_true_iff.mp (show (decide (xs.length ≤ 1000) && gds xs) = true from h)
  exact ⟨of_decide_eq_true h1, gds_mem h2⟩
theorem gd_lst {xs : List D} (h : gd (.lst xs) = true) : xs.length ≤ 1000 ∧ ∀ x ∈ xs, gd x = true := by
  obtain ⟨h1, h2⟩ := Bool.and_eq_true_iff.mp (show (decide (xs.length ≤ 1000) && gds xs) = true from h)
  exact ⟨of_decide_eq_true h1, gds_mem h2⟩
theorem gd_int {i : Int} (h : gd (.int i) = true) : i.natAbs < 10 ^ 500 := of_decide_eq_true h
theorem gd_mk {xs : List D} (hl : xs.length ≤ 1000) (h : ∀ x ∈ xs, gd x = true) : gd (.tup xs) = true := by
  show (decide (xs.length ≤ 1000) && gds xs) = true
  rw [decide_eq_true hl, gds_of h]; rfl
theorem mulOk_gd {i j : Int} (hi : i.natAbs < 10 ^ 500) (hj : j.natAbs < 10 ^ 500) : mulOk i j = true := by
  have l : ∀ n : Nat, n < 10 ^ 500 → n.log2 < 2000 := fun n h => by
    by_cases h0 : n = 0
    · subst h0; decide
    · exact (Nat.log2_lt h0).mpr (Nat.lt_of_lt_of_le h (by decide +kernel))
  have := l _ hi
  have := l _ hj
  unfold mulOk
  rw [decide_eq_true (show i.natAbs.log2 + j.natAbs.log2 < 1000000 by omega), Bool.or_true]
theorem srcOf_tup {xs : List D} : srcOf M (.tup xs) = some (.fix xs) := rfl
theorem srcOf_lst {xs : List D} : srcOf M (.lst xs) = some (.fix xs) := rfl
theorem dep_lst {xs : List D} {x : D} (h : x ∈ xs) : dep x < dep (.lst xs) := Nat.lt_succ_of_le (dep_mem h)
theorem nat_len {n : Nat} (h : n ≤ 1000) : n < 2 ^ 62 := Nat.lt_of_le_of_lt h (by decide)
/-! ### a value is the same as itself -/
theorem rd_all {xs : List D} {i : Nat} (h : i < xs.length) : L2.atI xs (i : Int) = some xs[i] := MP.atI_nat (List.getElem?_eq_getElem h)
theorem same_refl {iS : Nat} (hS : P iS = some ⟨2, 3, K_same iS, false⟩) : ∀ (n d : Nat) (v : D) (M : MH), gd v = true → dep v ≤ n → n < d → evF P wf d iS [v, v] M = some (.ok (.bl true) M) := by
  intro n
  induction n with
  | zero =>
    intro d v M hg hd hn
    obtain ⟨d, rfl⟩ : ∃ e, d = e + 1 := ⟨d - 1, by omega⟩
    rw [evF_eq hS rfl]
    cases v with
    | tup xs => exact absurd hd (Nat.not_succ_le_zero _)
    | lst xs => exact absurd hd (Nat.not_succ_le_zero _)
    | non => simp only [K_same, K_same_1, K_same_1a, K_same_1a_1, e_var, e_cst, e_bin, e_neg, e_cmp, e_cmp2, e_and, e_or, e_not, e_ite, e_tup, e_mkF, e_mkT, e_ix, e_slLo, e_slHi, e_slLH, e_rev, e_call, e_bi, e_isi, es_nil, es_cons, ec_nil, ec_cons, el_disp, el_cat, el_rep, el_list, ew_seq, ew_rng1, ew_rng2, ew_enum, ew_zip, s_expr, s_ret, s_retN, s_set, s_par, s_unp, s_app, s_setIx, s_augIx, s_aug, s_iff, s_while, s_raise, s_pass, s_brk, s_cont, ss_nil, ss_cons, lR_some, bR_ok, bR_ex, tR_ok, tR_ex, sR_nx, sR_rt, sR_bk, sR_ct, sR_xc, endR_rt, endR_nx, endR_xc, kR_t, kR_f, kA_t, kA_f, kA_b, kO_t, kO_f, kO_b, g_0, g_s, st_0, st_s, bT_1, bT_n, tS_1, ss0, ss1, wp0, wp1, permD, intD, truD, Option.map_some, Option.map_none, Option.bind_some, List.getElem?_cons_zero, List.getElem?_cons_succ, List.map_cons, List.map_nil, List.length_cons, List.length_nil, List.cons_append, List.nil_append, List.replicate_succ, List.replicate_zero, Nat.sub_self, fin_same, finX_same, fin_keep, if_true, if_false, reduceIte, cmp_isN, isNonD]
    | bl b =>
      have t1 : (tyD M (.bl b)).map (fun t => D.bl (isiT t [.bool, .str])) = some (.bl true) := rfl
      have t2 : (tyD M (.bl b)).map (fun t => D.bl (isiT t [.bool])) = some (.bl true) := rfl
      simp only [K_same, K_same_1, K_same_2, K_same_2a, K_same_2a_1, e_var, e_cst, e_bin, e_neg, e_cmp, e_cmp2, e_and, e_or, e_not, e_ite, e_tup, e_mkF, e_mkT, e_ix, e_slLo, e_slHi, e_slLH, e_rev, e_call, e_bi, e_isi, es_nil, es_cons, ec_nil, ec_cons, el_disp, el_cat, el_rep, el_list, ew_seq, ew_rng1, ew_rng2, ew_enum, ew_zip, s_expr, s_ret, s_retN, s_set, s_par, s_unp, s_app, s_setIx, s_augIx, s_aug, s_iff, s_while, s_raise, s_pass, s_brk, s_cont, ss_nil, ss_cons, lR_some, bR_ok, bR_ex, tR_ok, tR_ex, sR_nx, sR_rt, sR_bk, sR_ct, sR_xc, endR_rt, endR_nx, endR_xc, kR_t, kR_f, kA_t, kA_f, kA_b, kO_t, kO_f, kO_b, g_0, g_s, st_0, st_s, bT_1, bT_n, tS_1, ss0, ss1, wp0, wp1, permD, intD, truD, Option.map_some, Option.map_none, Option.bind_some, List.getElem?_cons_zero, List.getElem?_cons_succ, List.map_cons, List.map_nil, List.length_cons, List.length_nil, List.cons_append, List.nil_append, List.replicate_succ, List.replicate_zero, Nat.sub_self, fin_same, finX_same, fin_keep, if_true, if_false, reduceIte, Nat.reduceAdd, Nat.reduceLeDiff, Int.cast_ofNat_Int, Int.reduceEq, Int.reduceLE, Int.reduceLT, decide_true, decide_false, Nat.zero_le, Bool.not_true, Bool.not_false, Bool.false_or, Bool.true_or, Bool.or_false, Bool.true_and, Bool.false_and, Bool.and_true, Bool.and_false, cmp_isN, isNonD, t1, t2, cmp_eqB]
    | str z =>
      have t1 : (tyD M (.str z)).map (fun t => D.bl (isiT t [.bool, .str])) = some (.bl true) := rfl
      have t2 : (tyD M (.str z)).map (fun t => D.bl (isiT t [.bool])) = some (.bl false) := rfl
      simp only [K_same, K_same_1, K_same_2, K_same_2a, K_same_2a_1, e_var, e_cst, e_bin, e_neg, e_cmp, e_cmp2, e_and, e_or, e_not, e_ite, e_tup, e_mkF, e_mkT, e_ix, e_slLo, e_slHi, e_slLH, e_rev, e_call, e_bi, e_isi, es_nil, es_cons, ec_nil, ec_cons, el_disp, el_cat, el_rep, el_list, ew_seq, ew_rng1, ew_rng2, ew_enum, ew_zip, s_expr, s_ret, s_retN, s_set, s_par, s_unp, s_app, s_setIx, s_augIx, s_aug, s_iff, s_while, s_raise, s_pass, s_brk, s_cont, ss_nil, ss_cons, lR_some, bR_ok, bR_ex, tR_ok, tR_ex, sR_nx, sR_rt, sR_bk, sR_ct, sR_xc, endR_rt, endR_nx, endR_xc, kR_t, kR_f, kA_t, kA_f, kA_b, kO_t, kO_f, kO_b, g_0, g_s, st_0, st_s, bT_1, bT_n, tS_1, ss0, ss1, wp0, wp1, permD, intD, truD, Option.map_some, Option.map_none, Option.bind_some, List.getElem?_cons_zero, List.getElem?_cons_succ, List.map_cons, List.map_nil, List.length_cons, List.length_nil, List.cons_append, List.nil_append, List.replicate_succ, List.replicate_zero, Nat.sub_self, fin_same, finX_same, fin_keep, if_true, if_false, reduceIte, Nat.reduceAdd, Nat.reduceLeDiff, Int.cast_ofNat_Int, Int.reduceEq, Int.reduceLE, Int.reduceLT, decide_true, decide_false, Nat.zero_le, Bool.not_true, Bool.not_false, Bool.false_or, Bool.true_or, Bool.or_false, Bool.true_and, Bool.false_and, Bool.and_true, Bool.and_false, cmp_isN, isNonD, t1, t2, cmp_eqB, cmp_eqS]
    | int i =>
      have t1 : (tyD M (.int i)).map (fun t => D.bl (isiT t [.bool, .str])) = some (.bl false) := rfl
      have t2 : (tyD M (.int i)).map (fun t => D.bl (isiT t [.bool])) = some (.bl false) := rfl
      have t3 : (tyD M (.int i)).map (fun t => D.bl (isiT t [.int])) = some (.bl true) := rfl
      simp only [K_same, K_same_1, K_same_2, K_same_3, K_same_3a, K_same_3a_1, e_var, e_cst, e_bin, e_neg, e_cmp, e_cmp2, e_and, e_or, e_not, e_ite, e_tup, e_mkF, e_mkT, e_ix, e_slLo, e_slHi, e_slLH, e_rev, e_call, e_bi, e_isi, es_nil, es_cons, ec_nil, ec_cons, el_disp, el_cat, el_rep, el_list, ew_seq, ew_rng1, ew_rng2, ew_enum, ew_zip, s_expr, s_ret, s_retN, s_set, s_par, s_unp, s_app, s_setIx, s_augIx, s_aug, s_iff, s_while, s_raise, s_pass, s_brk, s_cont, ss_nil, ss_cons, lR_some, bR_ok, bR_ex, tR_ok, tR_ex, sR_nx, sR_rt, sR_bk, sR_ct, sR_xc, endR_rt, endR_nx, endR_xc, kR_t, kR_f, kA_t, kA_f, kA_b, kO_t, kO_f, kO_b, g_0, g_s, st_0, st_s, bT_1, bT_n, tS_1, ss0, ss1, wp0, wp1, permD, intD, truD, Option.map_some, Option.map_none, Option.bind_some, List.getElem?_cons_zero, List.getElem?_cons_succ, List.map_cons, List.map_nil, List.length_cons, List.length_nil, List.cons_append, List.nil_append, List.replicate_succ, List.replicate_zero, Nat.sub_self, fin_same, finX_same, fin_keep, if_true, if_false, reduceIte, Nat.reduceAdd, Nat.reduceLeDiff, Int.cast_ofNat_Int, Int.reduceEq, Int.reduceLE, Int.reduceLT, decide_true, decide_false, Nat.zero_le, Bool.not_true, Bool.not_false, Bool.false_or, Bool.true_or, Bool.or_false, Bool.true_and, Bool.false_and, Bool.and_true, Bool.and_false, cmp_isN, isNonD, t1, t2, t3, cmp_eqI]
    | _ => cases hg
  | succ n ih =>
    intro d v M hg hd hn
    by_cases h0 : dep v ≤ n
    · exact ih d v M hg h0 (by omega)
    obtain ⟨d, rfl⟩ : ∃ e, d = e + 1 := ⟨d - 1, by omega⟩
    have seq : ∀ (xs : List D) (w : D), (w = .tup xs ∨ w = .lst xs) → gd w = true → dep w ≤ n + 1 → evF P wf (d + 1) iS [w, w] M = some (.ok (.bl true) M) := by
      intro xs w hw hg hd
      have hl : xs.length ≤ 1000 ∧ ∀ x ∈ xs, gd x = true := by
        rcases hw with rfl | rfl
        · exact gd_tup hg
        · exact gd_lst hg
      have hdx : ∀ x ∈ xs, dep x ≤ n := fun x hx => by
        rcases hw with rfl | rfl
        · have := dep_tup hx; omega
        · have := dep_lst hx; omega
      have hn' : isNonD w = false := by rcases hw with rfl | rfl <;> rfl
      have t1 : (tyD M w).map (fun t => D.bl (isiT t [.bool, .str])) = some (.bl false) := by rcases hw with rfl | rfl <;> rfl
      have t2 : (tyD M w).map (fun t => D.bl (isiT t [.int])) = some (.bl false) := by rcases hw with rfl | rfl <;> rfl
      have t5 : lenD M w = some (.int xs.length) := by rcases hw with rfl | rfl <;> rfl
      have ix : ∀ {i : Nat} (h : i < xs.length), ixD M w (i : Int) = some xs[i] := fun {i} h => by
        rcases hw with rfl | rfl <;> exact rd_all h
      have hro : rngR 0 (xs.length : Int) M = some (.ok (.one (.fix (rangeD 0 (xs.length : Int)))) M) := rngR_0 (nat_len hl.1)
      rw [evF_eq hS rfl]
      simp only [K_same, K_same_1, K_same_2, K_same_3, K_same_4, K_same_5, e_var, e_cst, e_bin, e_neg, e_cmp, e_cmp2, e_and, e_or, e_not, e_ite, e_tup, e_mkF, e_mkT, e_ix, e_slLo, e_slHi, e_slLH, e_rev, e_call, e_bi, e_isi, es_nil, es_cons, ec_nil, ec_cons, el_disp, el_cat, el_rep, el_list, ew_seq, ew_rng1, ew_rng2, ew_enum, ew_zip, s_expr, s_ret, s_retN, s_set, s_par, s_unp, s_app, s_setIx, s_augIx, s_aug, s_iff, s_while, s_raise, s_pass, s_brk, s_cont, ss_nil, ss_cons, lR_some, bR_ok, bR_ex, tR_ok, tR_ex, sR_nx, sR_rt, sR_bk, sR_ct, sR_xc, endR_rt, endR_nx, endR_xc, kR_t, kR_f, kA_t, kA_f, kA_b, kO_t, kO_f, kO_b, g_0, g_s, st_0, st_s, bT_1, bT_n, tS_1, ss0, ss1, wp0, wp1, permD, intD, truD, Option.map_some, Option.map_none, Option.bind_some, List.getElem?_cons_zero, List.getElem?_cons_succ, List.map_cons, List.map_nil, List.length_cons, List.length_nil, List.cons_append, List.nil_append, List.replicate_succ, List.replicate_zero, Nat.sub_self, fin_same, finX_same, fin_keep, if_true, if_false, reduceIte, Nat.reduceAdd, Nat.reduceLeDiff, Int.cast_ofNat_Int, Int.reduceEq, Int.reduceLE, Int.reduceLT, decide_true, decide_false, Nat.zero_le, Bool.not_true, Bool.not_false, Bool.false_or, Bool.true_or, Bool.or_false, Bool.true_and, Bool.false_and, Bool.and_true, Bool.and_false, cmp_isN, hn', t1, t2, ty_list hg, ty_tup hg, t5, bi_lenE, cmp_neB, cmp_eqI, el_comp, hro, if_pos (lenW_fix (M := M) (xs := rangeD 0 (xs.length : Int)) (n := 1000) (by rw [len_range]; exact hl.1))]
      rw [cm_range (fun i => .bl true) fun i hi => by
        simp only [e_var, e_cst, e_bin, e_neg, e_cmp, e_cmp2, e_and, e_or, e_not, e_ite, e_tup, e_mkF, e_mkT, e_ix, e_slLo, e_slHi, e_slLH, e_rev, e_call, e_bi, e_isi, es_nil, es_cons, ec_nil, ec_cons, el_disp, el_cat, el_rep, el_list, ew_seq, ew_rng1, ew_rng2, ew_enum, ew_zip, s_expr, s_ret, s_retN, s_set, s_par, s_unp, s_app, s_setIx, s_augIx, s_aug, s_iff, s_while, s_raise, s_pass, s_brk, s_cont, ss_nil, ss_cons, lR_some, bR_ok, bR_ex, tR_ok, tR_ex, sR_nx, sR_rt, sR_bk, sR_ct, sR_xc, endR_rt, endR_nx, endR_xc, kR_t, kR_f, kA_t, kA_f, kA_b, kO_t, kO_f, kO_b, g_0, g_s, st_0, st_s, bT_1, bT_n, tS_1, ss0, ss1, wp0, wp1, permD, intD, truD, Option.map_some, Option.map_none, Option.bind_some, List.getElem?_cons_zero, List.getElem?_cons_succ, List.map_cons, List.map_nil, List.length_cons, List.length_nil, List.cons_append, List.nil_append, List.replicate_succ, List.replicate_zero, Nat.sub_self, fin_same, finX_same, fin_keep, if_true, if_false, reduceIte, ix hi, ih d _ M (hl.2 _ (List.getElem_mem hi)) (hdx _ (List.getElem_mem hi)) (by omega)]]
      simp only [e_var, e_cst, e_bin, e_neg, e_cmp, e_cmp2, e_and, e_or, e_not, e_ite, e_tup, e_mkF, e_mkT, e_ix, e_slLo, e_slHi, e_slLH, e_rev, e_call, e_bi, e_isi, es_nil, es_cons, ec_nil, ec_cons, el_disp, el_cat, el_rep, el_list, ew_seq, ew_rng1, ew_rng2, ew_enum, ew_zip, s_expr, s_ret, s_retN, s_set, s_par, s_unp, s_app, s_setIx, s_augIx, s_aug, s_iff, s_while, s_raise, s_pass, s_brk, s_cont, ss_nil, ss_cons, lR_some, bR_ok, bR_ex, tR_ok, tR_ex, sR_nx, sR_rt, sR_bk, sR_ct, sR_xc, endR_rt, endR_nx, endR_xc, kR_t, kR_f, kA_t, kA_f, kA_b, kO_t, kO_f, kO_b, g_0, g_s, st_0, st_s, bT_1, bT_n, tS_1, ss0, ss1, wp0, wp1, permD, intD, truD, Option.map_some, Option.map_none, Option.bind_some, List.getElem?_cons_zero, List.getElem?_cons_succ, List.map_cons, List.map_nil, List.length_cons, List.length_nil, List.cons_append, List.nil_append, List.replicate_succ, List.replicate_zero, Nat.sub_self, fin_same, finX_same, fin_keep, if_true, if_false, reduceIte, bi_allE, all_map (p := fun _ => true)]
      simp
    cases v with
    | tup xs => exact seq xs _ (.inl rfl) hg hd
    | lst xs => exact seq xs _ (.inr rfl) hg hd
    | non => exact absurd (Nat.zero_le n) h0
    | bl b => exact absurd (Nat.zero_le n) h0
    | int i => exact absurd (Nat.zero_le n) h0
    | str z => exact absurd (Nat.zero_le n) h0
    | _ => cases hg
end
end MP

set_option Elab.async false
set_option linter.all false
set_option maxRecDepth 100000
namespace MP
open PySem L2
/-! ### the program's own small defs -/
def K_is_integer_1 : CS := (.ret (.and (.isi (.var 0) [.int]) (.not (.isi (.var 0) [.bool]))))
def K_is_integer : CSs := (.cons K_is_integer_1 .nil)
def K_is_natural_1 (i_is_integer : Nat) : CS := (.ret (.and (.call i_is_integer (.cons (.var 0) .nil) [0]) (.cmp .ge (.var 0) (.cst (.int (0))))))
def K_is_natural (i_is_integer : Nat) : CSs := (.cons (K_is_natural_1 i_is_integer) .nil)
def K_are_naturals_1 (i_is_natural : Nat) : CS := (.ret (.and (.isi (.var 0) [.tuple]) (.bi .all (.cons (.mk false (.comp (.seq (.var 0)) [1] true .nil (.call i_is_natural (.cons (.var 1) .nil) [0]) [1])) .nil))))
def K_are_naturals (i_is_natural : Nat) : CSs := (.cons (K_are_naturals_1 i_is_natural) .nil)
def K_columns_of_1 : CS := (.ret (.bi .tuple (.cons (.mk false (.comp (.rng1 (.var 1)) [2] true .nil (.bi .tuple (.cons (.mk false (.comp (.seq (.var 0)) [3] true .nil (.ix (.var 3) (.var 2)) [3])) .nil)) [2])) .nil)))
def K_columns_of : CSs := (.cons K_columns_of_1 .nil)
def K_product_of_1 (i_columns_of : Nat) : CS := (.set 3 (.call i_columns_of (.cons (.var 1) (.cons (.var 2) .nil)) [0, 1]))
def K_product_of_2 : CS := (.ret (.bi .tuple (.cons (.mk false (.comp (.seq (.var 0)) [4] true .nil (.bi .tuple (.cons (.mk false (.comp (.seq (.var 3)) [5] true .nil (.bi .sum (.cons (.mk false (.comp (.zip (.var 4) (.var 5)) [6, 7] false .nil (.bin .mul (.var 6) (.var 7)) [6, 7])) .nil)) [5])) .nil)) [4])) .nil)))
def K_product_of (i_columns_of : Nat) : CSs := (.cons (K_product_of_1 i_columns_of) (.cons K_product_of_2 .nil))
def K_is_matrix_1a_1 : CS := (.ret (.cst (.bl false)))
def K_is_matrix_1a : CSs := (.cons K_is_matrix_1a_1 .nil)
def K_is_matrix_1 : CS := (.iff (.not (.isi (.var 0) [.tuple])) K_is_matrix_1a .nil)
def K_is_matrix_2 (i_are_naturals : Nat) : CS := (.ret (.bi .all (.cons (.mk false (.comp (.seq (.var 0)) [1] true .nil (.and (.call i_are_naturals (.cons (.var 1) .nil) [0]) (.cmp .eq (.bi .len (.cons (.var 1) .nil)) (.bi .len (.cons (.var 0) .nil)))) [1])) .nil)))
def K_is_matrix (i_are_naturals : Nat) : CSs := (.cons K_is_matrix_1 (.cons (K_is_matrix_2 i_are_naturals) .nil))
def K_is_essential_of_1 (i_columns_of : Nat) : CS := (.ret (.and (.bi .all (.cons (.mk false (.comp (.seq (.var 0)) [1] true .nil (.cmp .gt (.bi .sum (.cons (.var 1) .nil)) (.cst (.int (0)))) [1])) .nil)) (.bi .all (.cons (.mk false (.comp (.seq (.call i_columns_of (.cons (.var 0) (.cons (.bi .len (.cons (.var 0) .nil)) .nil)) [0, 1])) [1] true .nil (.cmp .gt (.bi .sum (.cons (.var 1) .nil)) (.cst (.int (0)))) [1])) .nil))))
def K_is_essential_of (i_columns_of : Nat) : CSs := (.cons (K_is_essential_of_1 i_columns_of) .nil)
def K_check_essential_1a_1 (x_InvalidMatrix : Nat) : CS := (.raise x_InvalidMatrix (.var 0))
def K_check_essential_1a (x_InvalidMatrix : Nat) : CSs := (.cons (K_check_essential_1a_1 x_InvalidMatrix) .nil)
def K_check_essential_1 (i_is_matrix i_is_essential_of x_InvalidMatrix : Nat) : CS := (.iff (.or (.not (.call i_is_matrix (.cons (.var 0) .nil) [0])) (.not (.call i_is_essential_of (.cons (.var 0) .nil) [0]))) (K_check_essential_1a x_InvalidMatrix) .nil)
def K_check_essential (i_is_matrix i_is_essential_of x_InvalidMatrix : Nat) : CSs := (.cons (K_check_essential_1 i_is_matrix i_is_essential_of x_InvalidMatrix) .nil)
section
variable {wf d : Nat} {M : MH} {P : Nat → Option FD} {i0 i1 i2 i3 i4 i5 i6 i7 i8 : Nat}
theorem t_is_integer (h0 : P i0 = some ⟨1, 1, K_is_integer, false⟩) {v : D} (h : gd v = true) : evF P wf (d+1) i0 [v] M = some (.ok (.bl (isIntB v)) M) := by
  rw [evF_eq h0 rfl]
  simp only [K_is_integer, K_is_integer_1, e_var, e_cst, e_bin, e_neg, e_cmp, e_cmp2, e_and, e_or, e_not, e_ite, e_tup, e_mkF, e_mkT, e_ix, e_slLo, e_slHi, e_slLH, e_rev, e_call, e_bi, e_isi, es_nil, es_cons, ec_nil, ec_cons, el_disp, el_cat, el_rep, el_list, ew_seq, ew_rng1, ew_rng2, ew_enum, ew_zip, s_expr, s_ret, s_retN, s_set, s_par, s_unp, s_app, s_setIx, s_augIx, s_aug, s_iff, s_while, s_raise, s_pass, s_brk, s_cont, ss_nil, ss_cons, lR_some, bR_ok, bR_ex, tR_ok, tR_ex, sR_nx, sR_rt, sR_bk, sR_ct, sR_xc, endR_rt, endR_nx, endR_xc, kR_t, kR_f, kA_t, kA_f, kA_b, kO_t, kO_f, kO_b, g_0, g_s, st_0, st_s, bT_1, bT_n, tS_1, ss0, ss1, wp0, wp1, permD, intD, truD, Option.map_some, Option.map_none, Option.bind_some, List.getElem?_cons_zero, List.getElem?_cons_succ, List.map_cons, List.map_nil, List.length_cons, List.length_nil, List.cons_append, List.nil_append, List.replicate_succ, List.replicate_zero, Nat.sub_self, fin_same, finX_same, fin_keep, if_true, if_false, reduceIte, ty_int h, ty_bool h]
  cases v <;> rfl
theorem t_is_natural (h0 : P i0 = some ⟨1, 1, K_is_integer, false⟩) (h1 : P i1 = some ⟨1, 1, K_is_natural i0, false⟩) {v : D} (h : gd v = true) : evF P wf (d+2) i1 [v] M = some (.ok (.bl (isNatB v)) M) := by
  rw [evF_eq h1 rfl]
  simp only [K_is_natural, K_is_natural_1, e_var, e_cst, e_bin, e_neg, e_cmp, e_cmp2, e_and, e_or, e_not, e_ite, e_tup, e_mkF, e_mkT, e_ix, e_slLo, e_slHi, e_slLH, e_rev, e_call, e_bi, e_isi, es_nil, es_cons, ec_nil, ec_cons, el_disp, el_cat, el_rep, el_list, ew_seq, ew_rng1, ew_rng2, ew_enum, ew_zip, s_expr, s_ret, s_retN, s_set, s_par, s_unp, s_app, s_setIx, s_augIx, s_aug, s_iff, s_while, s_raise, s_pass, s_brk, s_cont, ss_nil, ss_cons, lR_some, bR_ok, bR_ex, tR_ok, tR_ex, sR_nx, sR_rt, sR_bk, sR_ct, sR_xc, endR_rt, endR_nx, endR_xc, kR_t, kR_f, kA_t, kA_f, kA_b, kO_t, kO_f, kO_b, g_0, g_s, st_0, st_s, bT_1, bT_n, tS_1, ss0, ss1, wp0, wp1, permD, intD, truD, Option.map_some, Option.map_none, Option.bind_some, List.getElem?_cons_zero, List.getElem?_cons_succ, List.map_cons, List.map_nil, List.length_cons, List.length_nil, List.cons_append, List.nil_append, List.replicate_succ, List.replicate_zero, Nat.sub_self, fin_same, finX_same, fin_keep, if_true, if_false, reduceIte, t_is_integer h0 h]
  rcases int_cases v with ⟨i, rfl⟩ | ⟨h1, h2⟩
  · simp only [isIntB, e_var, e_cst, e_bin, e_neg, e_cmp, e_cmp2, e_and, e_or, e_not, e_ite, e_tup, e_mkF, e_mkT, e_ix, e_slLo, e_slHi, e_slLH, e_rev, e_call, e_bi, e_isi, es_nil, es_cons, ec_nil, ec_cons, el_disp, el_cat, el_rep, el_list, ew_seq, ew_rng1, ew_rng2, ew_enum, ew_zip, s_expr, s_ret, s_retN, s_set, s_par, s_unp, s_app, s_setIx, s_augIx, s_aug, s_iff, s_while, s_raise, s_pass, s_brk, s_cont, ss_nil, ss_cons, lR_some, bR_ok, bR_ex, tR_ok, tR_ex, sR_nx, sR_rt, sR_bk, sR_ct, sR_xc, endR_rt, endR_nx, endR_xc, kR_t, kR_f, kA_t, kA_f, kA_b, kO_t, kO_f, kO_b, g_0, g_s, st_0, st_s, bT_1, bT_n, tS_1, ss0, ss1, wp0, wp1, permD, intD, truD, Option.map_some, Option.map_none, Option.bind_some, List.getElem?_cons_zero, List.getElem?_cons_succ, List.map_cons, List.map_nil, List.length_cons, List.length_nil, List.cons_append, List.nil_append, List.replicate_succ, List.replicate_zero, Nat.sub_self, fin_same, finX_same, fin_keep, if_true, if_false, reduceIte, cmp_ge]; rfl
  · simp only [h1, h2, e_var, e_cst, e_bin, e_neg, e_cmp, e_cmp2, e_and, e_or, e_not, e_ite, e_tup, e_mkF, e_mkT, e_ix, e_slLo, e_slHi, e_slLH, e_rev, e_call, e_bi, e_isi, es_nil, es_cons, ec_nil, ec_cons, el_disp, el_cat, el_rep, el_list, ew_seq, ew_rng1, ew_rng2, ew_enum, ew_zip, s_expr, s_ret, s_retN, s_set, s_par, s_unp, s_app, s_setIx, s_augIx, s_aug, s_iff, s_while, s_raise, s_pass, s_brk, s_cont, ss_nil, ss_cons, lR_some, bR_ok, bR_ex, tR_ok, tR_ex, sR_nx, sR_rt, sR_bk, sR_ct, sR_xc, endR_rt, endR_nx, endR_xc, kR_t, kR_f, kA_t, kA_f, kA_b, kO_t, kO_f, kO_b, g_0, g_s, st_0, st_s, bT_1, bT_n, tS_1, ss0, ss1, wp0, wp1, permD, intD, truD, Option.map_some, Option.map_none, Option.bind_some, List.getElem?_cons_zero, List.getElem?_cons_succ, List.map_cons, List.map_nil, List.length_cons, List.length_nil, List.cons_append, List.nil_append, List.replicate_succ, List.replicate_zero, Nat.sub_self, fin_same, finX_same, fin_keep, if_true, if_false, reduceIte]
/-- a tuple of naturals -/
def natsB : D → Bool
  | .tup xs => xs.all isNatB
  | _ => false
/-- .. of so many -/
def rowB (w : Nat) : D → Bool
  | .tup xs => xs.all isNatB && decide (xs.length = w)
  | _ => false
/-- so many rows of so many naturals -/
def tbB (many wide : Nat) : D → Bool
  | .tup rs => decide (rs.length = many) && rs.all (rowB wide)
  | _ => false
theorem t_are_naturals (h0 : P i0 = some ⟨1, 1, K_is_integer, false⟩) (h1 : P i1 = some ⟨1, 1, K_is_natural i0, false⟩) (h2 : P i2 = some ⟨1, 2, K_are_naturals i1, false⟩) {v : D} (h : gd v = true) :
    evF P wf (d+3) i2 [v] M = some (.ok (.bl (natsB v)) M) := by
  rw [evF_eq h2 rfl]
  simp only [K_are_naturals, K_are_naturals_1, e_var, e_cst, e_bin, e_neg, e_cmp, e_cmp2, e_and, e_or, e_not, e_ite, e_tup, e_mkF, e_mkT, e_ix, e_slLo, e_slHi, e_slLH, e_rev, e_call, e_bi, e_isi, es_nil, es_cons, ec_nil, ec_cons, el_disp, el_cat, el_rep, el_list, ew_seq, ew_rng1, ew_rng2, ew_enum, ew_zip, s_expr, s_ret, s_retN, s_set, s_par, s_unp, s_app, s_setIx, s_augIx, s_aug, s_iff, s_while, s_raise, s_pass, s_brk, s_cont, ss_nil, ss_cons, lR_some, bR_ok, bR_ex, tR_ok, tR_ex, sR_nx, sR_rt, sR_bk, sR_ct, sR_xc, endR_rt, endR_nx, endR_xc, kR_t, kR_f, kA_t, kA_f, kA_b, kO_t, kO_f, kO_b, g_0, g_s, st_0, st_s, bT_1, bT_n, tS_1, ss0, ss1, wp0, wp1, permD, intD, truD, Option.map_some, Option.map_none, Option.bind_some, List.getElem?_cons_zero, List.getElem?_cons_succ, List.map_cons, List.map_nil, List.length_cons, List.length_nil, List.cons_append, List.nil_append, List.replicate_succ, List.replicate_zero, Nat.sub_self, fin_same, finX_same, fin_keep, if_true, if_false, reduceIte, ty_tup h]
  rcases tup_cases v with ⟨xs, rfl⟩ | h3
  · obtain ⟨hl, hs⟩ := gd_tup h
    simp only [isTupB, e_var, e_cst, e_bin, e_neg, e_cmp, e_cmp2, e_and, e_or, e_not, e_ite, e_tup, e_mkF, e_mkT, e_ix, e_slLo, e_slHi, e_slLH, e_rev, e_call, e_bi, e_isi, es_nil, es_cons, ec_nil, ec_cons, el_disp, el_cat, el_rep, el_list, ew_seq, ew_rng1, ew_rng2, ew_enum, ew_zip, s_expr, s_ret, s_retN, s_set, s_par, s_unp, s_app, s_setIx, s_augIx, s_aug, s_iff, s_while, s_raise, s_pass, s_brk, s_cont, ss_nil, ss_cons, lR_some, bR_ok, bR_ex, tR_ok, tR_ex, sR_nx, sR_rt, sR_bk, sR_ct, sR_xc, endR_rt, endR_nx, endR_xc, kR_t, kR_f, kA_t, kA_f, kA_b, kO_t, kO_f, kO_b, g_0, g_s, st_0, st_s, bT_1, bT_n, tS_1, ss0, ss1, wp0, wp1, permD, intD, truD, Option.map_some, Option.map_none, Option.bind_some, List.getElem?_cons_zero, List.getElem?_cons_succ, List.map_cons, List.map_nil, List.length_cons, List.length_nil, List.cons_append, List.nil_append, List.replicate_succ, List.replicate_zero, Nat.sub_self, fin_same, finX_same, fin_keep, if_true, if_false, reduceIte, el_comp, srcOf_tup, if_pos (lenW_fix hl)]
    rw [cm_map (fun x => .bl (isNatB x)) fun x hx => by simp only [e_var, e_cst, e_bin, e_neg, e_cmp, e_cmp2, e_and, e_or, e_not, e_ite, e_tup, e_mkF, e_mkT, e_ix, e_slLo, e_slHi, e_slLH, e_rev, e_call, e_bi, e_isi, es_nil, es_cons, ec_nil, ec_cons, el_disp, el_cat, el_rep, el_list, ew_seq, ew_rng1, ew_rng2, ew_enum, ew_zip, s_expr, s_ret, s_retN, s_set, s_par, s_unp, s_app, s_setIx, s_augIx, s_aug, s_iff, s_while, s_raise, s_pass, s_brk, s_cont, ss_nil, ss_cons, lR_some, bR_ok, bR_ex, tR_ok, tR_ex, sR_nx, sR_rt, sR_bk, sR_ct, sR_xc, endR_rt, endR_nx, endR_xc, kR_t, kR_f, kA_t, kA_f, kA_b, kO_t, kO_f, kO_b, g_0, g_s, st_0, st_s, bT_1, bT_n, tS_1, ss0, ss1, wp0, wp1, permD, intD, truD, Option.map_some, Option.map_none, Option.bind_some, List.getElem?_cons_zero, List.getElem?_cons_succ, List.map_cons, List.map_nil, List.length_cons, List.length_nil, List.cons_append, List.nil_append, List.replicate_succ, List.replicate_zero, Nat.sub_self, fin_same, finX_same, fin_keep, if_true, if_false, reduceIte, t_is_natural h0 h1 (hs x hx)]]
    simp only [e_var, e_cst, e_bin, e_neg, e_cmp, e_cmp2, e_and, e_or, e_not, e_ite, e_tup, e_mkF, e_mkT, e_ix, e_slLo, e_slHi, e_slLH, e_rev, e_call, e_bi, e_isi, es_nil, es_cons, ec_nil, ec_cons, el_disp, el_cat, el_rep, el_list, ew_seq, ew_rng1, ew_rng2, ew_enum, ew_zip, s_expr, s_ret, s_retN, s_set, s_par, s_unp, s_app, s_setIx, s_augIx, s_aug, s_iff, s_while, s_raise, s_pass, s_brk, s_cont, ss_nil, ss_cons, lR_some, bR_ok, bR_ex, tR_ok, tR_ex, sR_nx, sR_rt, sR_bk, sR_ct, sR_xc, endR_rt, endR_nx, endR_xc, kR_t, kR_f, kA_t, kA_f, kA_b, kO_t, kO_f, kO_b, g_0, g_s, st_0, st_s, bT_1, bT_n, tS_1, ss0, ss1, wp0, wp1, permD, intD, truD, Option.map_some, Option.map_none, Option.bind_some, List.getElem?_cons_zero, List.getElem?_cons_succ, List.map_cons, List.map_nil, List.length_cons, List.length_nil, List.cons_append, List.nil_append, List.replicate_succ, List.replicate_zero, Nat.sub_self, fin_same, finX_same, fin_keep, if_true, if_false, reduceIte, bi_allE, all_map, natsB]
  · simp only [h3, e_var, e_cst, e_bin, e_neg, e_cmp, e_cmp2, e_and, e_or, e_not, e_ite, e_tup, e_mkF, e_mkT, e_ix, e_slLo, e_slHi, e_slLH, e_rev, e_call, e_bi, e_isi, es_nil, es_cons, ec_nil, ec_cons, el_disp, el_cat, el_rep, el_list, ew_seq, ew_rng1, ew_rng2, ew_enum, ew_zip, s_expr, s_ret, s_retN, s_set, s_par, s_unp, s_app, s_setIx, s_augIx, s_aug, s_iff, s_while, s_raise, s_pass, s_brk, s_cont, ss_nil, ss_cons, lR_some, bR_ok, bR_ex, tR_ok, tR_ex, sR_nx, sR_rt, sR_bk, sR_ct, sR_xc, endR_rt, endR_nx, endR_xc, kR_t, kR_f, kA_t, kA_f, kA_b, kO_t, kO_f, kO_b, g_0, g_s, st_0, st_s, bT_1, bT_n, tS_1, ss0, ss1, wp0, wp1, permD, intD, truD, Option.map_some, Option.map_none, Option.bind_some, List.getElem?_cons_zero, List.getElem?_cons_succ, List.map_cons, List.map_nil, List.length_cons, List.length_nil, List.cons_append, List.nil_append, List.replicate_succ, List.replicate_zero, Nat.sub_self, fin_same, finX_same, fin_keep, if_true, if_false, reduceIte]
    cases v <;> first | rfl | cases h3
/-! ### tables of ints -/
def rowD (r : List Int) : D := .tup (r.map .int)
def mx (m : List (List Int)) : D := .tup (m.map rowD)
theorem eqvAll_ints : ∀ xs ys : List Int, PyData.eqvAll (pysOf (xs.map .int)) (pysOf (ys.map .int)) = decide (xs = ys)
  | [], [] => rfl
  | [], y :: ys => by simp [pysOf, PyData.eqvAll]
  | x :: xs, [] => by simp [pysOf, PyData.eqvAll]
  | x :: xs, y :: ys => by
    show PyData.eqvAll (.int x :: pysOf (xs.map .int)) (.int y :: pysOf (ys.map .int)) = _
    rw [PyData.eqvAll, eqvAll_ints xs ys, PyData.eqv]
    by_cases h1 : x = y <;> by_cases h2 : xs = ys <;> simp [h1, h2]
theorem eqvAll_rows : ∀ xs ys : List (List Int), PyData.eqvAll (pysOf (xs.map rowD)) (pysOf (ys.map rowD)) = decide (xs = ys)
  | [], [] => rfl
  | [], y :: ys => by simp [pysOf, PyData.eqvAll]
  | x :: xs, [] => by simp [pysOf, PyData.eqvAll]
  | x :: xs, y :: ys => by
    show PyData.eqvAll (.tuple (pysOf (x.map .int)) :: pysOf (xs.map rowD)) (.tuple (pysOf (y.map .int)) :: pysOf (ys.map rowD)) = _
    rw [PyData.eqvAll, eqvAll_rows xs ys, PyData.eqv, eqvAll_ints]
    by_cases h1 : x = y <;> by_cases h2 : xs = ys <;> simp [h1, h2]
theorem clos_ints (xs : List Int) : clos (xs.map .int) = true := clos_of fun x hx => by
  obtain ⟨i, _, rfl⟩ := List.mem_map.mp hx; rfl
theorem clo_row (r : List Int) : clo (rowD r) = true := clos_ints r
theorem clo_mx (m : List (List Int)) : clo (mx m) = true := clos_of fun x hx => by
  obtain ⟨i, _, rfl⟩ := List.mem_map.mp hx; exact clo_row i
theorem dep_ints (xs : List Int) : PyData.depthAll (pysOf (xs.map .int)) ≤ 0 := depAll_le fun x hx => by
  obtain ⟨i, _, rfl⟩ := List.mem_map.mp hx; exact Nat.le_refl 0
theorem dep_row (r : List Int) : dep (rowD r) ≤ 1 := Nat.succ_le_succ (dep_ints r)
theorem dep_mx (m : List (List Int)) : dep (mx m) ≤ 2 := Nat.succ_le_succ (depAll_le fun x hx => by
  obtain ⟨i, _, rfl⟩ := List.mem_map.mp hx; exact dep_row i)
theorem eq_mx (a b : List (List Int)) : cmpD M .eq (mx a) (mx b) = some (decide (a = b)) := by
  show eqD M (mx a) (mx b) = _
  have e : ∀ c, toPy M (mx c) = some (pyOf (mx c)) := fun c => toPy_clo (clo_mx c)
  have dd : ∀ c, (pyOf (mx c)).depth ≤ 64 := fun c => Nat.le_trans (dep_mx c) (by decide)
  have u : eqD M (mx a) (mx b) = match toPy M (mx a), toPy M (mx b) with
    | some d, some e => if d.depth ≤ 64 ∧ e.depth ≤ 64 then some (PyData.eqv d e) else none
    | _, _ => none := by
    unfold eqD mx
    rfl
  rw [u, e, e]
  simp only [dd, and_self, if_true]
  show some (PyData.eqv (.tuple (pysOf (a.map rowD))) (.tuple (pysOf (b.map rowD)))) = _
  rw [PyData.eqv, eqvAll_rows]
theorem ne_mx (a b : List (List Int)) : cmpD M .ne (mx a) (mx b) = some (!decide (a = b)) := by
  have := eq_mx (M := M) a b
  show (eqD M (mx a) (mx b)).map (!·) = _
  rw [show eqD M (mx a) (mx b) = some (decide (a = b)) from this]; rfl
/-- all entries are at most so great -/
def Bd (m : List (List Int)) : Prop := ∀ r ∈ m, r.length ≤ 1000 ∧ ∀ x ∈ r, x.natAbs < 10 ^ 500
theorem gd_row {r : List Int} (hl : r.length ≤ 1000) (h : ∀ x ∈ r, x.natAbs < 10 ^ 500) : gd (rowD r) = true := gd_mk (by rw [List.length_map]; exact hl) fun x hx => by
  obtain ⟨i, hi, rfl⟩ := List.mem_map.mp hx
  exact decide_eq_true (h i hi)
theorem gd_mx {m : List (List Int)} (hl : m.length ≤ 1000) (h : Bd m) : gd (mx m) = true := gd_mk (by rw [List.length_map]; exact hl) fun x hx => by
  obtain ⟨r, hr, rfl⟩ := List.mem_map.mp hx
  exact gd_row (h r hr).1 (h r hr).2
/-- back from data -/
def unI : D → Int
  | .int i => i
  | _ => 0
def unR : D → List Int
  | .tup xs => xs.map unI
  | _ => []
def unT : D → List (List Int)
  | .tup rs => rs.map unR
  | _ => []
theorem un_row {w : Nat} {v : D} (h : rowB w v = true) : v = rowD (unR v) ∧ (unR v).length = w ∧ ∀ x ∈ unR v, 0 ≤ x := by
  cases v with
  | tup xs =>
    obtain ⟨h1, h2⟩ := Bool.and_eq_true_iff.mp (show (xs.all isNatB && decide (xs.length = w)) = true from h)
    have h1 := List.all_eq_true.mp h1
    have e : ∀ x ∈ xs, D.int (unI x) = x ∧ 0 ≤ unI x := fun x hx => by
      have := h1 x hx
      cases x <;> first | (cases this; done) | exact ⟨rfl, of_decide_eq_true this⟩
    refine ⟨?_, by show (xs.map unI).length = w; rw [List.length_map]; exact of_decide_eq_true h2, fun x hx => ?_⟩
    · show D.tup xs = .tup ((xs.map unI).map .int)
      rw [List.map_map]
      congr 1
      conv => lhs; rw [← List.map_id xs]
      exact List.map_congr_left fun x hx => (e x hx).1.symm
    · obtain ⟨y, hy, rfl⟩ := List.mem_map.mp hx
      exact (e y hy).2
  | _ => cases h
theorem un_tb {R C : Nat} {v : D} (h : tbB R C v = true) : v = mx (unT v) ∧ (unT v).length = R ∧ ∀ r ∈ unT v, r.length = C ∧ ∀ x ∈ r, 0 ≤ x := by
  cases v with
  | tup rs =>
    obtain ⟨h1, h2⟩ := Bool.and_eq_true_iff.mp (show (decide (rs.length = R) && rs.all (rowB C)) = true from h)
    have h2 := List.all_eq_true.mp h2
    refine ⟨?_, by show (rs.map unR).length = R; rw [List.length_map]; exact of_decide_eq_true h1, fun r hr => ?_⟩
    · show D.tup rs = .tup ((rs.map unR).map rowD)
      rw [List.map_map]
      congr 1
      conv => lhs; rw [← List.map_id rs]
      exact List.map_congr_left fun x hx => (un_row (h2 x hx)).1
    · obtain ⟨y, hy, rfl⟩ := List.mem_map.mp hr
      exact (un_row (h2 y hy)).2
  | _ => cases h
theorem bd_of {v : D} (h : gd v = true) (e : v = mx (unT v)) : Bd (unT v) := fun r hr => by
  rw [e] at h
  have h1 := (gd_tup h).2 (rowD r) (List.mem_map_of_mem hr)
  obtain ⟨h2, h3⟩ := gd_tup h1
  exact ⟨by rw [List.length_map] at h2; exact h2, fun x hx => gd_int (h3 (.int x) (List.mem_map_of_mem hx))⟩
theorem len_of {v : D} (h : gd v = true) (e : v = mx (unT v)) : (unT v).length ≤ 1000 := by
  rw [e] at h
  have := (gd_tup h).1
  rwa [List.length_map] at this
/-! ### columns, products -/
def colM (m : List (List Int)) (j : Nat) : List Int := m.map fun r => r.getD j 0
def colsM (m : List (List Int)) (n : Nat) : List (List Int) := (List.range n).map (colM m)
def dotM (r c : List Int) : Int := (List.zipWith (· * ·) r c).sum
def mulM (a b : List (List Int)) (n : Nat) : List (List Int) := a.map fun r => (List.range n).map fun j => dotM r (colM b j)
theorem row_at {r : List Int} {j : Nat} (h : j < r.length) : ixD M (rowD r) (j : Int) = some (.int (r.getD j 0)) := by
  show L2.atI (r.map D.int) (j : Int) = _
  refine MP.atI_nat ?_
  rw [List.getElem?_map, List.getElem?_eq_getElem h, List.getD_eq_getElem?_getD, List.getElem?_eq_getElem h]; rfl
theorem mx_at {m : List (List Int)} {j : Nat} (h : j < m.length) : ixD M (mx m) (j : Int) = some (rowD (m.getD j [])) := by
  show L2.atI (m.map rowD) (j : Int) = _
  refine MP.atI_nat ?_
  rw [List.getElem?_map, List.getElem?_eq_getElem h, List.getD_eq_getElem?_getD, List.getElem?_eq_getElem h]; rfl
theorem bi_tupL {xs : List D} : biD M .tuple [.lst xs] = some (.tup xs) := rfl
theorem map_map' {α β γ : Type} {g : β → γ} {f : α → β} {l : List α} : (l.map f).map g = l.map fun x => g (f x) := by rw [List.map_map]; rfl
theorem bi_sumI {xs : List Int} : biD M .sum [.lst (xs.map .int)] = some (.int xs.sum) := by
  show ((some (xs.map D.int)).bind asInts).map (fun ns => D.int ns.sum) = _
  have : ∀ xs : List Int, asInts (xs.map .int) = some xs := by
    intro xs
    induction xs with
    | nil => rfl
    | cons x xs ih => show (asInts (xs.map .int)).map (x :: ·) = _; rw [ih]; rfl
  rw [Option.bind_some, this]; rfl
theorem bi_sumT {xs : List Int} : biD M .sum [rowD xs] = some (.int xs.sum) := by
  have := bi_sumI (M := M) (xs := xs)
  exact this
theorem t_columns (h0 : P i0 = some ⟨2, 4, K_columns_of, false⟩) {m : List (List Int)} {n : Nat} (hm : m.length ≤ 1000) (hn : n ≤ 1000) (h : ∀ r ∈ m, n ≤ r.length) : evF P wf (d+1) i0 [mx m, .int (n : Int)] M = some (.ok (mx (colsM m n)) M) := by
  rw [evF_eq h0 rfl]
  have hro : rngR 0 (n : Int) M = some (.ok (.one (.fix (rangeD 0 (n : Int)))) M) := rngR_0 (nat_len hn)
  have hsm : srcOf M (mx m) = some (.fix (m.map rowD)) := rfl
  simp only [K_columns_of, K_columns_of_1, e_var, e_cst, e_bin, e_neg, e_cmp, e_cmp2, e_and, e_or, e_not, e_ite, e_tup, e_mkF, e_mkT, e_ix, e_slLo, e_slHi, e_slLH, e_rev, e_call, e_bi, e_isi, es_nil, es_cons, ec_nil, ec_cons, el_disp, el_cat, el_rep, el_list, ew_seq, ew_rng1, ew_rng2, ew_enum, ew_zip, s_expr, s_ret, s_retN, s_set, s_par, s_unp, s_app, s_setIx, s_augIx, s_aug, s_iff, s_while, s_raise, s_pass, s_brk, s_cont, ss_nil, ss_cons, lR_some, bR_ok, bR_ex, tR_ok, tR_ex, sR_nx, sR_rt, sR_bk, sR_ct, sR_xc, endR_rt, endR_nx, endR_xc, kR_t, kR_f, kA_t, kA_f, kA_b, kO_t, kO_f, kO_b, g_0, g_s, st_0, st_s, bT_1, bT_n, tS_1, ss0, ss1, wp0, wp1, permD, intD, truD, Option.map_some, Option.map_none, Option.bind_some, List.getElem?_cons_zero, List.getElem?_cons_succ, List.map_cons, List.map_nil, List.length_cons, List.length_nil, List.cons_append, List.nil_append, List.replicate_succ, List.replicate_zero, Nat.sub_self, fin_same, finX_same, fin_keep, if_true, if_false, reduceIte, el_comp, hro, if_pos (lenW_fix (M := M) (xs := rangeD 0 (n : Int)) (n := 1000) (by rw [len_range]; exact hn))]
  rw [cm_range (fun j => rowD (colM m j)) fun j hj => by
    simp only [e_var, e_cst, e_bin, e_neg, e_cmp, e_cmp2, e_and, e_or, e_not, e_ite, e_tup, e_mkF, e_mkT, e_ix, e_slLo, e_slHi, e_slLH, e_rev, e_call, e_bi, e_isi, es_nil, es_cons, ec_nil, ec_cons, el_disp, el_cat, el_rep, el_list, ew_seq, ew_rng1, ew_rng2, ew_enum, ew_zip, s_expr, s_ret, s_retN, s_set, s_par, s_unp, s_app, s_setIx, s_augIx, s_aug, s_iff, s_while, s_raise, s_pass, s_brk, s_cont, ss_nil, ss_cons, lR_some, bR_ok, bR_ex, tR_ok, tR_ex, sR_nx, sR_rt, sR_bk, sR_ct, sR_xc, endR_rt, endR_nx, endR_xc, kR_t, kR_f, kA_t, kA_f, kA_b, kO_t, kO_f, kO_b, g_0, g_s, st_0, st_s, bT_1, bT_n, tS_1, ss0, ss1, wp0, wp1, permD, intD, truD, Option.map_some, Option.map_none, Option.bind_some, List.getElem?_cons_zero, List.getElem?_cons_succ, List.map_cons, List.map_nil, List.length_cons, List.length_nil, List.cons_append, List.nil_append, List.replicate_succ, List.replicate_zero, Nat.sub_self, fin_same, finX_same, fin_keep, if_true, if_false, reduceIte, el_comp, hsm, if_pos (lenW_fix (M := M) (xs := m.map rowD) (n := 1000) (by rw [List.length_map]; exact hm))]
    rw [cm_map (fun x => .int ((unR x).getD j 0)) fun x hx => by
      obtain ⟨r, hr, rfl⟩ := List.mem_map.mp hx
      have e : unR (rowD r) = r := by
        show (r.map D.int).map unI = r
        rw [map_map']
        exact List.map_id _
      simp only [e_var, e_cst, e_bin, e_neg, e_cmp, e_cmp2, e_and, e_or, e_not, e_ite, e_tup, e_mkF, e_mkT, e_ix, e_slLo, e_slHi, e_slLH, e_rev, e_call, e_bi, e_isi, es_nil, es_cons, ec_nil, ec_cons, el_disp, el_cat, el_rep, el_list, ew_seq, ew_rng1, ew_rng2, ew_enum, ew_zip, s_expr, s_ret, s_retN, s_set, s_par, s_unp, s_app, s_setIx, s_augIx, s_aug, s_iff, s_while, s_raise, s_pass, s_brk, s_cont, ss_nil, ss_cons, lR_some, bR_ok, bR_ex, tR_ok, tR_ex, sR_nx, sR_rt, sR_bk, sR_ct, sR_xc, endR_rt, endR_nx, endR_xc, kR_t, kR_f, kA_t, kA_f, kA_b, kO_t, kO_f, kO_b, g_0, g_s, st_0, st_s, bT_1, bT_n, tS_1, ss0, ss1, wp0, wp1, permD, intD, truD, Option.map_some, Option.map_none, Option.bind_some, List.getElem?_cons_zero, List.getElem?_cons_succ, List.map_cons, List.map_nil, List.length_cons, List.length_nil, List.cons_append, List.nil_append, List.replicate_succ, List.replicate_zero, Nat.sub_self, fin_same, finX_same, fin_keep, if_true, if_false, reduceIte, row_at (Nat.lt_of_lt_of_le hj (h r hr)), e]]
    have e2 : (m.map rowD).map (fun x => D.int ((unR x).getD j 0)) = (colM m j).map .int := by
      rw [map_map']
      unfold colM
      rw [map_map']
      refine List.map_congr_left fun r _ => ?_
      have e : unR (rowD r) = r := by
        show (r.map D.int).map unI = r
        rw [map_map']
        exact List.map_id _
      rw [e]
    simp only [e_var, e_cst, e_bin, e_neg, e_cmp, e_cmp2, e_and, e_or, e_not, e_ite, e_tup, e_mkF, e_mkT, e_ix, e_slLo, e_slHi, e_slLH, e_rev, e_call, e_bi, e_isi, es_nil, es_cons, ec_nil, ec_cons, el_disp, el_cat, el_rep, el_list, ew_seq, ew_rng1, ew_rng2, ew_enum, ew_zip, s_expr, s_ret, s_retN, s_set, s_par, s_unp, s_app, s_setIx, s_augIx, s_aug, s_iff, s_while, s_raise, s_pass, s_brk, s_cont, ss_nil, ss_cons, lR_some, bR_ok, bR_ex, tR_ok, tR_ex, sR_nx, sR_rt, sR_bk, sR_ct, sR_xc, endR_rt, endR_nx, endR_xc, kR_t, kR_f, kA_t, kA_f, kA_b, kO_t, kO_f, kO_b, g_0, g_s, st_0, st_s, bT_1, bT_n, tS_1, ss0, ss1, wp0, wp1, permD, intD, truD, Option.map_some, Option.map_none, Option.bind_some, List.getElem?_cons_zero, List.getElem?_cons_succ, List.map_cons, List.map_nil, List.length_cons, List.length_nil, List.cons_append, List.nil_append, List.replicate_succ, List.replicate_zero, Nat.sub_self, fin_same, finX_same, fin_keep, if_true, if_false, reduceIte, e2, bi_tupL]
    rfl]
  simp only [e_var, e_cst, e_bin, e_neg, e_cmp, e_cmp2, e_and, e_or, e_not, e_ite, e_tup, e_mkF, e_mkT, e_ix, e_slLo, e_slHi, e_slLH, e_rev, e_call, e_bi, e_isi, es_nil, es_cons, ec_nil, ec_cons, el_disp, el_cat, el_rep, el_list, ew_seq, ew_rng1, ew_rng2, ew_enum, ew_zip, s_expr, s_ret, s_retN, s_set, s_par, s_unp, s_app, s_setIx, s_augIx, s_aug, s_iff, s_while, s_raise, s_pass, s_brk, s_cont, ss_nil, ss_cons, lR_some, bR_ok, bR_ex, tR_ok, tR_ex, sR_nx, sR_rt, sR_bk, sR_ct, sR_xc, endR_rt, endR_nx, endR_xc, kR_t, kR_f, kA_t, kA_f, kA_b, kO_t, kO_f, kO_b, g_0, g_s, st_0, st_s, bT_1, bT_n, tS_1, ss0, ss1, wp0, wp1, permD, intD, truD, Option.map_some, Option.map_none, Option.bind_some, List.getElem?_cons_zero, List.getElem?_cons_succ, List.map_cons, List.map_nil, List.length_cons, List.length_nil, List.cons_append, List.nil_append, List.replicate_succ, List.replicate_zero, Nat.sub_self, fin_same, finX_same, fin_keep, if_true, if_false, reduceIte, bi_tupL]
  show some (Rs.ok (D.tup _) M) = some (Rs.ok (D.tup (((List.range n).map (colM m)).map rowD)) M)
  rw [map_map']
theorem unR_row (r : List Int) : unR (rowD r) = r := by
  show (r.map D.int).map unI = r
  rw [map_map']
  exact List.map_id _
/-! ### the newest place of the small heap -/
theorem app_get {o : MO} : (M ++ [o])[M.length]? = some o := by rw [List.getElem?_append_right (Nat.le_refl _), Nat.sub_self]; rfl
theorem app_set {o o' : MO} : (M ++ [o]).set M.length o' = M ++ [o'] := by
  induction M with
  | nil => rfl
  | cons x M ih => show x :: List.set (M ++ [o]) M.length o' = _; rw [ih]; rfl
theorem app_take {o : MO} : (M ++ [o]).take M.length = M := by simp
/-! ### walks whose items are known -/
theorem walkW_items {w : Wk} {zs : List D} {f : D → Ev (Option D)} (hi : ∀ (M : MH) (i : Nat), itemW M w i = some zs[i]?) : ∀ (k i : Nat) (M : MH), i + k = zs.length → walkW f w k i M = walkE f (zs.drop i) M
  | 0, i, M, h => by
    rw [List.drop_eq_nil_of_le (by omega)]
    unfold walkW walkE
    rw [hi, List.getElem?_eq_none (show zs.length ≤ i by omega)]
  | k + 1, i, M, h => by
    have hl : i < zs.length := by omega
    rw [List.drop_eq_getElem_cons hl]
    unfold walkW walkE
    simp only [hi, List.getElem?_eq_getElem hl]
    have hh : i + 1 + k = zs.length := by omega
    cases f zs[i] M with
    | none => rfl
    | some r =>
      cases r with
      | ok y M1 => simp only [walkW_items hi k (i + 1) _ hh]
      | ex c v M1 => rfl
theorem forW_items {w : Wk} {zs : List D} {f : D → Env → Se} (hi : ∀ (M : MH) (i : Nat), itemW M w i = some zs[i]?) : ∀ (k i : Nat) (ρ : Env) (M : MH), i + k = zs.length → forW f w k i ρ M = forE f (zs.drop i) ρ M
  | 0, i, ρ, M, h => by
    rw [List.drop_eq_nil_of_le (by omega)]
    unfold forW forE
    rw [hi, List.getElem?_eq_none (show zs.length ≤ i by omega)]
  | k + 1, i, ρ, M, h => by
    have hl : i < zs.length := by omega
    rw [List.drop_eq_getElem_cons hl]
    unfold forW forE
    simp only [hi, List.getElem?_eq_getElem hl]
    have hh : i + 1 + k = zs.length := by omega
    cases f zs[i] ρ M with
    | none => rfl
    | some r =>
      obtain ⟨fl, ρ', M'⟩ := r
      cases fl <;> simp only [forW_items hi k (i + 1) _ _ hh]
def zipD (xs ys : List D) : List D := List.zipWith (fun x y => D.tup [x, y]) xs ys
theorem itemW_zip {xs ys : List D} (M : MH) (i : Nat) : itemW M (.zip (.fix xs) (.fix ys)) i = some (zipD xs ys)[i]? := by
  unfold zipD
  rw [List.getElem?_zipWith]
  have e : ∀ (a b : Option D), xs[i]? = a → ys[i]? = b → itemW M (.zip (.fix xs) (.fix ys)) i = some (match a, b with | some a, some b => some (.tup [a, b]) | _, _ => none) := fun a b ha hb => by
    unfold itemW itemS
    simp only [ha, hb]
    cases a <;> cases b <;> rfl
  rw [e _ _ rfl rfl]
  cases xs[i]? <;> cases ys[i]? <;> rfl
theorem lenW_zip {xs ys : List D} : lenW M (.zip (.fix xs) (.fix ys)) = (zipD xs ys).length := by
  unfold zipD
  rw [List.length_zipWith]; rfl
/-- [e for a, b in zip(xs, ys)] -/
theorem cm_zip {cl : Nat → List D → Ev D} {ρ : Env} {e : CE} {xs ys : List D} {t : List Nat} (g : D → D → D) (h : ∀ x y, x ∈ xs → y ∈ ys → ∃ ρ', setsS ρ t [x, y] = some ρ' ∧ ev cl e ρ' M = some (.ok (g x y) M)) :
    walkW (turnE cl t false .nil e ρ) (.zip (.fix xs) (.fix ys)) (lenW M (.zip (.fix xs) (.fix ys))) 0 M = some (.ok (List.zipWith g xs ys) M) := by
  rw [lenW_zip, walkW_items itemW_zip _ _ _ (by omega), List.drop_zero]
  unfold zipD
  induction xs generalizing ys with
  | nil => rfl
  | cons x xs ih =>
    cases ys with
    | nil => rfl
    | cons y ys =>
      have ih := ih (ys := ys) fun a b ha hb => h a b (List.mem_cons_of_mem _ ha) (List.mem_cons_of_mem _ hb)
      obtain ⟨ρ', h1, h2⟩ := h x y List.mem_cons_self List.mem_cons_self
      rw [List.zipWith_cons_cons, List.zipWith_cons_cons]
      unfold walkE
      have ht : turnE cl t false .nil e ρ (.tup [x, y]) M = some (.ok (some (g x y)) M) := by
        unfold turnE
        simp only [bT_n, h1, ec_nil, bR_ok, kR_t, h2]
      rw [ht]
      simp only [ih]
theorem zipWith_ints {r c : List Int} : List.zipWith (fun x y => D.int (unI x * unI y)) (r.map .int) (c.map .int) = (List.zipWith (· * ·) r c).map .int := by
  induction r generalizing c with
  | nil => rfl
  | cons x r ih =>
    cases c with
    | nil => rfl
    | cons y c => rw [List.map_cons, List.map_cons, List.zipWith_cons_cons, List.zipWith_cons_cons, List.map_cons, ih]; rfl
theorem colM_len {m : List (List Int)} {j : Nat} : (colM m j).length = m.length := List.length_map _
theorem colM_bd {m : List (List Int)} {j : Nat} (h : Bd m) : ∀ x ∈ colM m j, x.natAbs < 10 ^ 500 := fun x hx => by
  obtain ⟨r, hr, rfl⟩ := List.mem_map.mp hx
  by_cases hj : j < r.length
  · rw [List.getD_eq_getElem?_getD, List.getElem?_eq_getElem hj]
    exact (h r hr).2 _ (List.getElem_mem hj)
  · rw [List.getD_eq_getElem?_getD, List.getElem?_eq_none (by omega)]
    exact Nat.pow_pos (by decide)
/-- one * other -/
theorem t_product (h0 : P i0 = some ⟨2, 4, K_columns_of, false⟩) (h1 : P i1 = some ⟨3, 8, K_product_of i0, false⟩) {a b : List (List Int)} {n : Nat} (ha : a.length ≤ 1000) (hb : b.length ≤ 1000) (ba : Bd a) (bb : Bd b) (hn : n ≤ 1000) (h : ∀ r ∈ b, n ≤ r.length) :
    evF P wf (d+2) i1 [mx a, mx b, .int (n : Int)] M = some (.ok (mx (mulM a b n)) M) := by
  rw [evF_eq h1 rfl]
  have hsm : ∀ m : List (List Int), srcOf M (mx m) = some (.fix (m.map rowD)) := fun _ => rfl
  have hsr : ∀ m : List Int, srcOf M (rowD m) = some (.fix (m.map .int)) := fun _ => rfl
  have hit : ∀ r : List Int, isTupD (rowD r) = true := fun _ => rfl
  have hil : ∀ r : List Int, isLstD (rowD r) = false := fun _ => rfl
  simp only [K_product_of, K_product_of_1, K_product_of_2, e_var, e_cst, e_bin, e_neg, e_cmp, e_cmp2, e_and, e_or, e_not, e_ite, e_tup, e_mkF, e_mkT, e_ix, e_slLo, e_slHi, e_slLH, e_rev, e_call, e_bi, e_isi, es_nil, es_cons, ec_nil, ec_cons, el_disp, el_cat, el_rep, el_list, ew_seq, ew_rng1, ew_rng2, ew_enum, ew_zip, s_expr, s_ret, s_retN, s_set, s_par, s_unp, s_app, s_setIx, s_augIx, s_aug, s_iff, s_while, s_raise, s_pass, s_brk, s_cont, ss_nil, ss_cons, lR_some, bR_ok, bR_ex, tR_ok, tR_ex, sR_nx, sR_rt, sR_bk, sR_ct, sR_xc, endR_rt, endR_nx, endR_xc, kR_t, kR_f, kA_t, kA_f, kA_b, kO_t, kO_f, kO_b, g_0, g_s, st_0, st_s, bT_1, bT_n, tS_1, ss0, ss1, wp0, wp1, permD, intD, truD, Option.map_some, Option.map_none, Option.bind_some, List.getElem?_cons_zero, List.getElem?_cons_succ, List.map_cons, List.map_nil, List.length_cons, List.length_nil, List.cons_append, List.nil_append, List.replicate_succ, List.replicate_zero, Nat.sub_self, fin_same, finX_same, fin_keep, if_true, if_false, reduceIte, el_comp, t_columns h0 hb hn h, hsm, if_pos (lenW_fix (M := M) (xs := a.map rowD) (n := 1000) (by rw [List.length_map]; exact ha))]
  rw [cm_map (fun x => rowD ((colsM b n).map (dotM (unR x)))) fun x hx => by
    obtain ⟨r, hr, rfl⟩ := List.mem_map.mp hx
    simp only [e_var, e_cst, e_bin, e_neg, e_cmp, e_cmp2, e_and, e_or, e_not, e_ite, e_tup, e_mkF, e_mkT, e_ix, e_slLo, e_slHi, e_slLH, e_rev, e_call, e_bi, e_isi, es_nil, es_cons, ec_nil, ec_cons, el_disp, el_cat, el_rep, el_list, ew_seq, ew_rng1, ew_rng2, ew_enum, ew_zip, s_expr, s_ret, s_retN, s_set, s_par, s_unp, s_app, s_setIx, s_augIx, s_aug, s_iff, s_while, s_raise, s_pass, s_brk, s_cont, ss_nil, ss_cons, lR_some, bR_ok, bR_ex, tR_ok, tR_ex, sR_nx, sR_rt, sR_bk, sR_ct, sR_xc, endR_rt, endR_nx, endR_xc, kR_t, kR_f, kA_t, kA_f, kA_b, kO_t, kO_f, kO_b, g_0, g_s, st_0, st_s, bT_1, bT_n, tS_1, ss0, ss1, wp0, wp1, permD, intD, truD, Option.map_some, Option.map_none, Option.bind_some, List.getElem?_cons_zero, List.getElem?_cons_succ, List.map_cons, List.map_nil, List.length_cons, List.length_nil, List.cons_append, List.nil_append, List.replicate_succ, List.replicate_zero, Nat.sub_self, fin_same, finX_same, fin_keep, if_true, if_false, reduceIte, el_comp, hsm, if_pos (lenW_fix (M := M) (xs := (colsM b n).map rowD) (n := 1000) (by rw [List.length_map]; unfold colsM; rw [List.length_map, List.length_range]; exact hn))]
    rw [cm_map (fun y => .int (dotM r (unR y))) fun y hy => by
      obtain ⟨c, hc, rfl⟩ := List.mem_map.mp hy
      obtain ⟨j, _, rfl⟩ := List.mem_map.mp hc
      have hz : lenW M (.zip (.fix (r.map .int)) (.fix ((colM b j).map .int))) ≤ sizeLine := by
        rw [lenW_zip]; unfold zipD; rw [List.length_zipWith, List.length_map, List.length_map]
        have := (ba r hr).1
        exact Nat.le_trans (Nat.min_le_left _ _) (Nat.le_trans this (by decide))
      simp only [e_var, e_cst, e_bin, e_neg, e_cmp, e_cmp2, e_and, e_or, e_not, e_ite, e_tup, e_mkF, e_mkT, e_ix, e_slLo, e_slHi, e_slLH, e_rev, e_call, e_bi, e_isi, es_nil, es_cons, ec_nil, ec_cons, el_disp, el_cat, el_rep, el_list, ew_seq, ew_rng1, ew_rng2, ew_enum, ew_zip, s_expr, s_ret, s_retN, s_set, s_par, s_unp, s_app, s_setIx, s_augIx, s_aug, s_iff, s_while, s_raise, s_pass, s_brk, s_cont, ss_nil, ss_cons, lR_some, bR_ok, bR_ex, tR_ok, tR_ex, sR_nx, sR_rt, sR_bk, sR_ct, sR_xc, endR_rt, endR_nx, endR_xc, kR_t, kR_f, kA_t, kA_f, kA_b, kO_t, kO_f, kO_b, g_0, g_s, st_0, st_s, bT_1, bT_n, tS_1, ss0, ss1, wp0, wp1, permD, intD, truD, Option.map_some, Option.map_none, Option.bind_some, List.getElem?_cons_zero, List.getElem?_cons_succ, List.map_cons, List.map_nil, List.length_cons, List.length_nil, List.cons_append, List.nil_append, List.replicate_succ, List.replicate_zero, Nat.sub_self, fin_same, finX_same, fin_keep, if_true, if_false, reduceIte, el_comp, hsr, hit, hil, Nat.reduceAdd, Nat.reduceLeDiff, Int.cast_ofNat_Int, Int.reduceEq, Int.reduceLE, Int.reduceLT, decide_true, decide_false, Nat.zero_le, Bool.not_true, Bool.not_false, Bool.false_or, Bool.true_or, Bool.or_false, Bool.true_and, Bool.false_and, Bool.and_true, Bool.and_false, Bool.or_true, if_pos hz]
      rw [cm_zip (fun x y => .int (unI x * unI y)) fun x y hx hy => by
        obtain ⟨i, hi, rfl⟩ := List.mem_map.mp hx
        obtain ⟨k, hk, rfl⟩ := List.mem_map.mp hy
        exact ⟨_, rfl, by simp only [e_var, e_cst, e_bin, e_neg, e_cmp, e_cmp2, e_and, e_or, e_not, e_ite, e_tup, e_mkF, e_mkT, e_ix, e_slLo, e_slHi, e_slLH, e_rev, e_call, e_bi, e_isi, es_nil, es_cons, ec_nil, ec_cons, el_disp, el_cat, el_rep, el_list, ew_seq, ew_rng1, ew_rng2, ew_enum, ew_zip, s_expr, s_ret, s_retN, s_set, s_par, s_unp, s_app, s_setIx, s_augIx, s_aug, s_iff, s_while, s_raise, s_pass, s_brk, s_cont, ss_nil, ss_cons, lR_some, bR_ok, bR_ex, tR_ok, tR_ex, sR_nx, sR_rt, sR_bk, sR_ct, sR_xc, endR_rt, endR_nx, endR_xc, kR_t, kR_f, kA_t, kA_f, kA_b, kO_t, kO_f, kO_b, g_0, g_s, st_0, st_s, bT_1, bT_n, tS_1, ss0, ss1, wp0, wp1, permD, intD, truD, Option.map_some, Option.map_none, Option.bind_some, List.getElem?_cons_zero, List.getElem?_cons_succ, List.map_cons, List.map_nil, List.length_cons, List.length_nil, List.cons_append, List.nil_append, List.replicate_succ, List.replicate_zero, Nat.sub_self, fin_same, finX_same, fin_keep, if_true, if_false, reduceIte, bin_mul (mulOk_gd ((ba r hr).2 i hi) (colM_bd bb k hk)), unI]⟩]
      rw [zipWith_ints]
      simp only [e_var, e_cst, e_bin, e_neg, e_cmp, e_cmp2, e_and, e_or, e_not, e_ite, e_tup, e_mkF, e_mkT, e_ix, e_slLo, e_slHi, e_slLH, e_rev, e_call, e_bi, e_isi, es_nil, es_cons, ec_nil, ec_cons, el_disp, el_cat, el_rep, el_list, ew_seq, ew_rng1, ew_rng2, ew_enum, ew_zip, s_expr, s_ret, s_retN, s_set, s_par, s_unp, s_app, s_setIx, s_augIx, s_aug, s_iff, s_while, s_raise, s_pass, s_brk, s_cont, ss_nil, ss_cons, lR_some, bR_ok, bR_ex, tR_ok, tR_ex, sR_nx, sR_rt, sR_bk, sR_ct, sR_xc, endR_rt, endR_nx, endR_xc, kR_t, kR_f, kA_t, kA_f, kA_b, kO_t, kO_f, kO_b, g_0, g_s, st_0, st_s, bT_1, bT_n, tS_1, ss0, ss1, wp0, wp1, permD, intD, truD, Option.map_some, Option.map_none, Option.bind_some, List.getElem?_cons_zero, List.getElem?_cons_succ, List.map_cons, List.map_nil, List.length_cons, List.length_nil, List.cons_append, List.nil_append, List.replicate_succ, List.replicate_zero, Nat.sub_self, fin_same, finX_same, fin_keep, if_true, if_false, reduceIte, bi_sumI, unR_row]
      rfl]
    simp only [e_var, e_cst, e_bin, e_neg, e_cmp, e_cmp2, e_and, e_or, e_not, e_ite, e_tup, e_mkF, e_mkT, e_ix, e_slLo, e_slHi, e_slLH, e_rev, e_call, e_bi, e_isi, es_nil, es_cons, ec_nil, ec_cons, el_disp, el_cat, el_rep, el_list, ew_seq, ew_rng1, ew_rng2, ew_enum, ew_zip, s_expr, s_ret, s_retN, s_set, s_par, s_unp, s_app, s_setIx, s_augIx, s_aug, s_iff, s_while, s_raise, s_pass, s_brk, s_cont, ss_nil, ss_cons, lR_some, bR_ok, bR_ex, tR_ok, tR_ex, sR_nx, sR_rt, sR_bk, sR_ct, sR_xc, endR_rt, endR_nx, endR_xc, kR_t, kR_f, kA_t, kA_f, kA_b, kO_t, kO_f, kO_b, g_0, g_s, st_0, st_s, bT_1, bT_n, tS_1, ss0, ss1, wp0, wp1, permD, intD, truD, Option.map_some, Option.map_none, Option.bind_some, List.getElem?_cons_zero, List.getElem?_cons_succ, List.map_cons, List.map_nil, List.length_cons, List.length_nil, List.cons_append, List.nil_append, List.replicate_succ, List.replicate_zero, Nat.sub_self, fin_same, finX_same, fin_keep, if_true, if_false, reduceIte, bi_tupL, unR_row]
    rw [map_map']
    show some (Rs.ok (D.tup _) M) = some (Rs.ok (D.tup (((colsM b n).map (dotM r)).map .int)) M)
    rw [map_map']
    simp only [unR_row]]
  simp only [e_var, e_cst, e_bin, e_neg, e_cmp, e_cmp2, e_and, e_or, e_not, e_ite, e_tup, e_mkF, e_mkT, e_ix, e_slLo, e_slHi, e_slLH, e_rev, e_call, e_bi, e_isi, es_nil, es_cons, ec_nil, ec_cons, el_disp, el_cat, el_rep, el_list, ew_seq, ew_rng1, ew_rng2, ew_enum, ew_zip, s_expr, s_ret, s_retN, s_set, s_par, s_unp, s_app, s_setIx, s_augIx, s_aug, s_iff, s_while, s_raise, s_pass, s_brk, s_cont, ss_nil, ss_cons, lR_some, bR_ok, bR_ex, tR_ok, tR_ex, sR_nx, sR_rt, sR_bk, sR_ct, sR_xc, endR_rt, endR_nx, endR_xc, kR_t, kR_f, kA_t, kA_f, kA_b, kO_t, kO_f, kO_b, g_0, g_s, st_0, st_s, bT_1, bT_n, tS_1, ss0, ss1, wp0, wp1, permD, intD, truD, Option.map_some, Option.map_none, Option.bind_some, List.getElem?_cons_zero, List.getElem?_cons_succ, List.map_cons, List.map_nil, List.length_cons, List.length_nil, List.cons_append, List.nil_append, List.replicate_succ, List.replicate_zero, Nat.sub_self, fin_same, finX_same, fin_keep, if_true, if_false, reduceIte, bi_tupL]
  rw [map_map']
  show some (Rs.ok (D.tup _) M) = some (Rs.ok (D.tup ((mulM a b n).map rowD)) M)
  unfold mulM colsM
  rw [map_map']
  simp only [unR_row, map_map']
theorem lenD_mx {m : List (List Int)} : lenD M (mx m) = some (.int (m.length : Int)) := by show lenD M (.tup _) = _; rw [lenD_tup, List.length_map]
theorem lenD_row {r : List Int} : lenD M (rowD r) = some (.int (r.length : Int)) := by show lenD M (.tup _) = _; rw [lenD_tup, List.length_map]
theorem getD_lt {α : Type} {l : List α} {i : Nat} {a : α} (h : i < l.length) : l.getD i a = l[i] := by rw [List.getD_eq_getElem?_getD, List.getElem?_eq_getElem h]; rfl
end
end MP

set_option Elab.async false
set_option linter.all false
set_option maxRecDepth 100000
namespace MP
open PySem L2
def KA_matrix_1 : CS := (.set 3 (.mk true (.disp .nil)))
def KA_matrix_2x_1 : CS := (.set 5 (.mk true (.disp .nil)))
def KA_matrix_2x_2x_1 (i_take : Nat) : CS := (.set 7 (.call i_take (.cons (.var 0) (.cons (.cst (.int (4))) .nil)) [0, 1]))
def KA_matrix_2x_2x_2 (i_take : Nat) : CS := (.app (.var 5) (.ite (.cmp .lt (.var 7) (.cst (.int (2)))) (.cst (.int (0))) (.ite (.cmp .eq (.var 7) (.cst (.int (2)))) (.cst (.int (1))) (.bin .add (.cst (.int (1))) (.call i_take (.cons (.var 0) (.cons (.var 2) .nil)) [0, 1])))))
def KA_matrix_2x_2x (i_take : Nat) : CSs := (.cons (KA_matrix_2x_2x_1 i_take) (.cons (KA_matrix_2x_2x_2 i_take) .nil))
def KA_matrix_2x_2 (i_take : Nat) : CS := (.for [6] true (.rng1 (.var 1)) (KA_matrix_2x_2x i_take))
def KA_matrix_2x_3 : CS := (.app (.var 3) (.bi .tuple (.cons (.var 5) .nil)))
def KA_matrix_2x (i_take : Nat) : CSs := (.cons KA_matrix_2x_1 (.cons (KA_matrix_2x_2 i_take) (.cons KA_matrix_2x_3 .nil)))
def KA_matrix_2 (i_take : Nat) : CS := (.for [4] true (.rng1 (.var 1)) (KA_matrix_2x i_take))
def KA_matrix_3 : CS := (.ret (.bi .tuple (.cons (.var 3) .nil)))
def KA_matrix (i_take : Nat) : CSs := (.cons KA_matrix_1 (.cons (KA_matrix_2 i_take) (.cons KA_matrix_3 .nil)))
def KA_essential_1 (i_matrix : Nat) : CS := (.set 3 (.mk false (.comp (.seq (.call i_matrix (.cons (.var 0) (.cons (.var 1) (.cons (.var 2) .nil))) [0, 1, 2])) [7] true .nil (.mk true (.list (.var 7))) [7])))
def KA_essential_2x_1 (i_take : Nat) : CS := (.par [5, 6] (.cons (.ix (.var 3) (.var 4)) (.cons (.ix (.var 3) (.call i_take (.cons (.var 0) (.cons (.var 1) .nil)) [0, 1])) .nil)))
def KA_essential_2x_2a_1 (i_take : Nat) : CS := (.setIx (.var 5) (.call i_take (.cons (.var 0) (.cons (.var 1) .nil)) [0, 1]) (.cst (.int (1))))
def KA_essential_2x_2a (i_take : Nat) : CSs := (.cons (KA_essential_2x_2a_1 i_take) .nil)
def KA_essential_2x_2 (i_take : Nat) : CS := (.iff (.cmp .eq (.bi .sum (.cons (.var 5) .nil)) (.cst (.int (0)))) (KA_essential_2x_2a i_take) .nil)
def KA_essential_2x_3a_1 : CS := (.setIx (.var 6) (.var 4) (.cst (.int (1))))
def KA_essential_2x_3a : CSs := (.cons KA_essential_2x_3a_1 .nil)
def KA_essential_2x_3 : CS := (.iff (.cmp .eq (.bi .sum (.cons (.mk false (.comp (.seq (.var 3)) [7] true .nil (.ix (.var 7) (.var 4)) [7])) .nil)) (.cst (.int (0)))) KA_essential_2x_3a .nil)
def KA_essential_2x (i_take : Nat) : CSs := (.cons (KA_essential_2x_1 i_take) (.cons (KA_essential_2x_2 i_take) (.cons KA_essential_2x_3 .nil)))
def KA_essential_2 (i_take : Nat) : CS := (.for [4] true (.rng1 (.var 1)) (KA_essential_2x i_take))
def KA_essential_3 : CS := (.ret (.bi .tuple (.cons (.mk false (.comp (.seq (.var 3)) [7] true .nil (.bi .tuple (.cons (.var 7) .nil)) [7])) .nil)))
def KA_essential (i_matrix i_take : Nat) : CSs := (.cons (KA_essential_1 i_matrix) (.cons (KA_essential_2 i_take) (.cons KA_essential_3 .nil)))
def KA_part_rows_1 (i_take : Nat) : CS := (.set 3 (.bin .add (.cst (.int (1))) (.call i_take (.cons (.var 0) (.cons (.bi .min2 (.cons (.var 2) (.cons (.bi .sum (.cons (.var 1) .nil)) .nil))) .nil)) [0, 1])))
def KA_part_rows_2 : CS := (.set 4 (.mk false (.disp .nil)))
def KA_part_rows_3x_1 : CS := (.set 4 (.bin .add (.var 4) (.bin .mul (.mk false (.disp (.cons (.var 5) .nil))) (.ix (.var 1) (.var 5)))))
def KA_part_rows_3x : CSs := (.cons KA_part_rows_3x_1 .nil)
def KA_part_rows_3 : CS := (.for [5] true (.rng1 (.bi .len (.cons (.var 1) .nil))) KA_part_rows_3x)
def KA_part_rows_4 : CS := (.set 6 (.mk false (.comp (.rng1 (.var 3)) [10] true .nil (.mk true (.rep (.mk true (.disp (.cons (.cst (.int (0))) .nil))) (.bi .len (.cons (.var 1) .nil)))) [10])))
def KA_part_rows_5x_1 (i_take : Nat) : CS := (.set 8 (.ix (.var 6) (.ite (.cmp .lt (.var 7) (.var 3)) (.var 7) (.call i_take (.cons (.var 0) (.cons (.var 3) .nil)) [0, 1]))))
def KA_part_rows_5x_2 : CS := (.augIx .add (.var 8) (.ix (.var 4) (.var 7)) (.cst (.int (1))))
def KA_part_rows_5x (i_take : Nat) : CSs := (.cons (KA_part_rows_5x_1 i_take) (.cons KA_part_rows_5x_2 .nil))
def KA_part_rows_5 (i_take : Nat) : CS := (.for [7] true (.rng1 (.bi .len (.cons (.var 4) .nil))) (KA_part_rows_5x i_take))
def KA_part_rows_6 (i_take : Nat) : CS := (.set 9 (.call i_take (.cons (.var 0) (.cons (.var 3) .nil)) [0, 1]))
def KA_part_rows_7 : CS := (.ret (.bi .tuple (.cons (.mk false (.comp (.seq (.bin .add (.slLo (.var 6) (.var 9)) (.slHi (.var 6) (.var 9)))) [8] true .nil (.bi .tuple (.cons (.var 8) .nil)) [8])) .nil)))
def KA_part_rows (i_take : Nat) : CSs := (.cons (KA_part_rows_1 i_take) (.cons KA_part_rows_2 (.cons KA_part_rows_3 (.cons KA_part_rows_4 (.cons (KA_part_rows_5 i_take) (.cons (KA_part_rows_6 i_take) (.cons KA_part_rows_7 .nil)))))))
section
variable {wf d : Nat} {M : MH} {P : Nat → Option FD} {i0 i1 i2 i3 i4 iT : Nat}
/-- a loop whose turns draw and put one item behind the list at Rw -/
theorem loop_app {f : D → Env → Se} {k Rw : Nat} {ns : List Int} {c KB : Int} {Q : D → Prop} {J : Env → Prop} (hc : 0 ≤ c) : ∀ (xs : List D) (ρ : Env) (M : MH) (K : Int) (ps : List D),
    (∀ x ∈ xs, ∀ ρ M K ps, J ρ → PotAt M k ns K → K + c ≤ KB → M[Rw]? = some (.lst ps) → ps.length < 1000 → ∃ ρ' M' y, f x ρ M = some (.nx, ρ', M') ∧ J ρ' ∧ PotAt M' k ns (K + c) ∧ M'[Rw]? = some (.lst (ps ++ [y])) ∧ Q y ∧ M.length ≤ M'.length ∧ ∀ m, m < M.length → m ≠ k → m ≠ Rw → M'[m]? = M[m]?) →
    J ρ → PotAt M k ns K → K + c * xs.length ≤ KB → M[Rw]? = some (.lst ps) → ps.length + xs.length ≤ 1000 →
    ∃ ρ' M' qs, forE f xs ρ M = some (.nx, ρ', M') ∧ J ρ' ∧ PotAt M' k ns (K + c * xs.length) ∧ M'[Rw]? = some (.lst (ps ++ qs)) ∧ qs.length = xs.length ∧ (∀ y ∈ qs, Q y) ∧ M.length ≤ M'.length ∧ ∀ m, m < M.length → m ≠ k → m ≠ Rw → M'[m]? = M[m]?
  | [], ρ, M, K, ps, _, hJ, hp, hK, hR, hl => ⟨ρ, M, [], rfl, hJ, hp.mono (by simp), by rw [List.append_nil]; exact hR, rfl, fun y hy => absurd hy (by simp), Nat.le_refl _, fun _ _ _ _ => rfl⟩
  | x :: xs, ρ, M, K, ps, st, hJ, hp, hK, hR, hl => by
    rw [List.length_cons] at hK hl
    have e0 : c * ((xs.length + 1 : Nat) : Int) = c + c * xs.length := by rw [Int.natCast_add, Int.mul_add]; omega
    rw [e0] at hK
    have h0 : 0 ≤ c * (xs.length : Int) := Int.mul_nonneg hc (by omega)
    obtain ⟨ρ1, M1, y, e1, j1, p1, g1, q1, l1, o1⟩ := st x List.mem_cons_self ρ M K ps hJ hp (by omega) hR (by omega)
    obtain ⟨ρ2, M2, qs, e2, j2, p2, g2, l2, q2, m2, o2⟩ := loop_app hc xs ρ1 M1 (K + c) (ps ++ [y]) (fun z hz => st z (List.mem_cons_of_mem _ hz)) j1 p1 (by omega) g1 (by rw [List.length_append]; simp; omega)
    refine ⟨ρ2, M2, y :: qs, ?_, j2, p2.mono ?_, by rw [g2, List.append_assoc]; rfl, by rw [List.length_cons, l2, List.length_cons], fun z hz => ?_, Nat.le_trans l1 m2, fun m h1 h2 h3 => (o2 m (by omega) h2 h3).trans (o1 m h1 h2 h3)⟩
    · rw [forE]
      simp only [e1]
      exact e2
    · rw [List.length_cons, e0]; omega
    · rcases List.mem_cons.mp hz with rfl | hz
      · exact q1
      · exact q2 z hz
theorem bi_tupR {n : Nat} {xs : List D} (h : M[n]? = some (.lst xs)) : biD M .tuple [.ref n] = some (.tup xs) := by
  show tupD M (.ref n) = _
  unfold tupD
  simp only [lstOf_ref h, Option.map_some]
/-- entries within 0 .. far -/
def rowIn (many : Nat) (far : Int) (y : D) : Prop := ∃ r : List Int, y = rowD r ∧ r.length = many ∧ ∀ x ∈ r, 0 ≤ x ∧ x ≤ far
theorem rows_of {P : List Int → Prop} : ∀ {qs : List D}, (∀ y ∈ qs, ∃ r : List Int, y = rowD r ∧ P r) → ∃ m : List (List Int), qs = m.map rowD ∧ m.length = qs.length ∧ ∀ r ∈ m, P r
  | [], _ => ⟨[], rfl, rfl, fun _ h => absurd h (by simp)⟩
  | y :: qs, h => by
    obtain ⟨r, rfl, h1⟩ := h y List.mem_cons_self
    obtain ⟨m, rfl, h2, h3⟩ := rows_of (qs := qs) fun z hz => h z (List.mem_cons_of_mem _ hz)
    exact ⟨r :: m, rfl, by rw [List.length_cons, List.length_cons, h2], fun z hz => by
      rcases List.mem_cons.mp hz with rfl | hz
      · exact h1
      · exact h3 z hz⟩
theorem ints_of {P : Int → Prop} : ∀ {qs : List D}, (∀ y ∈ qs, ∃ i : Int, y = .int i ∧ P i) → ∃ r : List Int, qs = r.map .int ∧ r.length = qs.length ∧ ∀ i ∈ r, P i
  | [], _ => ⟨[], rfl, rfl, fun _ h => absurd h (by simp)⟩
  | y :: qs, h => by
    obtain ⟨r, rfl, h1⟩ := h y List.mem_cons_self
    obtain ⟨m, rfl, h2, h3⟩ := ints_of (qs := qs) fun z hz => h z (List.mem_cons_of_mem _ hz)
    exact ⟨r :: m, rfl, by rw [List.length_cons, List.length_cons, h2], fun z hz => by
      rcases List.mem_cons.mp hz with rfl | hz
      · exact h1
      · exact h3 z hz⟩
theorem matrix_turn {k b Rw : Nat} {ns : List Int} {many far : Int} (hT : P iT = some ⟨2, 5, KA_take, false⟩) (hn : ns.length ≤ 100) (hf : 1 ≤ far) (hf2 : far ≤ 1000) (hb : b ≤ Rw) (hkR : k ≠ Rw) {x3 x4 : Option D} :
    ∀ x : D, ∀ (ρ : Env) (M : MH) (K : Int) (ps : List D), (∃ x6 x7, ρ = [some (.ref k), some (.int many), some (.int far), x3, x4, some (.ref Rw), x6, x7]) → PotAt M k ns K → K + 2 ≤ 1000000 → M[Rw]? = some (.lst ps) → ps.length < 1000 →
      ∃ ρ' M' y, turnS (evF P wf (d + 1)) b wf [6] true (KA_matrix_2x_2x iT) x ρ M = some (.nx, ρ', M') ∧ (∃ x6 x7, ρ' = [some (.ref k), some (.int many), some (.int far), x3, x4, some (.ref Rw), x6, x7]) ∧ PotAt M' k ns (K + 2) ∧ M'[Rw]? = some (.lst (ps ++ [y])) ∧ (∃ i : Int, y = .int i ∧ 0 ≤ i ∧ i ≤ far) ∧ M.length ≤ M'.length ∧
        ∀ m, m < M.length → m ≠ k → m ≠ Rw → M'[m]? = M[m]? := by
  intro x ρ M K ps ⟨x6, x7, hρ⟩ hp hK hR hl
  subst hρ
  obtain ⟨kind, M1, e1, a1, b1, p1, o1⟩ := take_ok (wf := wf) (d := d) (many := 4) hT hp hn (by omega) (by decide) (by decide)
  have hR1 : M1[Rw]? = some (.lst ps) := by rw [o1.2 Rw (Ne.symm hkR)]; exact hR
  obtain ⟨v, M2, e2, a2, b2, p2, o2⟩ := take_ok (wf := wf) (d := d) (many := far) hT p1 hn (by omega) (by omega) (by omega)
  have hR2 : M2[Rw]? = some (.lst ps) := by rw [o2.2 Rw (Ne.symm hkR)]; exact hR1
  have sz : ps.length < sizeLine := Nat.lt_of_lt_of_le hl (by decide)
  have hp2 : ∀ {M' : MH} {K' : Int}, PotAt M' k ns K' → PotAt (M'.set Rw (.lst (ps ++ [.int 0]))) k ns K' := fun h => h.other (List.getElem?_set_ne (Ne.symm hkR))
  have fin : ∀ {M' : MH} {y : D} {K' : Int}, PotAt M' k ns K' → K' ≤ K + 2 → M'[Rw]? = some (.lst ps) → Only M k M' → PotAt (M'.set Rw (.lst (ps ++ [y]))) k ns (K + 2) ∧ (M'.set Rw (.lst (ps ++ [y])))[Rw]? = some (.lst (ps ++ [y])) ∧ M.length ≤ (M'.set Rw (.lst (ps ++ [y]))).length ∧ ∀ m, m < M.length → m ≠ k → m ≠ Rw → (M'.set Rw (.lst (ps ++ [y])))[m]? = M[m]? := fun h hk hr o =>
    ⟨(h.mono hk).other (List.getElem?_set_ne (Ne.symm hkR)), set_get hr, by rw [List.length_set, o.1]; exact Nat.le_refl _, fun m _ h2 h3 => by rw [List.getElem?_set_ne (Ne.symm h3), o.2 m h2]⟩
  simp only [turnS, KA_matrix_2x_2x, KA_matrix_2x_2x_1, KA_matrix_2x_2x_2, e_var, e_cst, e_bin, e_neg, e_cmp, e_cmp2, e_and, e_or, e_not, e_ite, e_tup, e_mkF, e_mkT, e_ix, e_slLo, e_slHi, e_slLH, e_rev, e_call, e_bi, e_isi, es_nil, es_cons, ec_nil, ec_cons, el_disp, el_cat, el_rep, el_list, ew_seq, ew_rng1, ew_rng2, ew_enum, ew_zip, s_expr, s_ret, s_retN, s_set, s_par, s_unp, s_app, s_setIx, s_augIx, s_aug, s_iff, s_while, s_raise, s_pass, s_brk, s_cont, ss_nil, ss_cons, lR_some, bR_ok, bR_ex, tR_ok, tR_ex, sR_nx, sR_rt, sR_bk, sR_ct, sR_xc, endR_rt, endR_nx, endR_xc, kR_t, kR_f, kA_t, kA_f, kA_b, kO_t, kO_f, kO_b, g_0, g_s, st_0, st_s, bT_1, bT_n, tS_1, ss0, ss1, wp0, wp1, permD, intD, truD, Option.map_some, Option.map_none, Option.bind_some, List.getElem?_cons_zero, List.getElem?_cons_succ, List.map_cons, List.map_nil, List.length_cons, List.length_nil, List.cons_append, List.nil_append, List.replicate_succ, List.replicate_zero, Nat.sub_self, fin_same, finX_same, fin_keep, if_true, if_false, reduceIte, Nat.reduceAdd, Nat.reduceLeDiff, Int.cast_ofNat_Int, Int.reduceEq, Int.reduceLE, Int.reduceLT, decide_true, decide_false, Nat.zero_le, Bool.not_true, Bool.not_false, Bool.false_or, Bool.true_or, Bool.or_false, Bool.true_and, Bool.false_and, Bool.and_true, Bool.and_false, e1, lstOf_ref hR1, cmp_lt, cmp_eqI]
  by_cases c1 : kind < 2
  · simp only [decide_eq_true c1, e_var, e_cst, e_bin, e_neg, e_cmp, e_cmp2, e_and, e_or, e_not, e_ite, e_tup, e_mkF, e_mkT, e_ix, e_slLo, e_slHi, e_slLH, e_rev, e_call, e_bi, e_isi, es_nil, es_cons, ec_nil, ec_cons, el_disp, el_cat, el_rep, el_list, ew_seq, ew_rng1, ew_rng2, ew_enum, ew_zip, s_expr, s_ret, s_retN, s_set, s_par, s_unp, s_app, s_setIx, s_augIx, s_aug, s_iff, s_while, s_raise, s_pass, s_brk, s_cont, ss_nil, ss_cons, lR_some, bR_ok, bR_ex, tR_ok, tR_ex, sR_nx, sR_rt, sR_bk, sR_ct, sR_xc, endR_rt, endR_nx, endR_xc, kR_t, kR_f, kA_t, kA_f, kA_b, kO_t, kO_f, kO_b, g_0, g_s, st_0, st_s, bT_1, bT_n, tS_1, ss0, ss1, wp0, wp1, permD, intD, truD, Option.map_some, Option.map_none, Option.bind_some, List.getElem?_cons_zero, List.getElem?_cons_succ, List.map_cons, List.map_nil, List.length_cons, List.length_nil, List.cons_append, List.nil_append, List.replicate_succ, List.replicate_zero, Nat.sub_self, fin_same, finX_same, fin_keep, if_true, if_false, reduceIte, Nat.reduceAdd, Nat.reduceLeDiff, Int.cast_ofNat_Int, Int.reduceEq, Int.reduceLE, Int.reduceLT, decide_true, decide_false, Nat.zero_le, Bool.not_true, Bool.not_false, Bool.false_or, Bool.true_or, Bool.or_false, Bool.true_and, Bool.false_and, Bool.and_true, Bool.and_false, app_ok hR1 sz (.inl hb)]
    obtain ⟨z1, z2, z3, z4⟩ := fin (y := .int 0) p1 (by omega) hR1 o1
    exact ⟨_, _, _, rfl, ⟨_, _, rfl⟩, z1, z2, ⟨0, rfl, by omega, by omega⟩, z3, z4⟩
  · by_cases c2 : kind = 2
    · simp only [decide_eq_false c1, decide_eq_true c2, e_var, e_cst, e_bin, e_neg, e_cmp, e_cmp2, e_and, e_or, e_not, e_ite, e_tup, e_mkF, e_mkT, e_ix, e_slLo, e_slHi, e_slLH, e_rev, e_call, e_bi, e_isi, es_nil, es_cons, ec_nil, ec_cons, el_disp, el_cat, el_rep, el_list, ew_seq, ew_rng1, ew_rng2, ew_enum, ew_zip, s_expr, s_ret, s_retN, s_set, s_par, s_unp, s_app, s_setIx, s_augIx, s_aug, s_iff, s_while, s_raise, s_pass, s_brk, s_cont, ss_nil, ss_cons, lR_some, bR_ok, bR_ex, tR_ok, tR_ex, sR_nx, sR_rt, sR_bk, sR_ct, sR_xc, endR_rt, endR_nx, endR_xc, kR_t, kR_f, kA_t, kA_f, kA_b, kO_t, kO_f, kO_b, g_0, g_s, st_0, st_s, bT_1, bT_n, tS_1, ss0, ss1, wp0, wp1, permD, intD, truD, Option.map_some, Option.map_none, Option.bind_some, List.getElem?_cons_zero, List.getElem?_cons_succ, List.map_cons, List.map_nil, List.length_cons, List.length_nil, List.cons_append, List.nil_append, List.replicate_succ, List.replicate_zero, Nat.sub_self, fin_same, finX_same, fin_keep, if_true, if_false, reduceIte, Nat.reduceAdd, Nat.reduceLeDiff, Int.cast_ofNat_Int, Int.reduceEq, Int.reduceLE, Int.reduceLT, decide_true, decide_false, Nat.zero_le, Bool.not_true, Bool.not_false, Bool.false_or, Bool.true_or, Bool.or_false, Bool.true_and, Bool.false_and, Bool.and_true, Bool.and_false, cmp_eqI, app_ok hR1 sz (.inl hb)]
      obtain ⟨z1, z2, z3, z4⟩ := fin (y := .int 1) p1 (by omega) hR1 o1
      exact ⟨_, _, _, rfl, ⟨_, _, rfl⟩, z1, z2, ⟨1, rfl, by omega, by omega⟩, z3, z4⟩
    · simp only [decide_eq_false c1, decide_eq_false c2, e_var, e_cst, e_bin, e_neg, e_cmp, e_cmp2, e_and, e_or, e_not, e_ite, e_tup, e_mkF, e_mkT, e_ix, e_slLo, e_slHi, e_slLH, e_rev, e_call, e_bi, e_isi, es_nil, es_cons, ec_nil, ec_cons, el_disp, el_cat, el_rep, el_list, ew_seq, ew_rng1, ew_rng2, ew_enum, ew_zip, s_expr, s_ret, s_retN, s_set, s_par, s_unp, s_app, s_setIx, s_augIx, s_aug, s_iff, s_while, s_raise, s_pass, s_brk, s_cont, ss_nil, ss_cons, lR_some, bR_ok, bR_ex, tR_ok, tR_ex, sR_nx, sR_rt, sR_bk, sR_ct, sR_xc, endR_rt, endR_nx, endR_xc, kR_t, kR_f, kA_t, kA_f, kA_b, kO_t, kO_f, kO_b, g_0, g_s, st_0, st_s, bT_1, bT_n, tS_1, ss0, ss1, wp0, wp1, permD, intD, truD, Option.map_some, Option.map_none, Option.bind_some, List.getElem?_cons_zero, List.getElem?_cons_succ, List.map_cons, List.map_nil, List.length_cons, List.length_nil, List.cons_append, List.nil_append, List.replicate_succ, List.replicate_zero, Nat.sub_self, fin_same, finX_same, fin_keep, if_true, if_false, reduceIte, Nat.reduceAdd, Nat.reduceLeDiff, Int.cast_ofNat_Int, Int.reduceEq, Int.reduceLE, Int.reduceLT, decide_true, decide_false, Nat.zero_le, Bool.not_true, Bool.not_false, Bool.false_or, Bool.true_or, Bool.or_false, Bool.true_and, Bool.false_and, Bool.and_true, Bool.and_false, cmp_eqI, e2, bin_add, app_ok hR2 sz (.inl hb)]
      obtain ⟨z1, z2, z3, z4⟩ := fin (y := .int (1 + v)) p2 (by omega) hR2 (o1.trans o2)
      exact ⟨_, _, _, rfl, ⟨_, _, rfl⟩, z1, z2, ⟨1 + v, rfl, by omega, by omega⟩, z3, z4⟩
theorem t_matrix {k : Nat} {ns : List Int} {K far : Int} {many : Nat} (hT : P iT = some ⟨2, 5, KA_take, false⟩) (h0 : P i0 = some ⟨3, 8, KA_matrix iT, false⟩) (hn : ns.length ≤ 100) (hf : 1 ≤ far) (hf2 : far ≤ 1000) (hm : many ≤ 20) (hp : PotAt M k ns K) (hK : K ≤ 900000) (hk : k < M.length) :
    ∃ m M', evF P wf (d + 2) i0 [.ref k, .int (many : Int), .int far] M = some (.ok (mx m) M') ∧ m.length = many ∧ (∀ r ∈ m, r.length = many ∧ ∀ x ∈ r, 0 ≤ x ∧ x ≤ far) ∧ PotAt M' k ns (K + 1000) ∧ Only M k M' := by
  rw [evF_eq h0 rfl]
  have z0 : (0 : Nat) ≤ sizeLine := Nat.zero_le _
  have hro : ∀ M : MH, rngR 0 (many : Int) M = some (.ok (.one (.fix (rangeD 0 (many : Int)))) M) := fun M => rngR_0 (Nat.lt_of_le_of_lt hm (by decide))
  -- the loop over the rows
  have outer : ∀ x : D, ∀ (ρ : Env) (M1 : MH) (K : Int) (ps : List D), (∃ x4 x5 x6 x7, ρ = [some (.ref k), some (.int (many : Int)), some (.int far), some (.ref M.length), x4, x5, x6, x7]) → PotAt M1 k ns K → K + 40 ≤ 1000000 → M1[M.length]? = some (.lst ps) → ps.length < 1000 →
      ∃ ρ' M' y, turnS (evF P wf (d + 1)) M.length wf [4] true (KA_matrix_2x iT) x ρ M1 = some (.nx, ρ', M') ∧ (∃ x4 x5 x6 x7, ρ' = [some (.ref k), some (.int (many : Int)), some (.int far), some (.ref M.length), x4, x5, x6, x7]) ∧ PotAt M' k ns (K + 40) ∧ M'[M.length]? = some (.lst (ps ++ [y])) ∧ rowIn many far y ∧ M1.length ≤ M'.length ∧
        ∀ m, m < M1.length → m ≠ k → m ≠ M.length → M'[m]? = M1[m]? := by
    intro x ρ M1 K ps ⟨x4, x5, x6, x7, hρ⟩ hp hK hR hl
    subst hρ
    have hlt : M.length < M1.length := (List.getElem?_eq_some_iff.mp hR).1
    have hR1 : (M1 ++ [MO.lst []])[M1.length]? = some (.lst []) := app_get
    obtain ⟨ρ', M2, qs, e, ⟨y6, y7, rfl⟩, q2, q3, q4, q5, q6, q7⟩ := loop_app (f := turnS (evF P wf (d + 1)) M.length wf [6] true (KA_matrix_2x_2x iT)) (c := 2) (by decide) (rangeD 0 (many : Int)) [some (.ref k), some (.int (many : Int)), some (.int far), some (.ref M.length), some x, some (.ref M1.length), x6, x7] (M1 ++ [MO.lst []]) K []
      (fun z _ => matrix_turn (Rw := M1.length) hT hn hf hf2 (by omega) (by omega) (x3 := some (.ref M.length)) (x4 := some x) z) ⟨_, _, rfl⟩ (hp.other (List.getElem?_append_left (by omega))) (by rw [len_range]; omega) hR1 (by rw [len_range]; simp; omega)
    rw [List.nil_append] at q3
    rw [len_range] at q4 q2
    rw [List.length_append] at q6 q7
    obtain ⟨r, rfl, r1, r2⟩ := ints_of q5
    have hR2 : M2[M.length]? = some (.lst ps) := by
      rw [q7 M.length (by omega) (by omega) (by omega), List.getElem?_append_left hlt]; exact hR
    simp only [turnS, KA_matrix_2x, KA_matrix_2x_1, KA_matrix_2x_2, KA_matrix_2x_3, e_var, e_cst, e_bin, e_neg, e_cmp, e_cmp2, e_and, e_or, e_not, e_ite, e_tup, e_mkF, e_mkT, e_ix, e_slLo, e_slHi, e_slLH, e_rev, e_call, e_bi, e_isi, es_nil, es_cons, ec_nil, ec_cons, el_disp, el_cat, el_rep, el_list, ew_seq, ew_rng1, ew_rng2, ew_enum, ew_zip, s_expr, s_ret, s_retN, s_set, s_par, s_unp, s_app, s_setIx, s_augIx, s_aug, s_iff, s_while, s_raise, s_pass, s_brk, s_cont, ss_nil, ss_cons, lR_some, bR_ok, bR_ex, tR_ok, tR_ex, sR_nx, sR_rt, sR_bk, sR_ct, sR_xc, endR_rt, endR_nx, endR_xc, kR_t, kR_f, kA_t, kA_f, kA_b, kO_t, kO_f, kO_b, g_0, g_s, st_0, st_s, bT_1, bT_n, tS_1, ss0, ss1, wp0, wp1, permD, intD, truD, Option.map_some, Option.map_none, Option.bind_some, List.getElem?_cons_zero, List.getElem?_cons_succ, List.map_cons, List.map_nil, List.length_cons, List.length_nil, List.cons_append, List.nil_append, List.replicate_succ, List.replicate_zero, Nat.sub_self, fin_same, finX_same, fin_keep, if_true, if_false, reduceIte, Nat.reduceAdd, Nat.reduceLeDiff, Int.cast_ofNat_Int, Int.reduceEq, Int.reduceLE, Int.reduceLT, decide_true, decide_false, Nat.zero_le, Bool.not_true, Bool.not_false, Bool.false_or, Bool.true_or, Bool.or_false, Bool.true_and, Bool.false_and, Bool.and_true, Bool.and_false, if_pos z0, s_for, hro, forW_fix0, e, lstOf_ref hR2, bi_tupR q3, app_ok hR2 (Nat.lt_of_lt_of_le hl (by decide)) (.inl (Nat.le_refl _))]
    refine ⟨_, _, _, rfl, ⟨_, _, _, _, rfl⟩, (q2.mono (by omega)).other (List.getElem?_set_ne (by omega)), set_get hR2, ⟨r, rfl, by rw [r1, q4], r2⟩, by rw [List.length_set]; omega, fun m h1 h2 h3 => ?_⟩
    rw [List.getElem?_set_ne (Ne.symm h3), q7 m (by omega) h2 (by omega), List.getElem?_append_left h1]
  obtain ⟨ρ', M2, qs, e, ⟨y4, y5, y6, y7, rfl⟩, q2, q3, q4, q5, q6, q7⟩ := loop_app (c := 40) (by decide) (rangeD 0 (many : Int)) [some (.ref k), some (.int (many : Int)), some (.int far), some (.ref M.length), none, none, none, none] (M ++ [MO.lst []]) K []
    (fun z _ => outer z) ⟨_, _, _, _, rfl⟩ (hp.other (List.getElem?_append_left hk)) (by rw [len_range]; omega) app_get (by rw [len_range]; simp; omega)
  rw [List.nil_append] at q3
  rw [len_range] at q4 q2
  rw [List.length_append] at q6 q7
  obtain ⟨m, rfl, r1, r2⟩ := rows_of q5
  refine ⟨m, M2.take M.length, ?_, by rw [r1, q4], r2, ?_, take_same (by omega) fun m h1 h2 => ?_⟩
  · simp only [KA_matrix, KA_matrix_1, KA_matrix_2, KA_matrix_3, e_var, e_cst, e_bin, e_neg, e_cmp, e_cmp2, e_and, e_or, e_not, e_ite, e_tup, e_mkF, e_mkT, e_ix, e_slLo, e_slHi, e_slLH, e_rev, e_call, e_bi, e_isi, es_nil, es_cons, ec_nil, ec_cons, el_disp, el_cat, el_rep, el_list, ew_seq, ew_rng1, ew_rng2, ew_enum, ew_zip, s_expr, s_ret, s_retN, s_set, s_par, s_unp, s_app, s_setIx, s_augIx, s_aug, s_iff, s_while, s_raise, s_pass, s_brk, s_cont, ss_nil, ss_cons, lR_some, bR_ok, bR_ex, tR_ok, tR_ex, sR_nx, sR_rt, sR_bk, sR_ct, sR_xc, endR_rt, endR_nx, endR_xc, kR_t, kR_f, kA_t, kA_f, kA_b, kO_t, kO_f, kO_b, g_0, g_s, st_0, st_s, bT_1, bT_n, tS_1, ss0, ss1, wp0, wp1, permD, intD, truD, Option.map_some, Option.map_none, Option.bind_some, List.getElem?_cons_zero, List.getElem?_cons_succ, List.map_cons, List.map_nil, List.length_cons, List.length_nil, List.cons_append, List.nil_append, List.replicate_succ, List.replicate_zero, Nat.sub_self, fin_same, finX_same, fin_keep, if_true, if_false, reduceIte, Nat.reduceAdd, Nat.reduceLeDiff, Int.cast_ofNat_Int, Int.reduceEq, Int.reduceLE, Int.reduceLT, decide_true, decide_false, Nat.zero_le, Bool.not_true, Bool.not_false, Bool.false_or, Bool.true_or, Bool.or_false, Bool.true_and, Bool.false_and, Bool.and_true, Bool.and_false, if_pos z0, s_for, hro, forW_fix0, e, bi_tupR q3]
    exact fin_clo (clo_mx m) rfl
  · refine (q2.mono (by omega)).other ?_
    rw [List.getElem?_take_of_lt hk]
  · rw [q7 m (by simp; omega) h2 (by omega), List.getElem?_append_left h1]
end
end MP

set_option Elab.async false
set_option linter.all false
set_option maxRecDepth 100000
namespace MP
open PySem L2
/-- a draw, as a natural number -/
theorem takeN {wf d : Nat} {M : MH} {P : Nat → Option FD} {iT n many : Nat} {ns : List Int} {K : Int} (hT : P iT = some ⟨2, 5, KA_take, false⟩) (hp : PotAt M n ns K) (hn : ns.length ≤ 100) (hK : K ≤ 1000000) (hm : 0 < many) (hm2 : many ≤ 1000000) :
    ∃ (r : Nat) (M' : MH), evF P wf (d + 1) iT [.ref n, .int (many : Int)] M = some (.ok (.int (r : Int)) M') ∧ r < many ∧ PotAt M' n ns (K + 1) ∧ Only M n M' := by
  obtain ⟨r, M', e, a, b, p, o⟩ := take_ok (wf := wf) (d := d) (many := (many : Int)) hT hp hn hK (by omega) (by omega)
  obtain ⟨k, rfl⟩ : ∃ k : Nat, r = (k : Int) := ⟨r.toNat, by omega⟩
  exact ⟨k, M', e, by omega, p, o⟩
/-! ### sums -/
theorem sum_set : ∀ {l : List Int} {i : Nat} {v : Int}, i < l.length → (l.set i v).sum = l.sum - l.getD i 0 + v
  | x :: l, 0, v, _ => by simp; omega
  | x :: l, i + 1, v, h => by
    have := sum_set (l := l) (i := i) (v := v) (by simpa using h)
    simp only [List.set_cons_succ, List.sum_cons, this, List.getD_cons_succ]
    omega
theorem sum_nn : ∀ {l : List Int}, (∀ x ∈ l, 0 ≤ x) → 0 ≤ l.sum
  | [], _ => Int.le_refl 0
  | x :: l, h => by
    have h1 := h x List.mem_cons_self
    have h2 := sum_nn (l := l) fun y hy => h y (List.mem_cons_of_mem _ hy)
    rw [List.sum_cons]; omega
theorem mem_le_sum : ∀ {l : List Int}, (∀ x ∈ l, 0 ≤ x) → ∀ x ∈ l, x ≤ l.sum
  | y :: l, h, x, hx => by
    have h1 := h y List.mem_cons_self
    have h2 := sum_nn (l := l) fun z hz => h z (List.mem_cons_of_mem _ hz)
    rw [List.sum_cons]
    rcases List.mem_cons.mp hx with rfl | hx
    · omega
    · have := mem_le_sum (l := l) (fun z hz => h z (List.mem_cons_of_mem _ hz)) x hx
      omega
theorem pos_mem : ∀ {l : List Int}, 0 < l.sum → ∃ i, ∃ h : i < l.length, 0 < l[i]
  | [], h => absurd h (by decide)
  | x :: l, h => by
    by_cases hx : 0 < x
    · exact ⟨0, by simp, hx⟩
    · rw [List.sum_cons] at h
      obtain ⟨i, hi, h1⟩ := pos_mem (l := l) (by omega)
      exact ⟨i + 1, by simpa using hi, by simpa using h1⟩
theorem getD_mem {l : List Int} {i : Nat} (h : i < l.length) : l.getD i 0 ∈ l := by rw [getD_lt h]; exact List.getElem_mem h
theorem getD_ge {l : List Int} {i : Nat} (h : l.length ≤ i) : l.getD i 0 = 0 := by rw [List.getD_eq_getElem?_getD, List.getElem?_eq_none h]; rfl
theorem getD_set {α : Type} {l : List α} {i j : Nat} {v a : α} : (l.set i v).getD j a = if i = j ∧ i < l.length then v else l.getD j a := by
  rw [List.getD_eq_getElem?_getD, List.getD_eq_getElem?_getD, List.getElem?_set]
  by_cases h : i = j
  · subst h
    by_cases h2 : i < l.length
    · rw [if_pos rfl, if_pos h2, if_pos ⟨rfl, h2⟩]; rfl
    · rw [if_pos rfl, if_neg h2, if_neg (fun z => h2 z.2), List.getElem?_eq_none (by omega)]
  · rw [if_neg h, if_neg (fun z => h z.1)]
/-- square, entries within 0 .. far -/
def Sh (many : Nat) (far : Int) (m : List (List Int)) : Prop := m.length = many ∧ ∀ r ∈ m, r.length = many ∧ ∀ x ∈ r, 0 ≤ x ∧ x ≤ far
/-- square, no entry below 0, no row and no column of zeros -/
structure Ess (m : List (List Int)) : Prop where
  sq : ∀ r ∈ m, r.length = m.length
  nn : ∀ r ∈ m, ∀ x ∈ r, 0 ≤ x
  row : ∀ r ∈ m, 0 < r.sum
  col : ∀ j, j < m.length → 0 < (colM m j).sum
def setE (m : List (List Int)) (i j : Nat) : List (List Int) := m.set i ((m.getD i []).set j 1)
section
variable {many : Nat} {far : Int} {m : List (List Int)} {i j : Nat}
theorem Sh.row (h : Sh many far m) (hi : i < many) : (m.getD i []).length = many ∧ ∀ x ∈ m.getD i [], 0 ≤ x ∧ x ≤ far := by
  rw [getD_lt (by rw [h.1]; exact hi)]
  exact h.2 _ (List.getElem_mem _)
theorem Sh.set (h : Sh many far m) (hf : 1 ≤ far) (hi : i < many) : Sh many far (setE m i j) := by
  refine ⟨by unfold setE; rw [List.length_set]; exact h.1, fun r hr => ?_⟩
  rcases List.mem_or_eq_of_mem_set hr with h1 | rfl
  · exact h.2 r h1
  · refine ⟨by rw [List.length_set]; exact (h.row hi).1, fun x hx => ?_⟩
    rcases List.mem_or_eq_of_mem_set hx with h2 | rfl
    · exact (h.row hi).2 x h2
    · exact ⟨by decide, hf⟩
theorem colM_set {r : List Int} : colM (m.set i r) j = (colM m j).set i (r.getD j 0) := by unfold colM; rw [List.map_set]
theorem colM_get {i j : Nat} (hi : i < m.length) : (colM m j).getD i 0 = (m.getD i []).getD j 0 := by
  unfold colM
  rw [getD_lt (by rw [List.length_map]; exact hi), List.getElem_map, getD_lt hi]
theorem colM_nn (h : ∀ r ∈ m, ∀ x ∈ r, 0 ≤ x) : ∀ x ∈ colM m j, 0 ≤ x := fun x hx => by
  obtain ⟨r, hr, rfl⟩ := List.mem_map.mp hx
  by_cases hj : j < r.length
  · exact h r hr _ (getD_mem hj)
  · rw [getD_ge (by omega)]; exact Int.le_refl 0
theorem setE_row (h : Sh many far m) (hi : i < many) (hj : j < many) (h0 : (m.getD i []).getD j 0 = 0) : ∀ i', (m.getD i' []).sum ≤ ((setE m i j).getD i' []).sum ∧ (i' = i → 0 < ((setE m i j).getD i' []).sum) := by
  intro i'
  unfold setE
  rw [getD_set]
  by_cases e : i = i' ∧ i < m.length
  · obtain ⟨rfl, _⟩ := e
    have hl := (h.row hi).1
    rw [if_pos ⟨rfl, by rw [h.1]; exact hi⟩, sum_set (by rw [hl]; exact hj), h0]
    have := sum_nn fun x hx => ((h.row hi).2 x hx).1
    exact ⟨by omega, fun _ => by omega⟩
  · rw [if_neg e]
    exact ⟨Int.le_refl _, fun z => absurd ⟨z.symm, by rw [h.1]; exact hi⟩ e⟩
theorem setE_col (h : Sh many far m) (hi : i < many) (hj : j < many) (h0 : (m.getD i []).getD j 0 = 0) : ∀ j', (colM m j').sum ≤ (colM (setE m i j) j').sum ∧ (j' = j → 0 < (colM (setE m i j) j').sum) := by
  intro j'
  unfold setE
  have hl := (h.row hi).1
  have him : i < m.length := by rw [h.1]; exact hi
  rw [colM_set, sum_set (by rw [colM_len]; exact him), colM_get him, getD_set]
  have := sum_nn (colM_nn (m := m) (j := j') fun r hr x hx => ((h.2 r hr).2 x hx).1)
  by_cases e : j = j' ∧ j < (m.getD i []).length
  · obtain ⟨rfl, _⟩ := e
    rw [if_pos ⟨rfl, by rw [hl]; exact hj⟩, h0]
    exact ⟨by omega, fun _ => by omega⟩
  · rw [if_neg e]
    exact ⟨by omega, fun z => absurd ⟨z.symm, by rw [hl]; exact hj⟩ e⟩
theorem zero_of {l : List Int} (h : ∀ x ∈ l, 0 ≤ x) (hs : l.sum = 0) (i : Nat) : l.getD i 0 = 0 := by
  by_cases hi : i < l.length
  · have h1 := mem_le_sum h _ (getD_mem hi)
    have h2 := h _ (getD_mem hi)
    omega
  · exact getD_ge (by omega)
end
/-! ### rows that may change -/
structure RowsAt (M : MH) (rs : List Nat) (m : List (List Int)) : Prop where
  len : rs.length = m.length
  inj : ∀ (i j r : Nat), rs[i]? = some r → rs[j]? = some r → i = j
  get : ∀ (i r : Nat), rs[i]? = some r → M[r]? = some (MO.lst ((m.getD i []).map D.int))
section
variable {wf d : Nat} {M M' : MH} {P : Nat → Option FD} {rs : List Nat} {m : List (List Int)} {i0 i1 i2 i3 i4 iT : Nat}
theorem RowsAt.other (R : RowsAt M rs m) (h : ∀ r ∈ rs, M'[r]? = M[r]?) : RowsAt M' rs m :=
  ⟨R.len, R.inj, fun i r hr => by rw [h r (List.mem_of_getElem? hr)]; exact R.get i r hr⟩
theorem RowsAt.set (R : RowsAt M rs m) {i r : Nat} {row : List Int} (hi : rs[i]? = some r) : RowsAt (M.set r (MO.lst (row.map D.int))) rs (m.set i row) := by
  have hl : i < m.length := by rw [← R.len]; exact (List.getElem?_eq_some_iff.mp hi).1
  refine ⟨by rw [List.length_set]; exact R.len, R.inj, fun i' r' h => ?_⟩
  rw [getD_set]
  by_cases e : i = i'
  · subst e
    rw [hi] at h; cases h
    rw [if_pos ⟨rfl, hl⟩]
    exact set_get (R.get i r hi)
  · rw [if_neg fun z => e z.1, List.getElem?_set_ne fun z => ?_]
    · exact R.get i' r' h
    · subst z
      exact e (R.inj i i' r hi h)
theorem ref_at {i : Nat} (h : i < rs.length) : ixD M (.lst (rs.map .ref)) (i : Int) = some (.ref rs[i]) := by
  show L2.atI (rs.map D.ref) (i : Int) = _
  refine MP.atI_nat ?_
  rw [List.getElem?_map, List.getElem?_eq_getElem h]; rfl
theorem asInts_map : ∀ xs : List Int, asInts (xs.map .int) = some xs
  | [] => rfl
  | x :: xs => by show (asInts (xs.map .int)).map (x :: ·) = _; rw [asInts_map xs]; rfl
theorem bi_sumR {n : Nat} {xs : List Int} (h : M[n]? = some (.lst (xs.map .int))) : biD M .sum [.ref n] = some (.int xs.sum) := by
  show ((seqOf M (.ref n)).bind asInts).map (fun ns => D.int ns.sum) = _
  rw [seqOf_ref h, Option.bind_some, asInts_map]; rfl
theorem at_int {xs : List Int} {j : Nat} (h : j < xs.length) : L2.atI (xs.map D.int) (j : Int) = some (.int (xs.getD j 0)) := by
  refine MP.atI_nat ?_
  rw [List.getElem?_map, List.getElem?_eq_getElem h, getD_lt h]; rfl
/-- [list(row) for row in ..] -/
theorem list_rows {cl : Nat → List D → Ev D} {ρ : Env} {i : Nat} (hi : i < ρ.length) : ∀ (m : List (List Int)) (M : MH),
    walkE (turnE cl [i] true .nil (.mk true (.list (.var i))) ρ) (m.map rowD) M = some (.ok ((List.range' M.length m.length).map .ref) (M ++ m.map fun r => MO.lst (r.map .int)))
  | [], M => by
    show some (Rs.ok [] M) = _
    simp
  | r :: m, M => by
    rw [List.map_cons]
    unfold walkE
    have g : getS (ρ.set i (some (rowD r))) i = some (rowD r) := by unfold getS; rw [List.getElem?_set_self hi]
    have hs : ∀ M : MH, seqOf M (rowD r) = some (r.map .int) := fun _ => rfl
    have e : turnE cl [i] true .nil (.mk true (.list (.var i))) ρ (rowD r) M = some (.ok (some (.ref M.length)) (M ++ [.lst (r.map .int)])) := by
      unfold turnE
      simp only [e_var, e_cst, e_bin, e_neg, e_cmp, e_cmp2, e_and, e_or, e_not, e_ite, e_tup, e_mkF, e_mkT, e_ix, e_slLo, e_slHi, e_slLH, e_rev, e_call, e_bi, e_isi, es_nil, es_cons, ec_nil, ec_cons, el_disp, el_cat, el_rep, el_list, ew_seq, ew_rng1, ew_rng2, ew_enum, ew_zip, s_expr, s_ret, s_retN, s_set, s_par, s_unp, s_app, s_setIx, s_augIx, s_aug, s_iff, s_while, s_raise, s_pass, s_brk, s_cont, ss_nil, ss_cons, lR_some, bR_ok, bR_ex, tR_ok, tR_ex, sR_nx, sR_rt, sR_bk, sR_ct, sR_xc, endR_rt, endR_nx, endR_xc, kR_t, kR_f, kA_t, kA_f, kA_b, kO_t, kO_f, kO_b, g_0, g_s, st_0, st_s, bT_1, bT_n, tS_1, ss0, ss1, wp0, wp1, permD, intD, truD, Option.map_some, Option.map_none, Option.bind_some, List.getElem?_cons_zero, List.getElem?_cons_succ, List.map_cons, List.map_nil, List.length_cons, List.length_nil, List.cons_append, List.nil_append, List.replicate_succ, List.replicate_zero, Nat.sub_self, fin_same, finX_same, fin_keep, if_true, if_false, reduceIte, g, hs]
    rw [e]
    have ih := list_rows (cl := cl) (ρ := ρ) hi m (M ++ [.lst (r.map .int)])
    simp only [ih, List.length_append, List.length_cons, List.length_nil, Nat.zero_add, List.append_assoc]
    rw [List.range'_succ]
    rfl
theorem rows_new {M : MH} {m : List (List Int)} : RowsAt (M ++ m.map fun r => MO.lst (r.map .int)) (List.range' M.length m.length) m := by
  refine ⟨List.length_range', fun i j r h h' => ?_, fun i r h => ?_⟩
  · obtain ⟨h1, h2⟩ := List.getElem?_eq_some_iff.mp h
    obtain ⟨h3, h4⟩ := List.getElem?_eq_some_iff.mp h'
    rw [List.getElem_range'] at h2 h4
    omega
  obtain ⟨h1, h2⟩ := List.getElem?_eq_some_iff.mp h
  rw [List.length_range'] at h1
  rw [List.getElem_range'] at h2
  have : r = M.length + i := by omega
  subst this
  rw [List.getElem?_append_right (by omega), show M.length + i - M.length = i by omega, List.getElem?_map, List.getElem?_eq_getElem h1, getD_lt h1]; rfl
/-- tuple([tuple(row) for row in rows]) -/
theorem tup_rows {cl : Nat → List D → Ev D} {ρ : Env} {i : Nat} (hi : i < ρ.length) (R : RowsAt M rs m) : walkE (turnE cl [i] true .nil (.bi .tuple (.cons (.var i) .nil)) ρ) (rs.map .ref) M = some (.ok (m.map rowD) M) := by
  have key : ∀ (rs' : List Nat) (m' : List (List Int)), rs'.length = m'.length → (∀ (i r : Nat), rs'[i]? = some r → M[r]? = some (MO.lst ((m'.getD i []).map D.int))) → walkE (turnE cl [i] true .nil (.bi .tuple (.cons (.var i) .nil)) ρ) (rs'.map .ref) M = some (.ok (m'.map rowD) M) := by
    intro rs'
    induction rs' with
    | nil =>
      intro m' hl _
      cases m' with
      | nil => rfl
      | cons _ _ => cases hl
    | cons r rs' ih =>
      intro m' hl h
      cases m' with
      | nil => cases hl
      | cons row m' =>
        have g : getS (ρ.set i (some (.ref r))) i = some (.ref r) := by unfold getS; rw [List.getElem?_set_self hi]
        have h0 : M[r]? = some (.lst (row.map .int)) := h 0 r rfl
        rw [List.map_cons, List.map_cons]
        unfold walkE
        have e : turnE cl [i] true .nil (.bi .tuple (.cons (.var i) .nil)) ρ (.ref r) M = some (.ok (some (rowD row)) M) := by
          unfold turnE
          simp only [e_var, e_cst, e_bin, e_neg, e_cmp, e_cmp2, e_and, e_or, e_not, e_ite, e_tup, e_mkF, e_mkT, e_ix, e_slLo, e_slHi, e_slLH, e_rev, e_call, e_bi, e_isi, es_nil, es_cons, ec_nil, ec_cons, el_disp, el_cat, el_rep, el_list, ew_seq, ew_rng1, ew_rng2, ew_enum, ew_zip, s_expr, s_ret, s_retN, s_set, s_par, s_unp, s_app, s_setIx, s_augIx, s_aug, s_iff, s_while, s_raise, s_pass, s_brk, s_cont, ss_nil, ss_cons, lR_some, bR_ok, bR_ex, tR_ok, tR_ex, sR_nx, sR_rt, sR_bk, sR_ct, sR_xc, endR_rt, endR_nx, endR_xc, kR_t, kR_f, kA_t, kA_f, kA_b, kO_t, kO_f, kO_b, g_0, g_s, st_0, st_s, bT_1, bT_n, tS_1, ss0, ss1, wp0, wp1, permD, intD, truD, Option.map_some, Option.map_none, Option.bind_some, List.getElem?_cons_zero, List.getElem?_cons_succ, List.map_cons, List.map_nil, List.length_cons, List.length_nil, List.cons_append, List.nil_append, List.replicate_succ, List.replicate_zero, Nat.sub_self, fin_same, finX_same, fin_keep, if_true, if_false, reduceIte, g, bi_tupR h0]
          rfl
        rw [e]
        simp only [ih m' (by simpa using hl) fun i r hr => h (i + 1) r hr]
  exact key rs m R.len R.get
/-- [row[at] for row in rows] -/
theorem col_rows {cl : Nat → List D → Ev D} {ρ : Env} {i a j : Nat} (hi : i < ρ.length) (ha : ∀ v, getS (ρ.set i v) a = some (.int (j : Int))) (hj : ∀ r ∈ m, j < r.length) (R : RowsAt M rs m) :
    walkE (turnE cl [i] true .nil (.ix (.var i) (.var a)) ρ) (rs.map .ref) M = some (.ok ((colM m j).map .int) M) := by
  have key : ∀ (rs' : List Nat) (m' : List (List Int)), rs'.length = m'.length → (∀ r ∈ m', j < r.length) → (∀ (i r : Nat), rs'[i]? = some r → M[r]? = some (MO.lst ((m'.getD i []).map D.int))) → walkE (turnE cl [i] true .nil (.ix (.var i) (.var a)) ρ) (rs'.map .ref) M = some (.ok ((colM m' j).map .int) M) := by
    intro rs'
    induction rs' with
    | nil =>
      intro m' hl _ _
      cases m' with
      | nil => rfl
      | cons _ _ => cases hl
    | cons r rs' ih =>
      intro m' hl hj h
      cases m' with
      | nil => cases hl
      | cons row m' =>
        have g : getS (ρ.set i (some (.ref r))) i = some (.ref r) := by unfold getS; rw [List.getElem?_set_self hi]
        have h0 : M[r]? = some (.lst (row.map .int)) := h 0 r rfl
        rw [List.map_cons]
        unfold walkE
        have e : turnE cl [i] true .nil (.ix (.var i) (.var a)) ρ (.ref r) M = some (.ok (some (.int (row.getD j 0))) M) := by
          unfold turnE
          simp only [e_var, e_cst, e_bin, e_neg, e_cmp, e_cmp2, e_and, e_or, e_not, e_ite, e_tup, e_mkF, e_mkT, e_ix, e_slLo, e_slHi, e_slLH, e_rev, e_call, e_bi, e_isi, es_nil, es_cons, ec_nil, ec_cons, el_disp, el_cat, el_rep, el_list, ew_seq, ew_rng1, ew_rng2, ew_enum, ew_zip, s_expr, s_ret, s_retN, s_set, s_par, s_unp, s_app, s_setIx, s_augIx, s_aug, s_iff, s_while, s_raise, s_pass, s_brk, s_cont, ss_nil, ss_cons, lR_some, bR_ok, bR_ex, tR_ok, tR_ex, sR_nx, sR_rt, sR_bk, sR_ct, sR_xc, endR_rt, endR_nx, endR_xc, kR_t, kR_f, kA_t, kA_f, kA_b, kO_t, kO_f, kO_b, g_0, g_s, st_0, st_s, bT_1, bT_n, tS_1, ss0, ss1, wp0, wp1, permD, intD, truD, Option.map_some, Option.map_none, Option.bind_some, List.getElem?_cons_zero, List.getElem?_cons_succ, List.map_cons, List.map_nil, List.length_cons, List.length_nil, List.cons_append, List.nil_append, List.replicate_succ, List.replicate_zero, Nat.sub_self, fin_same, finX_same, fin_keep, if_true, if_false, reduceIte, g, ha, ixD_ref h0, at_int (hj row List.mem_cons_self)]
        rw [e]
        simp only [ih m' (by simpa using hl) (fun r hr => hj r (List.mem_cons_of_mem _ hr)) fun i r hr => h (i + 1) r hr]
        rfl
  exact key rs m R.len hj R.get
end
end MP

set_option Elab.async false
set_option linter.all false
set_option maxRecDepth 100000
namespace MP
open PySem L2
section
variable {wf d : Nat} {M M' : MH} {P : Nat → Option FD} {rs : List Nat} {m : List (List Int)} {i0 i1 i2 i3 i4 iT : Nat}
theorem RowsAt.draw (R : RowsAt M rs m) {k : Nat} (o : Only M k M') (hk : k ∉ rs) : RowsAt M' rs m := R.other fun r hr => o.2 r fun z => hk (z ▸ hr)
theorem RowsAt.at' (R : RowsAt M rs m) {i : Nat} (hi : i < m.length) : ∃ r, rs[i]? = some r ∧ M[r]? = some (.lst ((m.getD i []).map .int)) ∧ ixD M (.lst (rs.map .ref)) (i : Int) = some (.ref r) := by
  have hl : i < rs.length := by rw [R.len]; exact hi
  exact ⟨rs[i], List.getElem?_eq_getElem hl, R.get i _ (List.getElem?_eq_getElem hl), ref_at hl⟩
theorem lenW_refs {rs : List Nat} {n : Nat} (h : rs.length ≤ n) (hn : n ≤ sizeLine := by decide) : lenW M (.one (.fix (rs.map .ref))) ≤ sizeLine := by
  show (rs.map D.ref).length ≤ _
  rw [List.length_map]; omega
/-- rows and columns below i are not all zeros -/
def EssTo (i : Nat) (m : List (List Int)) : Prop := (∀ i', i' < i → 0 < (m.getD i' []).sum) ∧ ∀ j', j' < i → 0 < (colM m j').sum
theorem set_some {α : Type} {l : List α} {j : Nat} {v : α} {f : α → D} : (l.map f).set j (f v) = (l.set j v).map f := (List.map_set).symm
theorem essential_turn {k b many i : Nat} {ns : List Int} {K far : Int} (hT : P iT = some ⟨2, 5, KA_take, false⟩) (hn : ns.length ≤ 100) (hf : 1 ≤ far) (hm : many ≤ 20) (hi : i < many) (hk : k ∉ rs) (hs : Sh many far m) (hE : EssTo i m) (R : RowsAt M rs m) (hp : PotAt M k ns K) (hK : K + 2 ≤ 1000000) {x4 x5 x6 : Option D} :
    ∃ ρ' M' m', turnS (evF P wf (d + 1)) b wf [4] true (KA_essential_2x iT) (.int (i : Int)) [some (.ref k), some (.int (many : Int)), some (.int far), some (.lst (rs.map .ref)), x4, x5, x6, none] M = some (.nx, ρ', M') ∧
      (∃ x4 x5 x6, ρ' = [some (.ref k), some (.int (many : Int)), some (.int far), some (.lst (rs.map .ref)), x4, x5, x6, none]) ∧ PotAt M' k ns (K + 2) ∧ RowsAt M' rs m' ∧ Sh many far m' ∧ EssTo (i + 1) m' ∧ M'.length = M.length ∧ ∀ n, n ≠ k → n ∉ rs → M'[n]? = M[n]? := by
  have hlm : m.length = many := hs.1
  have hne : ∀ {i r n : Nat}, rs[i]? = some r → n ∉ rs → r ≠ n := fun h hn z => hn (by rw [← z]; exact List.mem_of_getElem? h)
  obtain ⟨rn, M1, e1, b1, p1, o1⟩ := takeN (wf := wf) (d := d) (many := many) hT hp hn (by omega) (by omega) (by omega)
  have R1 := R.draw o1 hk
  obtain ⟨ri, h1, h2, h3⟩ := R1.at' (i := i) (by omega)
  obtain ⟨rr, g1, g2, g3⟩ := R1.at' (i := rn) (by omega)
  obtain ⟨ri', h1', h2', h3'⟩ := R.at' (i := i) (by omega)
  have : ri' = ri := by rw [h1] at h1'; cases h1'; rfl
  subst this
  -- the first test
  obtain ⟨m1, M2, hs1, hE1, R2, p2, l2, o2, st2⟩ : ∃ m1 M2, Sh many far m1 ∧ ((∀ i', (m.getD i' []).sum ≤ (m1.getD i' []).sum) ∧ (∀ j', (colM m j').sum ≤ (colM m1 j').sum) ∧ 0 < (m1.getD i []).sum) ∧ RowsAt M2 rs m1 ∧ PotAt M2 k ns (K + 2) ∧ M2.length = M.length ∧ (∀ n, n ≠ k → n ∉ rs → M2[n]? = M[n]?) ∧
      exs1 (evF P wf (d + 1)) b wf (KA_essential_2x_2 iT) [some (.ref k), some (.int (many : Int)), some (.int far), some (.lst (rs.map .ref)), some (.int (i : Int)), some (.ref ri'), some (.ref rr), none] M1 = some (.nx, [some (.ref k), some (.int (many : Int)), some (.int far), some (.lst (rs.map .ref)), some (.int (i : Int)), some (.ref ri'), some (.ref rr), none], M2) := by
    simp only [KA_essential_2x_2, KA_essential_2x_2a, KA_essential_2x_2a_1, e_var, e_cst, e_bin, e_neg, e_cmp, e_cmp2, e_and, e_or, e_not, e_ite, e_tup, e_mkF, e_mkT, e_ix, e_slLo, e_slHi, e_slLH, e_rev, e_call, e_bi, e_isi, es_nil, es_cons, ec_nil, ec_cons, el_disp, el_cat, el_rep, el_list, ew_seq, ew_rng1, ew_rng2, ew_enum, ew_zip, s_expr, s_ret, s_retN, s_set, s_par, s_unp, s_app, s_setIx, s_augIx, s_aug, s_iff, s_while, s_raise, s_pass, s_brk, s_cont, ss_nil, ss_cons, lR_some, bR_ok, bR_ex, tR_ok, tR_ex, sR_nx, sR_rt, sR_bk, sR_ct, sR_xc, endR_rt, endR_nx, endR_xc, kR_t, kR_f, kA_t, kA_f, kA_b, kO_t, kO_f, kO_b, g_0, g_s, st_0, st_s, bT_1, bT_n, tS_1, ss0, ss1, wp0, wp1, permD, intD, truD, Option.map_some, Option.map_none, Option.bind_some, List.getElem?_cons_zero, List.getElem?_cons_succ, List.map_cons, List.map_nil, List.length_cons, List.length_nil, List.cons_append, List.nil_append, List.replicate_succ, List.replicate_zero, Nat.sub_self, fin_same, finX_same, fin_keep, if_true, if_false, reduceIte, Nat.reduceAdd, Nat.reduceLeDiff, Int.cast_ofNat_Int, Int.reduceEq, Int.reduceLE, Int.reduceLT, decide_true, decide_false, Nat.zero_le, Bool.not_true, Bool.not_false, Bool.false_or, Bool.true_or, Bool.or_false, Bool.true_and, Bool.false_and, Bool.and_true, Bool.and_false, bi_sumR h2, cmp_eqI]
    have hrow := hs.row (many := many) hi
    by_cases c : (m.getD i []).sum = 0
    · obtain ⟨qn, M2, e2, b2, p2, o2⟩ := takeN (wf := wf) (d := d) (many := many) hT p1 hn (by omega) (by omega) (by omega)
      have R2 := R1.draw o2 hk
      have h2' := R2.get i ri' h1
      have hz := zero_of (fun x hx => (hrow.2 x hx).1) c qn
      refine ⟨setE m i qn, _, hs.set hf hi, ⟨fun i' => (setE_row hs hi (by omega) hz i').1, fun j' => (setE_col hs hi (by omega) hz j').1, (setE_row hs hi (by omega) hz i).2 rfl⟩, R2.set h1, ?_, ?_, ?_, ?_⟩
      rotate_left 3
      · simp only [decide_eq_true c, e_var, e_cst, e_bin, e_neg, e_cmp, e_cmp2, e_and, e_or, e_not, e_ite, e_tup, e_mkF, e_mkT, e_ix, e_slLo, e_slHi, e_slLH, e_rev, e_call, e_bi, e_isi, es_nil, es_cons, ec_nil, ec_cons, el_disp, el_cat, el_rep, el_list, ew_seq, ew_rng1, ew_rng2, ew_enum, ew_zip, s_expr, s_ret, s_retN, s_set, s_par, s_unp, s_app, s_setIx, s_augIx, s_aug, s_iff, s_while, s_raise, s_pass, s_brk, s_cont, ss_nil, ss_cons, lR_some, bR_ok, bR_ex, tR_ok, tR_ex, sR_nx, sR_rt, sR_bk, sR_ct, sR_xc, endR_rt, endR_nx, endR_xc, kR_t, kR_f, kA_t, kA_f, kA_b, kO_t, kO_f, kO_b, g_0, g_s, st_0, st_s, bT_1, bT_n, tS_1, ss0, ss1, wp0, wp1, permD, intD, truD, Option.map_some, Option.map_none, Option.bind_some, List.getElem?_cons_zero, List.getElem?_cons_succ, List.map_cons, List.map_nil, List.length_cons, List.length_nil, List.cons_append, List.nil_append, List.replicate_succ, List.replicate_zero, Nat.sub_self, fin_same, finX_same, fin_keep, if_true, if_false, reduceIte, Nat.reduceAdd, Nat.reduceLeDiff, Int.cast_ofNat_Int, Int.reduceEq, Int.reduceLE, Int.reduceLT, decide_true, decide_false, Nat.zero_le, Bool.not_true, Bool.not_false, Bool.false_or, Bool.true_or, Bool.or_false, Bool.true_and, Bool.false_and, Bool.and_true, Bool.and_false, e2]
        rw [setIx_nat (j := qn) h2' (by rw [List.length_map, hrow.1]; omega) (.inr rfl), set_some]
        simp only [e_var, e_cst, e_bin, e_neg, e_cmp, e_cmp2, e_and, e_or, e_not, e_ite, e_tup, e_mkF, e_mkT, e_ix, e_slLo, e_slHi, e_slLH, e_rev, e_call, e_bi, e_isi, es_nil, es_cons, ec_nil, ec_cons, el_disp, el_cat, el_rep, el_list, ew_seq, ew_rng1, ew_rng2, ew_enum, ew_zip, s_expr, s_ret, s_retN, s_set, s_par, s_unp, s_app, s_setIx, s_augIx, s_aug, s_iff, s_while, s_raise, s_pass, s_brk, s_cont, ss_nil, ss_cons, lR_some, bR_ok, bR_ex, tR_ok, tR_ex, sR_nx, sR_rt, sR_bk, sR_ct, sR_xc, endR_rt, endR_nx, endR_xc, kR_t, kR_f, kA_t, kA_f, kA_b, kO_t, kO_f, kO_b, g_0, g_s, st_0, st_s, bT_1, bT_n, tS_1, ss0, ss1, wp0, wp1, permD, intD, truD, Option.map_some, Option.map_none, Option.bind_some, List.getElem?_cons_zero, List.getElem?_cons_succ, List.map_cons, List.map_nil, List.length_cons, List.length_nil, List.cons_append, List.nil_append, List.replicate_succ, List.replicate_zero, Nat.sub_self, fin_same, finX_same, fin_keep, if_true, if_false, reduceIte]
      · exact (p2.mono (by omega)).other (List.getElem?_set_ne (hne h1 hk))
      · rw [List.length_set, o2.1, o1.1]
      · intro n hn1 hn2
        rw [List.getElem?_set_ne (hne h1 hn2), o2.2 n hn1, o1.2 n hn1]
    · have hnn := sum_nn fun x hx => (hrow.2 x hx).1
      refine ⟨m, M1, hs, ⟨fun _ => Int.le_refl _, fun _ => Int.le_refl _, by omega⟩, R1, p1.mono (by omega), o1.1, fun n h1 _ => o1.2 n h1, ?_⟩
      simp only [decide_eq_false c, e_var, e_cst, e_bin, e_neg, e_cmp, e_cmp2, e_and, e_or, e_not, e_ite, e_tup, e_mkF, e_mkT, e_ix, e_slLo, e_slHi, e_slLH, e_rev, e_call, e_bi, e_isi, es_nil, es_cons, ec_nil, ec_cons, el_disp, el_cat, el_rep, el_list, ew_seq, ew_rng1, ew_rng2, ew_enum, ew_zip, s_expr, s_ret, s_retN, s_set, s_par, s_unp, s_app, s_setIx, s_augIx, s_aug, s_iff, s_while, s_raise, s_pass, s_brk, s_cont, ss_nil, ss_cons, lR_some, bR_ok, bR_ex, tR_ok, tR_ex, sR_nx, sR_rt, sR_bk, sR_ct, sR_xc, endR_rt, endR_nx, endR_xc, kR_t, kR_f, kA_t, kA_f, kA_b, kO_t, kO_f, kO_b, g_0, g_s, st_0, st_s, bT_1, bT_n, tS_1, ss0, ss1, wp0, wp1, permD, intD, truD, Option.map_some, Option.map_none, Option.bind_some, List.getElem?_cons_zero, List.getElem?_cons_succ, List.map_cons, List.map_nil, List.length_cons, List.length_nil, List.cons_append, List.nil_append, List.replicate_succ, List.replicate_zero, Nat.sub_self, fin_same, finX_same, fin_keep, if_true, if_false, reduceIte, Nat.reduceAdd, Nat.reduceLeDiff, Int.cast_ofNat_Int, Int.reduceEq, Int.reduceLE, Int.reduceLT, decide_true, decide_false, Nat.zero_le, Bool.not_true, Bool.not_false, Bool.false_or, Bool.true_or, Bool.or_false, Bool.true_and, Bool.false_and, Bool.and_true, Bool.and_false]
  -- the second test
  obtain ⟨f1, f2, f3⟩ := hE1
  obtain ⟨rr', z1, z2, _⟩ := R2.at' (i := rn) (by rw [hs1.1]; omega)
  have : rr' = rr := by rw [g1] at z1; cases z1; rfl
  subst this
  have hcol := col_rows (cl := evF P wf (d + 1)) (ρ := [some (.ref k), some (.int (many : Int)), some (.int far), some (.lst (rs.map .ref)), some (.int (i : Int)), some (.ref ri'), some (.ref rr'), none]) (i := 7) (a := 4) (j := i) (by simp) (fun _ => rfl) (fun r hr => by rw [(hs1.2 r hr).1]; exact hi) R2
  have st3 : ∃ m2 M3, Sh many far m2 ∧ ((∀ i', (m1.getD i' []).sum ≤ (m2.getD i' []).sum) ∧ (∀ j', (colM m1 j').sum ≤ (colM m2 j').sum) ∧ 0 < (colM m2 i).sum) ∧ RowsAt M3 rs m2 ∧ PotAt M3 k ns (K + 2) ∧ M3.length = M.length ∧ (∀ n, n ≠ k → n ∉ rs → M3[n]? = M[n]?) ∧
      exs1 (evF P wf (d + 1)) b wf KA_essential_2x_3 [some (.ref k), some (.int (many : Int)), some (.int far), some (.lst (rs.map .ref)), some (.int (i : Int)), some (.ref ri'), some (.ref rr'), none] M2 = some (.nx, [some (.ref k), some (.int (many : Int)), some (.int far), some (.lst (rs.map .ref)), some (.int (i : Int)), some (.ref ri'), some (.ref rr'), none], M3) := by
    have hcn : ∀ x ∈ colM m1 i, 0 ≤ x := colM_nn fun r hr x hx => ((hs1.2 r hr).2 x hx).1
    simp only [KA_essential_2x_3, KA_essential_2x_3a, KA_essential_2x_3a_1, e_var, e_cst, e_bin, e_neg, e_cmp, e_cmp2, e_and, e_or, e_not, e_ite, e_tup, e_mkF, e_mkT, e_ix, e_slLo, e_slHi, e_slLH, e_rev, e_call, e_bi, e_isi, es_nil, es_cons, ec_nil, ec_cons, el_disp, el_cat, el_rep, el_list, ew_seq, ew_rng1, ew_rng2, ew_enum, ew_zip, s_expr, s_ret, s_retN, s_set, s_par, s_unp, s_app, s_setIx, s_augIx, s_aug, s_iff, s_while, s_raise, s_pass, s_brk, s_cont, ss_nil, ss_cons, lR_some, bR_ok, bR_ex, tR_ok, tR_ex, sR_nx, sR_rt, sR_bk, sR_ct, sR_xc, endR_rt, endR_nx, endR_xc, kR_t, kR_f, kA_t, kA_f, kA_b, kO_t, kO_f, kO_b, g_0, g_s, st_0, st_s, bT_1, bT_n, tS_1, ss0, ss1, wp0, wp1, permD, intD, truD, Option.map_some, Option.map_none, Option.bind_some, List.getElem?_cons_zero, List.getElem?_cons_succ, List.map_cons, List.map_nil, List.length_cons, List.length_nil, List.cons_append, List.nil_append, List.replicate_succ, List.replicate_zero, Nat.sub_self, fin_same, finX_same, fin_keep, if_true, if_false, reduceIte, Nat.reduceAdd, Nat.reduceLeDiff, Int.cast_ofNat_Int, Int.reduceEq, Int.reduceLE, Int.reduceLT, decide_true, decide_false, Nat.zero_le, Bool.not_true, Bool.not_false, Bool.false_or, Bool.true_or, Bool.or_false, Bool.true_and, Bool.false_and, Bool.and_true, Bool.and_false, el_comp, srcOf_lst, if_pos (lenW_refs (M := M2) (rs := rs) (n := 20) (by rw [R2.len, hs1.1]; exact hm)), walkW_fix0, hcol, bi_sumI, cmp_eqI]
    by_cases c : (colM m1 i).sum = 0
    · have hz : (m1.getD rn []).getD i 0 = 0 := by
        rw [← colM_get (by rw [hs1.1]; omega)]
        exact zero_of hcn c rn
      refine ⟨setE m1 rn i, _, hs1.set hf (by omega), ⟨fun i' => (setE_row hs1 (by omega) hi hz i').1, fun j' => (setE_col hs1 (by omega) hi hz j').1, (setE_col hs1 (by omega) hi hz i).2 rfl⟩, R2.set z1, ?_, ?_, ?_, ?_⟩
      rotate_left 3
      · simp only [decide_eq_true c, e_var, e_cst, e_bin, e_neg, e_cmp, e_cmp2, e_and, e_or, e_not, e_ite, e_tup, e_mkF, e_mkT, e_ix, e_slLo, e_slHi, e_slLH, e_rev, e_call, e_bi, e_isi, es_nil, es_cons, ec_nil, ec_cons, el_disp, el_cat, el_rep, el_list, ew_seq, ew_rng1, ew_rng2, ew_enum, ew_zip, s_expr, s_ret, s_retN, s_set, s_par, s_unp, s_app, s_setIx, s_augIx, s_aug, s_iff, s_while, s_raise, s_pass, s_brk, s_cont, ss_nil, ss_cons, lR_some, bR_ok, bR_ex, tR_ok, tR_ex, sR_nx, sR_rt, sR_bk, sR_ct, sR_xc, endR_rt, endR_nx, endR_xc, kR_t, kR_f, kA_t, kA_f, kA_b, kO_t, kO_f, kO_b, g_0, g_s, st_0, st_s, bT_1, bT_n, tS_1, ss0, ss1, wp0, wp1, permD, intD, truD, Option.map_some, Option.map_none, Option.bind_some, List.getElem?_cons_zero, List.getElem?_cons_succ, List.map_cons, List.map_nil, List.length_cons, List.length_nil, List.cons_append, List.nil_append, List.replicate_succ, List.replicate_zero, Nat.sub_self, fin_same, finX_same, fin_keep, if_true, if_false, reduceIte, Nat.reduceAdd, Nat.reduceLeDiff, Int.cast_ofNat_Int, Int.reduceEq, Int.reduceLE, Int.reduceLT, decide_true, decide_false, Nat.zero_le, Bool.not_true, Bool.not_false, Bool.false_or, Bool.true_or, Bool.or_false, Bool.true_and, Bool.false_and, Bool.and_true, Bool.and_false]
        rw [setIx_nat (j := i) z2 (by rw [List.length_map, (hs1.row (by omega)).1]; exact hi) (.inr rfl), set_some]
        simp only [e_var, e_cst, e_bin, e_neg, e_cmp, e_cmp2, e_and, e_or, e_not, e_ite, e_tup, e_mkF, e_mkT, e_ix, e_slLo, e_slHi, e_slLH, e_rev, e_call, e_bi, e_isi, es_nil, es_cons, ec_nil, ec_cons, el_disp, el_cat, el_rep, el_list, ew_seq, ew_rng1, ew_rng2, ew_enum, ew_zip, s_expr, s_ret, s_retN, s_set, s_par, s_unp, s_app, s_setIx, s_augIx, s_aug, s_iff, s_while, s_raise, s_pass, s_brk, s_cont, ss_nil, ss_cons, lR_some, bR_ok, bR_ex, tR_ok, tR_ex, sR_nx, sR_rt, sR_bk, sR_ct, sR_xc, endR_rt, endR_nx, endR_xc, kR_t, kR_f, kA_t, kA_f, kA_b, kO_t, kO_f, kO_b, g_0, g_s, st_0, st_s, bT_1, bT_n, tS_1, ss0, ss1, wp0, wp1, permD, intD, truD, Option.map_some, Option.map_none, Option.bind_some, List.getElem?_cons_zero, List.getElem?_cons_succ, List.map_cons, List.map_nil, List.length_cons, List.length_nil, List.cons_append, List.nil_append, List.replicate_succ, List.replicate_zero, Nat.sub_self, fin_same, finX_same, fin_keep, if_true, if_false, reduceIte]
      · exact p2.other (List.getElem?_set_ne (hne z1 hk))
      · rw [List.length_set, l2]
      · intro n hn1 hn2
        rw [List.getElem?_set_ne (hne z1 hn2), o2 n hn1 hn2]
    · have hnn := sum_nn hcn
      refine ⟨m1, M2, hs1, ⟨fun _ => Int.le_refl _, fun _ => Int.le_refl _, by omega⟩, R2, p2, l2, o2, ?_⟩
      simp only [decide_eq_false c, e_var, e_cst, e_bin, e_neg, e_cmp, e_cmp2, e_and, e_or, e_not, e_ite, e_tup, e_mkF, e_mkT, e_ix, e_slLo, e_slHi, e_slLH, e_rev, e_call, e_bi, e_isi, es_nil, es_cons, ec_nil, ec_cons, el_disp, el_cat, el_rep, el_list, ew_seq, ew_rng1, ew_rng2, ew_enum, ew_zip, s_expr, s_ret, s_retN, s_set, s_par, s_unp, s_app, s_setIx, s_augIx, s_aug, s_iff, s_while, s_raise, s_pass, s_brk, s_cont, ss_nil, ss_cons, lR_some, bR_ok, bR_ex, tR_ok, tR_ex, sR_nx, sR_rt, sR_bk, sR_ct, sR_xc, endR_rt, endR_nx, endR_xc, kR_t, kR_f, kA_t, kA_f, kA_b, kO_t, kO_f, kO_b, g_0, g_s, st_0, st_s, bT_1, bT_n, tS_1, ss0, ss1, wp0, wp1, permD, intD, truD, Option.map_some, Option.map_none, Option.bind_some, List.getElem?_cons_zero, List.getElem?_cons_succ, List.map_cons, List.map_nil, List.length_cons, List.length_nil, List.cons_append, List.nil_append, List.replicate_succ, List.replicate_zero, Nat.sub_self, fin_same, finX_same, fin_keep, if_true, if_false, reduceIte, Nat.reduceAdd, Nat.reduceLeDiff, Int.cast_ofNat_Int, Int.reduceEq, Int.reduceLE, Int.reduceLT, decide_true, decide_false, Nat.zero_le, Bool.not_true, Bool.not_false, Bool.false_or, Bool.true_or, Bool.or_false, Bool.true_and, Bool.false_and, Bool.and_true, Bool.and_false]
  obtain ⟨m2, M3, hs2, ⟨u1, u2, u3⟩, R3, p3, l3, o3, st3⟩ := st3
  refine ⟨_, M3, m2, ?_, ⟨some (.int (i : Int)), some (.ref ri'), some (.ref rr'), rfl⟩, p3, R3, hs2, ⟨fun i' h => ?_, fun j' h => ?_⟩, l3, o3⟩
  · simp only [turnS, KA_essential_2x, KA_essential_2x_1, e_var, e_cst, e_bin, e_neg, e_cmp, e_cmp2, e_and, e_or, e_not, e_ite, e_tup, e_mkF, e_mkT, e_ix, e_slLo, e_slHi, e_slLH, e_rev, e_call, e_bi, e_isi, es_nil, es_cons, ec_nil, ec_cons, el_disp, el_cat, el_rep, el_list, ew_seq, ew_rng1, ew_rng2, ew_enum, ew_zip, s_expr, s_ret, s_retN, s_set, s_par, s_unp, s_app, s_setIx, s_augIx, s_aug, s_iff, s_while, s_raise, s_pass, s_brk, s_cont, ss_nil, ss_cons, lR_some, bR_ok, bR_ex, tR_ok, tR_ex, sR_nx, sR_rt, sR_bk, sR_ct, sR_xc, endR_rt, endR_nx, endR_xc, kR_t, kR_f, kA_t, kA_f, kA_b, kO_t, kO_f, kO_b, g_0, g_s, st_0, st_s, bT_1, bT_n, tS_1, ss0, ss1, wp0, wp1, permD, intD, truD, Option.map_some, Option.map_none, Option.bind_some, List.getElem?_cons_zero, List.getElem?_cons_succ, List.map_cons, List.map_nil, List.length_cons, List.length_nil, List.cons_append, List.nil_append, List.replicate_succ, List.replicate_zero, Nat.sub_self, fin_same, finX_same, fin_keep, if_true, if_false, reduceIte, Nat.reduceAdd, Nat.reduceLeDiff, Int.cast_ofNat_Int, Int.reduceEq, Int.reduceLE, Int.reduceLT, decide_true, decide_false, Nat.zero_le, Bool.not_true, Bool.not_false, Bool.false_or, Bool.true_or, Bool.or_false, Bool.true_and, Bool.false_and, Bool.and_true, Bool.and_false, h3', e1, g3, st2, st3]
  · have := f1 i'
    have := u1 i'
    by_cases c : i' = i
    · subst c; omega
    · have := hE.1 i' (by omega); omega
  · have := f2 j'
    have := u2 j'
    by_cases c : j' = i
    · subst c; exact u3
    · have := hE.2 j' (by omega); omega
theorem ess_of {many : Nat} {far : Int} (hs : Sh many far m) (h : EssTo many m) : Ess m :=
  ⟨fun r hr => by rw [(hs.2 r hr).1, hs.1], fun r hr x hx => ((hs.2 r hr).2 x hx).1, fun r hr => by
    obtain ⟨i, hi, rfl⟩ := List.getElem_of_mem hr
    have := h.1 i (by rw [← hs.1]; exact hi)
    rwa [getD_lt hi] at this, fun j hj => h.2 j (by rw [← hs.1]; exact hj)⟩
theorem t_essential {k : Nat} {ns : List Int} {K far : Int} {many : Nat} (hT : P iT = some ⟨2, 5, KA_take, false⟩) (h0 : P i0 = some ⟨3, 8, KA_matrix iT, false⟩) (h1 : P i1 = some ⟨3, 8, KA_essential i0 iT, false⟩) (hn : ns.length ≤ 100) (hf : 1 ≤ far) (hf2 : far ≤ 1000) (hm : many ≤ 20) (hp : PotAt M k ns K) (hK : K ≤ 900000) (hk : k < M.length) :
    ∃ m M', evF P wf (d + 3) i1 [.ref k, .int (many : Int), .int far] M = some (.ok (mx m) M') ∧ Sh many far m ∧ Ess m ∧ PotAt M' k ns (K + 1100) ∧ Only M k M' := by
  rw [evF_eq h1 rfl]
  obtain ⟨m0, M1, e1, l1, s1, p1, o1⟩ := t_matrix (wf := wf) (d := d) hT h0 hn hf hf2 hm hp hK hk
  have hsm : ∀ M : MH, srcOf M (mx m0) = some (.fix (m0.map rowD)) := fun _ => rfl
  have hro : ∀ M : MH, rngR 0 (many : Int) M = some (.ok (.one (.fix (rangeD 0 (many : Int)))) M) := fun M => rngR_0 (Nat.lt_of_le_of_lt hm (by decide))
  have lr := list_rows (cl := evF P wf (d + 2)) (ρ := [some (.ref k), some (.int (many : Int)), some (.int far), none, none, none, none, none]) (i := 7) (by simp) m0 M1
  generalize hrs : List.range' M1.length m0.length = rs at lr
  have R0 : RowsAt (M1 ++ m0.map fun r => MO.lst (r.map .int)) rs m0 := by rw [← hrs]; exact rows_new
  have hkr : ∀ n, n < M1.length → n ∉ rs := fun n h z => by
    rw [← hrs, List.mem_range'] at z
    obtain ⟨i, _, h2⟩ := z
    omega
  have hk1 : k < M1.length := by rw [o1.1]; exact hk
  obtain ⟨ρ', M', e2, ⟨x4, x5, x6, rfl⟩, q⟩ := forE_nx (f := turnS (evF P wf (d + 2)) M.length wf [4] true (KA_essential_2x iT))
    (fun i ρ M' => (∃ x4 x5 x6, ρ = [some (.ref k), some (.int (many : Int)), some (.int far), some (.lst (rs.map .ref)), x4, x5, x6, none]) ∧ ∃ m, Sh many far m ∧ EssTo i m ∧ RowsAt M' rs m ∧ PotAt M' k ns (K + 1000 + 2 * i) ∧ M'.length = (M1 ++ m0.map fun r => MO.lst (r.map .int)).length ∧ ∀ n, n < M1.length → n ≠ k → M'[n]? = M1[n]?)
    (xs := rangeD 0 (many : Int)) (k := 0) (M := M1 ++ m0.map fun r => MO.lst (r.map .int)) (ρ := [some (.ref k), some (.int (many : Int)), some (.int far), some (.lst (rs.map .ref)), none, none, none, none])
    ⟨⟨_, _, _, rfl⟩, m0, ⟨l1, s1⟩, ⟨fun _ h => absurd h (Nat.not_lt_zero _), fun _ h => absurd h (Nat.not_lt_zero _)⟩, R0, (p1.mono (by omega)).other (List.getElem?_append_left hk1), rfl, fun n h _ => List.getElem?_append_left h⟩
    fun i x ρ M2 hx ⟨⟨x4, x5, x6, hρ⟩, m, s2, t2, R2, p2, l2, o2⟩ => by
      subst hρ
      have hi : i < many := by have := (List.getElem?_eq_some_iff.mp hx).1; rwa [len_range] at this
      have hxe : x = .int (i : Int) := by
        rw [rangeD_eq, List.getElem?_map, List.getElem?_eq_getElem (by simpa using hi), List.getElem_range] at hx
        cases hx; rfl
      subst hxe
      rw [Nat.zero_add] at t2 p2 ⊢
      obtain ⟨ρ', M3, m', e3, hρ', p3, R3, s3, t3, l3, o3⟩ := essential_turn (wf := wf) (d := d + 1) (b := M.length) hT hn hf hm hi (hkr k hk1) s2 t2 R2 p2 (by omega) (x4 := x4) (x5 := x5) (x6 := x6)
      exact ⟨ρ', M3, e3, hρ', m', s3, t3, R3, p3.mono (by omega), l3.trans l2, fun n h1 h2 => (o3 n h2 (hkr n h1)).trans (o2 n h1 h2)⟩
  obtain ⟨m, s2, t2, R2, p2, l2, o2⟩ := q
  rw [len_range, Nat.zero_add] at t2 p2
  have hfin := tup_rows (cl := evF P wf (d + 2)) (ρ := [some (.ref k), some (.int (many : Int)), some (.int far), some (.lst (rs.map .ref)), x4, x5, x6, none]) (i := 7) (by simp) R2
  refine ⟨m, M'.take M.length, ?_, s2, ess_of s2 t2, ?_, take_same (by rw [l2, List.length_append, o1.1]; omega) fun n h1 h2 => by rw [o2 n (by rw [o1.1]; exact h1) h2, o1.2 n h2]⟩
  · simp only [KA_essential, KA_essential_1, KA_essential_2, KA_essential_3, e_var, e_cst, e_bin, e_neg, e_cmp, e_cmp2, e_and, e_or, e_not, e_ite, e_tup, e_mkF, e_mkT, e_ix, e_slLo, e_slHi, e_slLH, e_rev, e_call, e_bi, e_isi, es_nil, es_cons, ec_nil, ec_cons, el_disp, el_cat, el_rep, el_list, ew_seq, ew_rng1, ew_rng2, ew_enum, ew_zip, s_expr, s_ret, s_retN, s_set, s_par, s_unp, s_app, s_setIx, s_augIx, s_aug, s_iff, s_while, s_raise, s_pass, s_brk, s_cont, ss_nil, ss_cons, lR_some, bR_ok, bR_ex, tR_ok, tR_ex, sR_nx, sR_rt, sR_bk, sR_ct, sR_xc, endR_rt, endR_nx, endR_xc, kR_t, kR_f, kA_t, kA_f, kA_b, kO_t, kO_f, kO_b, g_0, g_s, st_0, st_s, bT_1, bT_n, tS_1, ss0, ss1, wp0, wp1, permD, intD, truD, Option.map_some, Option.map_none, Option.bind_some, List.getElem?_cons_zero, List.getElem?_cons_succ, List.map_cons, List.map_nil, List.length_cons, List.length_nil, List.cons_append, List.nil_append, List.replicate_succ, List.replicate_zero, Nat.sub_self, fin_same, finX_same, fin_keep, if_true, if_false, reduceIte, Nat.reduceAdd, Nat.reduceLeDiff, Int.cast_ofNat_Int, Int.reduceEq, Int.reduceLE, Int.reduceLT, decide_true, decide_false, Nat.zero_le, Bool.not_true, Bool.not_false, Bool.false_or, Bool.true_or, Bool.or_false, Bool.true_and, Bool.false_and, Bool.and_true, Bool.and_false, el_comp, e1, hsm, if_pos (lenW_fix (M := M1) (xs := m0.map rowD) (n := 20) (by rw [List.length_map, l1]; exact hm)), walkW_fix0, lr, s_for, hro, forW_fix0, e2, srcOf_lst, if_pos (lenW_refs (M := M') (rs := rs) (n := 20) (by rw [R2.len, s2.1]; exact hm)), hfin, bi_tupL]
    exact fin_clo (clo_mx m) rfl
  · refine (p2.mono (by omega)).other ?_
    rw [List.getElem?_take_of_lt hk]
end
end MP

set_option Elab.async false
set_option linter.all false
set_option maxRecDepth 100000
namespace MP
open PySem L2
/-! ### a row shared out to several -/
/-- each place as often as the row's entry says -/
def unitsF (k : Nat) : List Int → List Nat
  | [] => []
  | x :: r => List.replicate x.toNat k ++ unitsF (k + 1) r
theorem units_len : ∀ {k : Nat} {r : List Int}, (∀ x ∈ r, 0 ≤ x) → ((unitsF k r).length : Int) = r.sum
  | k, [], _ => rfl
  | k, x :: r, h => by
    have h1 := h x List.mem_cons_self
    have := units_len (k := k + 1) (r := r) fun y hy => h y (List.mem_cons_of_mem _ hy)
    rw [unitsF, List.length_append, List.length_replicate, List.sum_cons]
    omega
theorem units_mem : ∀ {k : Nat} {r : List Int} {u : Nat}, u ∈ unitsF k r → k ≤ u ∧ u < k + r.length
  | k, [], u, h => absurd h (by simp [unitsF])
  | k, x :: r, u, h => by
    rw [unitsF] at h
    rw [List.length_cons]
    rcases List.mem_append.mp h with h | h
    · rw [(List.mem_replicate.mp h).2]; omega
    · have := units_mem h; omega
theorem units_count : ∀ {k : Nat} {r : List Int} {j : Nat}, (∀ x ∈ r, 0 ≤ x) → (((unitsF k r).count (k + j) : Nat) : Int) = r.getD j 0
  | k, [], j, _ => by simp [unitsF]
  | k, x :: r, 0, h => by
    have h1 := h x List.mem_cons_self
    have h2 : (unitsF (k + 1) r).count k = 0 := List.count_eq_zero.mpr fun z => by have := units_mem z; omega
    rw [unitsF, List.count_append, Nat.add_zero, List.count_replicate_self, h2]
    simp; omega
  | k, x :: r, j + 1, h => by
    have ih := units_count (k := k + 1) (r := r) (j := j) fun y hy => h y (List.mem_cons_of_mem _ hy)
    have h2 : (List.replicate x.toNat k).count (k + (j + 1)) = 0 := List.count_eq_zero.mpr fun z => by have := (List.mem_replicate.mp z).2; omega
    rw [unitsF, List.count_append, h2, Nat.zero_add, List.getD_cons_succ, ← ih, show k + (j + 1) = k + 1 + j by omega]
theorem units_snoc : ∀ {k : Nat} {r : List Int} {x : Int}, unitsF k (r ++ [x]) = unitsF k r ++ List.replicate x.toNat (k + r.length)
  | k, [], x => by simp [unitsF]
  | k, y :: r, x => by
    rw [List.cons_append, unitsF, unitsF, units_snoc, List.append_assoc, List.length_cons, show k + 1 + r.length = k + (r.length + 1) by omega]
def incE (m : List (List Int)) (i u : Nat) : List (List Int) := m.set i ((m.getD i []).set u ((m.getD i []).getD u 0 + 1))
/-- what is left of the row when some units are shared out -/
structure Part (n many at_ : Nat) (us : List Nat) (m : List (List Int)) : Prop where
  len : m.length = many
  row : ∀ r ∈ m, r.length = n ∧ ∀ x ∈ r, 0 ≤ x ∧ x ≤ at_
  col : ∀ j, (colM m j).sum = ((us.take at_).count j : Nat)
  pos : ∀ i, i < at_ → i < many → 0 < (m.getD i []).sum
theorem Part.inc {n many at_ i u : Nat} {us : List Nat} {m : List (List Int)} (h : Part n many at_ us m) (hu : us[at_]? = some u) (hn : u < n) (hi : i < many) (hp : at_ < many → i = at_) : Part n many (at_ + 1) us (incE m i u) := by
  have him : i < m.length := by rw [h.len]; exact hi
  have hrow : (m.getD i []).length = n ∧ ∀ x ∈ m.getD i [], 0 ≤ x ∧ x ≤ at_ := by
    rw [getD_lt him]; exact h.row _ (List.getElem_mem him)
  have hul : u < (m.getD i []).length := by rw [hrow.1]; exact hn
  have hold := hrow.2 _ (getD_mem hul)
  refine ⟨by unfold incE; rw [List.length_set]; exact h.len, fun r hr => ?_, fun j => ?_, fun i' h1 h2 => ?_⟩
  · rcases List.mem_or_eq_of_mem_set hr with hr | rfl
    · have := h.row r hr
      exact ⟨this.1, fun x hx => ⟨(this.2 x hx).1, by have := (this.2 x hx).2; omega⟩⟩
    · refine ⟨by rw [List.length_set]; exact hrow.1, fun x hx => ?_⟩
      rcases List.mem_or_eq_of_mem_set hx with hx | rfl
      · have := hrow.2 x hx; omega
      · omega
  · have hc := h.col j
    have et : us.take (at_ + 1) = us.take at_ ++ [u] := by
      obtain ⟨z1, z2⟩ := List.getElem?_eq_some_iff.mp hu
      rw [List.take_succ_eq_append_getElem z1, z2]
    rw [et, List.count_append]
    unfold incE
    rw [colM_set, sum_set (by rw [colM_len]; exact him), colM_get him, getD_set, hc]
    by_cases e : u = j
    · subst e
      rw [if_pos ⟨rfl, hul⟩, List.count_singleton_self]; omega
    · rw [if_neg fun z => e z.1, List.count_eq_zero.mpr fun z => e (List.mem_singleton.mp z).symm]; omega
  · unfold incE
    rw [getD_set]
    have hnn := sum_nn fun x hx => (hrow.2 x hx).1
    by_cases e : i = i' ∧ i < m.length
    · rw [if_pos e, sum_set hul]; omega
    · rw [if_neg e]
      refine h.pos i' ?_ h2
      by_cases c : i' < at_
      · exact c
      · have : i' = at_ := by omega
        subst this
        exact absurd ⟨hp h2, him⟩ e
/-! ### lists of places, item by item -/
def Pt (M : MH) : List Nat → List (List Int) → Prop
  | [], [] => True
  | r :: rs, row :: m => M[r]? = some (.lst (row.map .int)) ∧ Pt M rs m
  | _, _ => False
theorem Pt.app {M : MH} : ∀ {rs rs' : List Nat} {m m' : List (List Int)}, Pt M rs m → Pt M rs' m' → Pt M (rs ++ rs') (m ++ m')
  | [], _, [], _, _, h => h
  | r :: rs, _, row :: m, _, h, h' => ⟨h.1, Pt.app h.2 h'⟩
theorem Pt.take {M : MH} : ∀ {rs : List Nat} {m : List (List Int)} (n : Nat), Pt M rs m → Pt M (rs.take n) (m.take n)
  | [], [], _, h => by simp [Pt]
  | r :: rs, row :: m, 0, _ => trivial
  | r :: rs, row :: m, n + 1, h => ⟨h.1, Pt.take n h.2⟩
theorem Pt.drop {M : MH} : ∀ {rs : List Nat} {m : List (List Int)} (n : Nat), Pt M rs m → Pt M (rs.drop n) (m.drop n)
  | [], [], _, h => by simp [Pt]
  | r :: rs, row :: m, 0, h => h
  | r :: rs, row :: m, n + 1, h => Pt.drop n h.2
section
variable {wf d : Nat} {M M' : MH} {P : Nat → Option FD} {rs : List Nat} {m : List (List Int)} {i0 i1 i2 i3 i4 iT : Nat}
theorem pt_of : ∀ {rs : List Nat} {m : List (List Int)}, rs.length = m.length → (∀ (i r : Nat), rs[i]? = some r → M[r]? = some (MO.lst ((m.getD i []).map D.int))) → Pt M rs m
  | [], [], _, _ => trivial
  | r :: rs, row :: m, hl, h => ⟨h 0 r rfl, pt_of (by simpa using hl) fun i r hr => h (i + 1) r hr⟩
theorem RowsAt.pt (R : RowsAt M rs m) : Pt M rs m := pt_of R.len R.get
/-- tuple([tuple(row) for row in rows]) -/
theorem tup_pt {cl : Nat → List D → Ev D} {ρ : Env} {i : Nat} (hi : i < ρ.length) : ∀ {rs : List Nat} {m : List (List Int)}, Pt M rs m → walkE (turnE cl [i] true .nil (.bi .tuple (.cons (.var i) .nil)) ρ) (rs.map .ref) M = some (.ok (m.map rowD) M)
  | [], [], _ => rfl
  | r :: rs, row :: m, h => by
    have g : getS (ρ.set i (some (.ref r))) i = some (.ref r) := by unfold getS; rw [List.getElem?_set_self hi]
    rw [List.map_cons, List.map_cons]
    unfold walkE
    have e : turnE cl [i] true .nil (.bi .tuple (.cons (.var i) .nil)) ρ (.ref r) M = some (.ok (some (rowD row)) M) := by
      unfold turnE
      simp only [e_var, e_cst, e_bin, e_neg, e_cmp, e_cmp2, e_and, e_or, e_not, e_ite, e_tup, e_mkF, e_mkT, e_ix, e_slLo, e_slHi, e_slLH, e_rev, e_call, e_bi, e_isi, es_nil, es_cons, ec_nil, ec_cons, el_disp, el_cat, el_rep, el_list, ew_seq, ew_rng1, ew_rng2, ew_enum, ew_zip, s_expr, s_ret, s_retN, s_set, s_par, s_unp, s_app, s_setIx, s_augIx, s_aug, s_iff, s_while, s_raise, s_pass, s_brk, s_cont, ss_nil, ss_cons, lR_some, bR_ok, bR_ex, tR_ok, tR_ex, sR_nx, sR_rt, sR_bk, sR_ct, sR_xc, endR_rt, endR_nx, endR_xc, kR_t, kR_f, kA_t, kA_f, kA_b, kO_t, kO_f, kO_b, g_0, g_s, st_0, st_s, bT_1, bT_n, tS_1, ss0, ss1, wp0, wp1, permD, intD, truD, Option.map_some, Option.map_none, Option.bind_some, List.getElem?_cons_zero, List.getElem?_cons_succ, List.map_cons, List.map_nil, List.length_cons, List.length_nil, List.cons_append, List.nil_append, List.replicate_succ, List.replicate_zero, Nat.sub_self, fin_same, finX_same, fin_keep, if_true, if_false, reduceIte, g, bi_tupR h.1]
      rfl
    rw [e]
    simp only [tup_pt hi h.2]
/-- [[0] * n for turn in ..]: each row stands behind the list that it is made of -/
def zRefs (L : Nat) : Nat → List Nat
  | 0 => []
  | k + 1 => (L + 1) :: zRefs (L + 2) k
def zHeap (n : Nat) : Nat → MH
  | 0 => []
  | k + 1 => .lst [.int 0] :: .lst ((List.replicate n (0 : Int)).map .int) :: zHeap n k
theorem zHeap_len {n : Nat} : ∀ k, (zHeap n k).length = 2 * k
  | 0 => rfl
  | k + 1 => by rw [zHeap, List.length_cons, List.length_cons, zHeap_len k]; omega
theorem zRefs_len : ∀ {L k : Nat}, (zRefs L k).length = k
  | L, 0 => rfl
  | L, k + 1 => by rw [zRefs, List.length_cons, zRefs_len]
theorem zRefs_get : ∀ {L k i r : Nat}, (zRefs L k)[i]? = some r → r = L + 1 + 2 * i ∧ i < k
  | L, 0, i, r, h => by simp [zRefs] at h
  | L, k + 1, 0, r, h => by simp [zRefs] at h; omega
  | L, k + 1, i + 1, r, h => by
    have := zRefs_get (L := L + 2) (k := k) (i := i) (r := r) (by simpa [zRefs] using h)
    omega
theorem zHeap_get {n : Nat} : ∀ {k i : Nat}, i < k → (zHeap n k)[1 + 2 * i]? = some (.lst ((List.replicate n (0 : Int)).map .int))
  | k + 1, 0, _ => rfl
  | k + 1, i + 1, h => by
    rw [zHeap, show 1 + 2 * (i + 1) = (1 + 2 * i) + 1 + 1 by omega, List.getElem?_cons_succ, List.getElem?_cons_succ]
    exact zHeap_get (by omega)
theorem rows_zero {n k : Nat} : RowsAt (M ++ zHeap n k) (zRefs M.length k) (List.replicate k (List.replicate n 0)) := by
  refine ⟨by rw [zRefs_len, List.length_replicate], fun i j r h h' => ?_, fun i r h => ?_⟩
  · have := zRefs_get h
    have := zRefs_get h'
    omega
  · obtain ⟨rfl, hi⟩ := zRefs_get h
    rw [List.getElem?_append_right (by omega), show M.length + 1 + 2 * i - M.length = 1 + 2 * i by omega, zHeap_get hi, getD_lt (by rw [List.length_replicate]; exact hi), List.getElem_replicate]
theorem zero_rows {cl : Nat → List D → Ev D} {ρ : Env} {r : List Int} (hr : ∀ v, getS (ρ.set 10 v) 1 = some (rowD r)) (hl : r.length ≤ 1000) : ∀ (xs : List D) (M : MH),
    walkE (turnE cl [10] true .nil (.mk true (.rep (.mk true (.disp (.cons (.cst (.int 0)) .nil))) (.bi .len (.cons (.var 1) .nil)))) ρ) xs M = some (.ok ((zRefs M.length xs.length).map .ref) (M ++ zHeap r.length xs.length))
  | [], M => by
    show some (Rs.ok [] M) = _
    simp [zRefs, zHeap]
  | x :: xs, M => by
    unfold walkE
    have z1 : (1 : Nat) ≤ sizeLine := by decide
    have h1 : lstOf (M ++ [MO.lst [.int 0]]) (.ref M.length) = some [.int 0] := lstOf_ref app_get
    have h2 : -(2 ^ 63) ≤ (r.length : Int) ∧ (r.length : Int) < 2 ^ 63 ∧ 1 * (r.length : Int).toNat ≤ sizeLine := ⟨by omega, by omega, by
      rw [Nat.one_mul, Int.toNat_natCast]
      exact Nat.le_trans hl (by decide)⟩
    have h3 : (List.replicate (r.length : Int).toNat [D.int 0]).flatten = (List.replicate r.length (0 : Int)).map .int := by
      rw [Int.toNat_natCast, List.map_replicate]
      generalize r.length = n
      induction n with
      | zero => rfl
      | succ n ih => rw [List.replicate_succ, List.replicate_succ, List.flatten_cons, ih]; rfl
    have e : turnE cl [10] true .nil (.mk true (.rep (.mk true (.disp (.cons (.cst (.int 0)) .nil))) (.bi .len (.cons (.var 1) .nil)))) ρ x M = some (.ok (some (.ref (M.length + 1))) (M ++ [.lst [.int 0], .lst ((List.replicate r.length (0 : Int)).map .int)])) := by
      unfold turnE
      simp only [e_var, e_cst, e_bin, e_neg, e_cmp, e_cmp2, e_and, e_or, e_not, e_ite, e_tup, e_mkF, e_mkT, e_ix, e_slLo, e_slHi, e_slLH, e_rev, e_call, e_bi, e_isi, es_nil, es_cons, ec_nil, ec_cons, el_disp, el_cat, el_rep, el_list, ew_seq, ew_rng1, ew_rng2, ew_enum, ew_zip, s_expr, s_ret, s_retN, s_set, s_par, s_unp, s_app, s_setIx, s_augIx, s_aug, s_iff, s_while, s_raise, s_pass, s_brk, s_cont, ss_nil, ss_cons, lR_some, bR_ok, bR_ex, tR_ok, tR_ex, sR_nx, sR_rt, sR_bk, sR_ct, sR_xc, endR_rt, endR_nx, endR_xc, kR_t, kR_f, kA_t, kA_f, kA_b, kO_t, kO_f, kO_b, g_0, g_s, st_0, st_s, bT_1, bT_n, tS_1, ss0, ss1, wp0, wp1, permD, intD, truD, Option.map_some, Option.map_none, Option.bind_some, List.getElem?_cons_zero, List.getElem?_cons_succ, List.map_cons, List.map_nil, List.length_cons, List.length_nil, List.cons_append, List.nil_append, List.replicate_succ, List.replicate_zero, Nat.sub_self, fin_same, finX_same, fin_keep, if_true, if_false, reduceIte, Nat.reduceAdd, Nat.reduceLeDiff, Int.cast_ofNat_Int, Int.reduceEq, Int.reduceLE, Int.reduceLT, decide_true, decide_false, Nat.zero_le, Bool.not_true, Bool.not_false, Bool.false_or, Bool.true_or, Bool.or_false, Bool.true_and, Bool.false_and, Bool.and_true, Bool.and_false, if_pos z1, hr, bi_lenE, lenD_row, h1, if_pos h2, h3]
      simp
    rw [e]
    have ih := zero_rows (cl := cl) hr hl xs (M ++ [.lst [.int 0], .lst ((List.replicate r.length (0 : Int)).map .int)])
    simp only [ih, List.length_append, List.length_cons, List.length_nil, Nat.zero_add, List.append_assoc]
    rw [zRefs, zHeap]
    rfl
/-- a shared out row -/
structure PartOk (r : List Int) (most : Nat) (rows : List (List Int)) : Prop where
  one : 1 ≤ rows.length
  few : rows.length ≤ most
  row : ∀ q ∈ rows, q.length = r.length ∧ (∀ x ∈ q, 0 ≤ x ∧ x ≤ r.sum) ∧ 0 < q.sum
  col : ∀ j, (colM rows j).sum = r.getD j 0
end
end MP

set_option Elab.async false
set_option linter.all false
set_option maxRecDepth 100000
namespace MP
open PySem L2
section
variable {wf d : Nat} {M M' : MH} {P : Nat → Option FD} {rs : List Nat} {m : List (List Int)} {i0 i1 i2 i3 i4 iT : Nat}
theorem bin_mulL {xs : List D} {k : Int} (h : -(2 ^ 63) ≤ k ∧ k < 2 ^ 63 ∧ xs.length * k.toNat ≤ sizeLine) : binD M .mul (.lst xs) (.int k) = some (.lst (List.replicate k.toNat xs).flatten) := by
  show (match lstOf M (.lst xs) with
    | some xs => if -(2 ^ 63) ≤ k ∧ k < 2 ^ 63 ∧ xs.length * k.toNat ≤ sizeLine then some (D.lst (List.replicate k.toNat xs).flatten) else none
    | none => none) = _
  rw [lstOf_lst]
  simp only [if_pos h]
def natsD (us : List Nat) : List D := us.map fun (u : Nat) => D.int (u : Int)
theorem rep_flat {i : Nat} : ∀ n : Nat, (List.replicate n [D.int (i : Int)]).flatten = natsD (List.replicate n i)
  | 0 => rfl
  | n + 1 => by rw [List.replicate_succ, List.flatten_cons, rep_flat n, List.replicate_succ]; rfl
theorem take_sum_le {r : List Int} (h : ∀ x ∈ r, 0 ≤ x) (i : Nat) : (r.take i).sum ≤ r.sum := by
  have e : r.sum = (r.take i).sum + (r.drop i).sum := by rw [← List.sum_append, List.take_append_drop]
  have := sum_nn fun x hx => h x (List.mem_of_mem_drop (i := i) hx)
  omega
theorem units_loop {b : Nat} {r : List Int} {k : Nat} {most many : Int} {x6 x7 x8 x9 x10 : Option D} (hn : ∀ x ∈ r, 0 ≤ x) (hs : r.sum ≤ 10000) (hl : r.length ≤ 1000) :
    ∃ x5, forE (turnS (evF P wf d) b wf [5] true KA_part_rows_3x) (rangeD 0 (r.length : Int)) [some (.ref k), some (rowD r), some (.int most), some (.int many), some (.lst []), none, x6, x7, x8, x9, x10] M =
      some (.nx, [some (.ref k), some (rowD r), some (.int most), some (.int many), some (.lst (natsD (unitsF 0 r))), x5, x6, x7, x8, x9, x10], M) := by
  obtain ⟨ρ', M', e, hM, x5, hρ⟩ := forE_nx (f := turnS (evF P wf d) b wf [5] true KA_part_rows_3x) (fun i ρ M' => M' = M ∧ ∃ x5, ρ = [some (.ref k), some (rowD r), some (.int most), some (.int many), some (.lst (natsD (unitsF 0 (r.take i)))), x5, x6, x7, x8, x9, x10])
    (xs := rangeD 0 (r.length : Int)) (k := 0) (M := M) (ρ := [some (.ref k), some (rowD r), some (.int most), some (.int many), some (.lst []), none, x6, x7, x8, x9, x10]) ⟨rfl, none, rfl⟩ fun i x ρ M1 hx ⟨hM, x5, hρ⟩ => by
      subst hM hρ
      have hi : i < r.length := by have := (List.getElem?_eq_some_iff.mp hx).1; rwa [len_range] at this
      have hxe : x = .int (i : Int) := by
        rw [rangeD_eq, List.getElem?_map, List.getElem?_eq_getElem (by simpa using hi), List.getElem_range] at hx
        cases hx; rfl
      subst hxe
      rw [Nat.zero_add]
      have h1 := hn _ (List.getElem_mem hi)
      have h3 := mem_le_sum hn _ (List.getElem_mem hi)
      have h4 := units_len (k := 0) fun x hx => hn x (List.mem_of_mem_take (i := i) hx)
      have h5 := take_sum_le hn i
      have z1 : (1 : Nat) ≤ sizeLine := by decide
      have hd : r.getD i 0 = r[i] := getD_lt hi
      have ht : r.take (i + 1) = r.take i ++ [r[i]] := List.take_succ_eq_append_getElem hi
      refine ⟨_, M1, ?_, rfl, some (.int (i : Int)), rfl⟩
      simp only [turnS, e_var, e_cst, e_bin, e_neg, e_cmp, e_cmp2, e_and, e_or, e_not, e_ite, e_tup, e_mkF, e_mkT, e_ix, e_slLo, e_slHi, e_slLH, e_rev, e_call, e_bi, e_isi, es_nil, es_cons, ec_nil, ec_cons, el_disp, el_cat, el_rep, el_list, ew_seq, ew_rng1, ew_rng2, ew_enum, ew_zip, s_expr, s_ret, s_retN, s_set, s_par, s_unp, s_app, s_setIx, s_augIx, s_aug, s_iff, s_while, s_raise, s_pass, s_brk, s_cont, ss_nil, ss_cons, lR_some, bR_ok, bR_ex, tR_ok, tR_ex, sR_nx, sR_rt, sR_bk, sR_ct, sR_xc, endR_rt, endR_nx, endR_xc, kR_t, kR_f, kA_t, kA_f, kA_b, kO_t, kO_f, kO_b, g_0, g_s, st_0, st_s, bT_1, bT_n, tS_1, ss0, ss1, wp0, wp1, permD, intD, truD, Option.map_some, Option.map_none, Option.bind_some, List.getElem?_cons_zero, List.getElem?_cons_succ, List.map_cons, List.map_nil, List.length_cons, List.length_nil, List.cons_append, List.nil_append, List.replicate_succ, List.replicate_zero, Nat.sub_self, fin_same, finX_same, fin_keep, if_true, if_false, reduceIte, Nat.reduceAdd, Nat.reduceLeDiff, Int.cast_ofNat_Int, Int.reduceEq, Int.reduceLE, Int.reduceLT, decide_true, decide_false, Nat.zero_le, Bool.not_true, Bool.not_false, Bool.false_or, Bool.true_or, Bool.or_false, Bool.true_and, Bool.false_and, Bool.and_true, Bool.and_false, KA_part_rows_3x, KA_part_rows_3x_1, if_pos z1, row_at hi, hd]
      have h6 : [D.int (i : Int)].length * r[i].toNat ≤ sizeLine := by rw [List.length_cons, List.length_nil, Nat.zero_add, Nat.one_mul, sizeLine_eq]; omega
      rw [bin_mulL ⟨by omega, by omega, h6⟩]
      simp only [e_var, e_cst, e_bin, e_neg, e_cmp, e_cmp2, e_and, e_or, e_not, e_ite, e_tup, e_mkF, e_mkT, e_ix, e_slLo, e_slHi, e_slLH, e_rev, e_call, e_bi, e_isi, es_nil, es_cons, ec_nil, ec_cons, el_disp, el_cat, el_rep, el_list, ew_seq, ew_rng1, ew_rng2, ew_enum, ew_zip, s_expr, s_ret, s_retN, s_set, s_par, s_unp, s_app, s_setIx, s_augIx, s_aug, s_iff, s_while, s_raise, s_pass, s_brk, s_cont, ss_nil, ss_cons, lR_some, bR_ok, bR_ex, tR_ok, tR_ex, sR_nx, sR_rt, sR_bk, sR_ct, sR_xc, endR_rt, endR_nx, endR_xc, kR_t, kR_f, kA_t, kA_f, kA_b, kO_t, kO_f, kO_b, g_0, g_s, st_0, st_s, bT_1, bT_n, tS_1, ss0, ss1, wp0, wp1, permD, intD, truD, Option.map_some, Option.map_none, Option.bind_some, List.getElem?_cons_zero, List.getElem?_cons_succ, List.map_cons, List.map_nil, List.length_cons, List.length_nil, List.cons_append, List.nil_append, List.replicate_succ, List.replicate_zero, Nat.sub_self, fin_same, finX_same, fin_keep, if_true, if_false, reduceIte, rep_flat]
      rw [bin_addL (by unfold natsD; rw [List.length_map, List.length_map, List.length_replicate, sizeLine_eq]; omega)]
      simp only [e_var, e_cst, e_bin, e_neg, e_cmp, e_cmp2, e_and, e_or, e_not, e_ite, e_tup, e_mkF, e_mkT, e_ix, e_slLo, e_slHi, e_slLH, e_rev, e_call, e_bi, e_isi, es_nil, es_cons, ec_nil, ec_cons, el_disp, el_cat, el_rep, el_list, ew_seq, ew_rng1, ew_rng2, ew_enum, ew_zip, s_expr, s_ret, s_retN, s_set, s_par, s_unp, s_app, s_setIx, s_augIx, s_aug, s_iff, s_while, s_raise, s_pass, s_brk, s_cont, ss_nil, ss_cons, lR_some, bR_ok, bR_ex, tR_ok, tR_ex, sR_nx, sR_rt, sR_bk, sR_ct, sR_xc, endR_rt, endR_nx, endR_xc, kR_t, kR_f, kA_t, kA_f, kA_b, kO_t, kO_f, kO_b, g_0, g_s, st_0, st_s, bT_1, bT_n, tS_1, ss0, ss1, wp0, wp1, permD, intD, truD, Option.map_some, Option.map_none, Option.bind_some, List.getElem?_cons_zero, List.getElem?_cons_succ, List.map_cons, List.map_nil, List.length_cons, List.length_nil, List.cons_append, List.nil_append, List.replicate_succ, List.replicate_zero, Nat.sub_self, fin_same, finX_same, fin_keep, if_true, if_false, reduceIte]
      rw [ht, units_snoc, Nat.zero_add, List.length_take, Nat.min_eq_left (Nat.le_of_lt hi)]
      unfold natsD
      rw [List.map_append]
  subst hM hρ
  rw [len_range, Nat.zero_add, List.take_length] at e
  exact ⟨x5, e⟩
theorem share_turn {k b many n i : Nat} {ns : List Int} {K most : Int} {us : List Nat} {r : List Int} (hT : P iT = some ⟨2, 5, KA_take, false⟩) (hn : ns.length ≤ 100) (hm : 1 ≤ many ∧ many ≤ 1000) (hi : i < us.length) (hus : ∀ u ∈ us, u < n) (hk : k ∉ rs) (hE : Part n many i us m) (R : RowsAt M rs m) (hp : PotAt M k ns K) (hK : K + 1 ≤ 1000000) {x5 x7 x8 x9 x10 : Option D} :
    ∃ ρ' M' m', turnS (evF P wf (d + 1)) b wf [7] true (KA_part_rows_5x iT) (.int (i : Int)) [some (.ref k), some (rowD r), some (.int most), some (.int (many : Int)), some (.lst (natsD us)), x5, some (.lst (rs.map .ref)), x7, x8, x9, x10] M = some (.nx, ρ', M') ∧
      (∃ x7 x8, ρ' = [some (.ref k), some (rowD r), some (.int most), some (.int (many : Int)), some (.lst (natsD us)), x5, some (.lst (rs.map .ref)), x7, x8, x9, x10]) ∧ PotAt M' k ns (K + 1) ∧ RowsAt M' rs m' ∧ Part n many (i + 1) us m' ∧ M'.length = M.length ∧ ∀ n, n ≠ k → n ∉ rs → M'[n]? = M[n]? := by
  have hne : ∀ {i r n : Nat}, rs[i]? = some r → n ∉ rs → r ≠ n := fun h hn z => hn (by rw [← z]; exact List.mem_of_getElem? h)
  have hu : us[i]? = some us[i] := List.getElem?_eq_getElem hi
  have hun := hus _ (List.getElem_mem hi)
  have hat : L2.atI (natsD us) (i : Int) = some (.int (us[i] : Int)) := by
    refine MP.atI_nat ?_
    unfold natsD
    rw [List.getElem?_map, hu]; rfl
  -- which row
  have fin : ∀ (q : Nat) (M1 : MH), q < many → (i < many → q = i) → PotAt M1 k ns (K + 1) → Only M k M1 → ∃ M' m' rq, rs[q]? = some rq ∧ ixD M1 (.lst (rs.map .ref)) (q : Int) = some (.ref rq) ∧
      (∀ ρ : Env, getS ρ 8 = some (.ref rq) → getS ρ 7 = some (.int (i : Int)) → getS ρ 4 = some (.lst (natsD us)) → exs1 (evF P wf (d + 1)) b wf KA_part_rows_5x_2 ρ M1 = some (.nx, ρ, M')) ∧ PotAt M' k ns (K + 1) ∧ RowsAt M' rs m' ∧ Part n many (i + 1) us m' ∧ M'.length = M.length ∧ ∀ n, n ≠ k → n ∉ rs → M'[n]? = M[n]? := by
    intro q M1 hq hqi p1 o1
    have R1 := R.draw o1 hk
    have hqm : q < m.length := by rw [hE.len]; exact hq
    obtain ⟨rq, h1, h2, h3⟩ := R1.at' hqm
    have hrow : (m.getD q []).length = n := by rw [getD_lt hqm]; exact (hE.row _ (List.getElem_mem hqm)).1
    have hul : us[i] < (m.getD q []).length := by rw [hrow]; exact hun
    refine ⟨_, _, rq, h1, h3, fun ρ e8 e7 e4 => ?_, ?_, R1.set (row := (m.getD q []).set us[i] ((m.getD q []).getD us[i] 0 + 1)) h1, hE.inc hu hun hq hqi, ?_, ?_⟩
    · simp only [KA_part_rows_5x_2, e_var, e_cst, e_bin, e_neg, e_cmp, e_cmp2, e_and, e_or, e_not, e_ite, e_tup, e_mkF, e_mkT, e_ix, e_slLo, e_slHi, e_slLH, e_rev, e_call, e_bi, e_isi, es_nil, es_cons, ec_nil, ec_cons, el_disp, el_cat, el_rep, el_list, ew_seq, ew_rng1, ew_rng2, ew_enum, ew_zip, s_expr, s_ret, s_retN, s_set, s_par, s_unp, s_app, s_setIx, s_augIx, s_aug, s_iff, s_while, s_raise, s_pass, s_brk, s_cont, ss_nil, ss_cons, lR_some, bR_ok, bR_ex, tR_ok, tR_ex, sR_nx, sR_rt, sR_bk, sR_ct, sR_xc, endR_rt, endR_nx, endR_xc, kR_t, kR_f, kA_t, kA_f, kA_b, kO_t, kO_f, kO_b, g_0, g_s, st_0, st_s, bT_1, bT_n, tS_1, ss0, ss1, wp0, wp1, permD, intD, truD, Option.map_some, Option.map_none, Option.bind_some, List.getElem?_cons_zero, List.getElem?_cons_succ, List.map_cons, List.map_nil, List.length_cons, List.length_nil, List.cons_append, List.nil_append, List.replicate_succ, List.replicate_zero, Nat.sub_self, fin_same, finX_same, fin_keep, if_true, if_false, reduceIte, e8, e7, e4, ixD_lst, hat, lstOf_ref h2, at_int hul, augD]
      rw [setIx_nat (j := us[i]) h2 (by rw [List.length_map]; exact hul) (.inr rfl), set_some]
      simp only [e_var, e_cst, e_bin, e_neg, e_cmp, e_cmp2, e_and, e_or, e_not, e_ite, e_tup, e_mkF, e_mkT, e_ix, e_slLo, e_slHi, e_slLH, e_rev, e_call, e_bi, e_isi, es_nil, es_cons, ec_nil, ec_cons, el_disp, el_cat, el_rep, el_list, ew_seq, ew_rng1, ew_rng2, ew_enum, ew_zip, s_expr, s_ret, s_retN, s_set, s_par, s_unp, s_app, s_setIx, s_augIx, s_aug, s_iff, s_while, s_raise, s_pass, s_brk, s_cont, ss_nil, ss_cons, lR_some, bR_ok, bR_ex, tR_ok, tR_ex, sR_nx, sR_rt, sR_bk, sR_ct, sR_xc, endR_rt, endR_nx, endR_xc, kR_t, kR_f, kA_t, kA_f, kA_b, kO_t, kO_f, kO_b, g_0, g_s, st_0, st_s, bT_1, bT_n, tS_1, ss0, ss1, wp0, wp1, permD, intD, truD, Option.map_some, Option.map_none, Option.bind_some, List.getElem?_cons_zero, List.getElem?_cons_succ, List.map_cons, List.map_nil, List.length_cons, List.length_nil, List.cons_append, List.nil_append, List.replicate_succ, List.replicate_zero, Nat.sub_self, fin_same, finX_same, fin_keep, if_true, if_false, reduceIte]
    · exact p1.other (List.getElem?_set_ne (hne h1 hk))
    · rw [List.length_set, o1.1]
    · intro n hn1 hn2
      rw [List.getElem?_set_ne (hne h1 hn2), o1.2 n hn1]
  simp only [turnS, KA_part_rows_5x, KA_part_rows_5x_1, e_var, e_cst, e_bin, e_neg, e_cmp, e_cmp2, e_and, e_or, e_not, e_ite, e_tup, e_mkF, e_mkT, e_ix, e_slLo, e_slHi, e_slLH, e_rev, e_call, e_bi, e_isi, es_nil, es_cons, ec_nil, ec_cons, el_disp, el_cat, el_rep, el_list, ew_seq, ew_rng1, ew_rng2, ew_enum, ew_zip, s_expr, s_ret, s_retN, s_set, s_par, s_unp, s_app, s_setIx, s_augIx, s_aug, s_iff, s_while, s_raise, s_pass, s_brk, s_cont, ss_nil, ss_cons, lR_some, bR_ok, bR_ex, tR_ok, tR_ex, sR_nx, sR_rt, sR_bk, sR_ct, sR_xc, endR_rt, endR_nx, endR_xc, kR_t, kR_f, kA_t, kA_f, kA_b, kO_t, kO_f, kO_b, g_0, g_s, st_0, st_s, bT_1, bT_n, tS_1, ss0, ss1, wp0, wp1, permD, intD, truD, Option.map_some, Option.map_none, Option.bind_some, List.getElem?_cons_zero, List.getElem?_cons_succ, List.map_cons, List.map_nil, List.length_cons, List.length_nil, List.cons_append, List.nil_append, List.replicate_succ, List.replicate_zero, Nat.sub_self, fin_same, finX_same, fin_keep, if_true, if_false, reduceIte, Nat.reduceAdd, Nat.reduceLeDiff, Int.cast_ofNat_Int, Int.reduceEq, Int.reduceLE, Int.reduceLT, decide_true, decide_false, Nat.zero_le, Bool.not_true, Bool.not_false, Bool.false_or, Bool.true_or, Bool.or_false, Bool.true_and, Bool.false_and, Bool.and_true, Bool.and_false, cmp_lt]
  by_cases c : i < many
  · obtain ⟨M', m', rq, h1, h3, st, z⟩ := fin i M c (fun _ => rfl) (hp.mono (by omega)) .refl
    simp only [decide_eq_true (show (i : Int) < many by omega), e_var, e_cst, e_bin, e_neg, e_cmp, e_cmp2, e_and, e_or, e_not, e_ite, e_tup, e_mkF, e_mkT, e_ix, e_slLo, e_slHi, e_slLH, e_rev, e_call, e_bi, e_isi, es_nil, es_cons, ec_nil, ec_cons, el_disp, el_cat, el_rep, el_list, ew_seq, ew_rng1, ew_rng2, ew_enum, ew_zip, s_expr, s_ret, s_retN, s_set, s_par, s_unp, s_app, s_setIx, s_augIx, s_aug, s_iff, s_while, s_raise, s_pass, s_brk, s_cont, ss_nil, ss_cons, lR_some, bR_ok, bR_ex, tR_ok, tR_ex, sR_nx, sR_rt, sR_bk, sR_ct, sR_xc, endR_rt, endR_nx, endR_xc, kR_t, kR_f, kA_t, kA_f, kA_b, kO_t, kO_f, kO_b, g_0, g_s, st_0, st_s, bT_1, bT_n, tS_1, ss0, ss1, wp0, wp1, permD, intD, truD, Option.map_some, Option.map_none, Option.bind_some, List.getElem?_cons_zero, List.getElem?_cons_succ, List.map_cons, List.map_nil, List.length_cons, List.length_nil, List.cons_append, List.nil_append, List.replicate_succ, List.replicate_zero, Nat.sub_self, fin_same, finX_same, fin_keep, if_true, if_false, reduceIte, Nat.reduceAdd, Nat.reduceLeDiff, Int.cast_ofNat_Int, Int.reduceEq, Int.reduceLE, Int.reduceLT, decide_true, decide_false, Nat.zero_le, Bool.not_true, Bool.not_false, Bool.false_or, Bool.true_or, Bool.or_false, Bool.true_and, Bool.false_and, Bool.and_true, Bool.and_false, h3]
    rw [st _ rfl rfl rfl]
    exact ⟨_, M', m', rfl, ⟨_, _, rfl⟩, z⟩
  · obtain ⟨q, M1, e1, b1, p1, o1⟩ := takeN (wf := wf) (d := d) (many := many) hT hp hn (by omega) (by omega) (by omega)
    obtain ⟨M', m', rq, h1, h3, st, z⟩ := fin q M1 b1 (fun h => absurd h c) p1 o1
    simp only [decide_eq_false (show ¬ (i : Int) < many by omega), e_var, e_cst, e_bin, e_neg, e_cmp, e_cmp2, e_and, e_or, e_not, e_ite, e_tup, e_mkF, e_mkT, e_ix, e_slLo, e_slHi, e_slLH, e_rev, e_call, e_bi, e_isi, es_nil, es_cons, ec_nil, ec_cons, el_disp, el_cat, el_rep, el_list, ew_seq, ew_rng1, ew_rng2, ew_enum, ew_zip, s_expr, s_ret, s_retN, s_set, s_par, s_unp, s_app, s_setIx, s_augIx, s_aug, s_iff, s_while, s_raise, s_pass, s_brk, s_cont, ss_nil, ss_cons, lR_some, bR_ok, bR_ex, tR_ok, tR_ex, sR_nx, sR_rt, sR_bk, sR_ct, sR_xc, endR_rt, endR_nx, endR_xc, kR_t, kR_f, kA_t, kA_f, kA_b, kO_t, kO_f, kO_b, g_0, g_s, st_0, st_s, bT_1, bT_n, tS_1, ss0, ss1, wp0, wp1, permD, intD, truD, Option.map_some, Option.map_none, Option.bind_some, List.getElem?_cons_zero, List.getElem?_cons_succ, List.map_cons, List.map_nil, List.length_cons, List.length_nil, List.cons_append, List.nil_append, List.replicate_succ, List.replicate_zero, Nat.sub_self, fin_same, finX_same, fin_keep, if_true, if_false, reduceIte, Nat.reduceAdd, Nat.reduceLeDiff, Int.cast_ofNat_Int, Int.reduceEq, Int.reduceLE, Int.reduceLT, decide_true, decide_false, Nat.zero_le, Bool.not_true, Bool.not_false, Bool.false_or, Bool.true_or, Bool.or_false, Bool.true_and, Bool.false_and, Bool.and_true, Bool.and_false, e1, h3]
    rw [st _ rfl rfl rfl]
    exact ⟨_, M', m', rfl, ⟨_, _, rfl⟩, z⟩
theorem part_zero {n many : Nat} {us : List Nat} : Part n many 0 us (List.replicate many (List.replicate n 0)) := by
  refine ⟨List.length_replicate, fun r hr => ?_, fun j => ?_, fun i h => absurd h (Nat.not_lt_zero _)⟩
  · rw [(List.mem_replicate.mp hr).2]
    exact ⟨List.length_replicate, fun x hx => by rw [(List.mem_replicate.mp hx).2]; exact ⟨Int.le_refl 0, Int.le_refl 0⟩⟩
  · rw [List.take_zero, List.count_nil]
    have : ∀ x ∈ colM (List.replicate many (List.replicate n (0 : Int))) j, x = 0 := fun x hx => by
      obtain ⟨r, hr, rfl⟩ := List.mem_map.mp hx
      rw [(List.mem_replicate.mp hr).2]
      by_cases hj : j < n
      · rw [getD_lt (by rw [List.length_replicate]; exact hj), List.getElem_replicate]
      · exact getD_ge (by rw [List.length_replicate]; omega)
    generalize colM (List.replicate many (List.replicate n (0 : Int))) j = l at this
    induction l with
    | nil => rfl
    | cons x l ih =>
      rw [List.sum_cons, this x List.mem_cons_self, ih fun y hy => this y (List.mem_cons_of_mem _ hy)]; rfl
theorem slLo_lst {xs : List D} {s : Nat} (h : s ≤ xs.length) : slD M (.lst xs) (some (s : Int)) none = some (.lst (xs.drop s)) := by
  rw [slD_lst]
  unfold cutD
  rw [HT.sIx_nat, HT.sIx_none, Nat.min_eq_left h, List.take_of_length_le (by rw [List.length_drop]; omega)]
theorem slHi_lst {xs : List D} {s : Nat} (h : s ≤ xs.length) : slD M (.lst xs) none (some (s : Int)) = some (.lst (xs.take s)) := by
  rw [slD_lst]
  unfold cutD
  rw [HT.sIx_nat, HT.sIx_none, Nat.min_eq_left h, Nat.sub_zero, List.drop_zero]
theorem t_part_rows {k most : Nat} {ns : List Int} {K : Int} {r : List Int} (hT : P iT = some ⟨2, 5, KA_take, false⟩) (h0 : P i0 = some ⟨3, 11, KA_part_rows iT, false⟩) (hn : ns.length ≤ 100) (hm : 1 ≤ most ∧ most ≤ 100) (hr : ∀ x ∈ r, 0 ≤ x) (hs : 0 < r.sum ∧ r.sum ≤ 10000) (hl : r.length ≤ 1000) (hp : PotAt M k ns K) (hK : K ≤ 900000) (hk : k < M.length) :
    ∃ rows M', evF P wf (d + 2) i0 [.ref k, rowD r, .int (most : Int)] M = some (.ok (mx rows) M') ∧ PartOk r most rows ∧ PotAt M' k ns (K + 2 + r.sum) ∧ Only M k M' := by
  rw [evF_eq h0 rfl]
  obtain ⟨q, hq⟩ : ∃ q : Nat, (q : Int) = if r.sum < most then r.sum else most := ⟨(if r.sum < (most : Int) then r.sum else (most : Int)).toNat, by split <;> omega⟩
  have hq1 : 1 ≤ q ∧ q ≤ most ∧ (q : Int) ≤ r.sum := by split at hq <;> omega
  obtain ⟨c, M1, e1, b1, p1, o1⟩ := takeN (wf := wf) (d := d) (many := q) hT hp hn (by omega) (by omega) (by omega)
  obtain ⟨many, hmany⟩ : ∃ many : Nat, many = 1 + c := ⟨_, rfl⟩
  have hmi : (1 : Int) + (c : Int) = (many : Int) := by omega
  have hmin : ∀ M : MH, biD M .min2 [.int (most : Int), .int r.sum] = some (.int (q : Int)) := fun M => by rw [bi_min2, hq]
  have z0 : (0 : Nat) ≤ sizeLine := Nat.zero_le _
  have hro : ∀ (n : Nat), n ≤ 20000 → ∀ M : MH, rngR 0 (n : Int) M = some (.ok (.one (.fix (rangeD 0 (n : Int)))) M) := fun n h M => rngR_0 (Nat.lt_of_le_of_lt h (by decide))
  obtain ⟨x5, e2⟩ := units_loop (P := P) (wf := wf) (d := d + 1) (M := M1) (b := M.length) (k := k) (most := (most : Int)) (many := (many : Int)) (x6 := none) (x7 := none) (x8 := none) (x9 := none) (x10 := none) hr hs.2 hl
  have hul := units_len (k := 0) hr
  generalize hus : unitsF 0 r = us at e2 hul
  have hzr := zero_rows (cl := evF P wf (d + 1)) (ρ := [some (.ref k), some (rowD r), some (.int (most : Int)), some (.int (many : Int)), some (.lst (natsD us)), x5, none, none, none, none, none]) (r := r) (fun _ => rfl) hl (rangeD 0 (many : Int)) M1
  rw [len_range] at hzr
  have hk1 : k < M1.length := by rw [o1.1]; exact hk
  have hkr : ∀ n, n < M1.length → n ∉ zRefs M1.length many := fun n h z => by
    obtain ⟨i, hi⟩ := List.mem_iff_getElem?.mp z
    have := zRefs_get hi
    omega
  have R0 : RowsAt (M1 ++ zHeap r.length many) (zRefs M1.length many) (List.replicate many (List.replicate r.length 0)) := rows_zero
  have hrl : (zRefs M1.length many).length = many := zRefs_len
  generalize zRefs M1.length many = rs at hzr hkr R0 hrl
  have hlen : (natsD us).length = us.length := List.length_map _
  obtain ⟨ρ', M2, e3, ⟨x7, x8, rfl⟩, m, R2, s2, p2, l2, o2⟩ := forE_nx (f := turnS (evF P wf (d + 1)) M.length wf [7] true (KA_part_rows_5x iT))
    (fun i ρ M' => (∃ x7 x8, ρ = [some (.ref k), some (rowD r), some (.int (most : Int)), some (.int (many : Int)), some (.lst (natsD us)), x5, some (.lst (rs.map .ref)), x7, x8, none, none]) ∧ ∃ m, RowsAt M' rs m ∧ Part r.length many i us m ∧ PotAt M' k ns (K + 1 + i) ∧ M'.length = (M1 ++ zHeap r.length many).length ∧ ∀ n, n < M1.length → n ≠ k → M'[n]? = M1[n]?)
    (xs := rangeD 0 (us.length : Int)) (k := 0) (M := M1 ++ zHeap r.length many) (ρ := [some (.ref k), some (rowD r), some (.int (most : Int)), some (.int (many : Int)), some (.lst (natsD us)), x5, some (.lst (rs.map .ref)), none, none, none, none])
    ⟨⟨_, _, rfl⟩, _, R0, part_zero, (p1.mono (by omega)).other (List.getElem?_append_left hk1), rfl, fun n h _ => List.getElem?_append_left h⟩
    fun i x ρ M3 hx ⟨⟨x7, x8, hρ⟩, m, R3, s3, p3, l3, o3⟩ => by
      subst hρ
      have hi : i < us.length := by have := (List.getElem?_eq_some_iff.mp hx).1; rwa [len_range] at this
      have hxe : x = .int (i : Int) := by
        rw [rangeD_eq, List.getElem?_map, List.getElem?_eq_getElem (by simpa using hi), List.getElem_range] at hx
        cases hx; rfl
      subst hxe
      rw [Nat.zero_add] at s3 p3 ⊢
      obtain ⟨ρ', M4, m', e4, hρ', p4, R4, s4, l4, o4⟩ := share_turn (wf := wf) (d := d) (b := M.length) (r := r) (most := (most : Int)) (x5 := x5) (x7 := x7) (x8 := x8) (x9 := none) (x10 := none) hT hn ⟨by omega, by omega⟩ hi (fun u hu => by
        rw [← hus] at hu
        have := units_mem hu
        omega) (hkr k hk1) s3 R3 p3 (by omega)
      exact ⟨ρ', M4, e4, hρ', m', R4, s4, p4.mono (by omega), l4.trans l3, fun n h1 h2 => (o4 n h2 (hkr n h1)).trans (o3 n h1 h2)⟩
  rw [len_range, Nat.zero_add] at s2 p2
  obtain ⟨sh, M3, e4, b4, p4, o4⟩ := takeN (wf := wf) (d := d) (many := many) hT p2 hn (by omega) (by omega) (by omega)
  have R3 := R2.draw o4 (hkr k hk1)
  have hshl : sh ≤ (rs.map D.ref).length := by rw [List.length_map, hrl]; omega
  have hcat : ∀ M : MH, binD M .add (.lst ((rs.map D.ref).drop sh)) (.lst ((rs.map D.ref).take sh)) = some (.lst ((rs.drop sh ++ rs.take sh).map .ref)) := fun M => by
    rw [bin_addL (by rw [List.length_drop, List.length_take, List.length_map, hrl, sizeLine_eq]; omega), List.map_append, List.map_drop, List.map_take]
  have hpt : Pt M3 (rs.drop sh ++ rs.take sh) (m.drop sh ++ m.take sh) := (R3.pt.drop sh).app (R3.pt.take sh)
  have hfin := tup_pt (cl := evF P wf (d + 1)) (ρ := [some (.ref k), some (rowD r), some (.int (most : Int)), some (.int (many : Int)), some (.lst (natsD us)), x5, some (.lst (rs.map .ref)), x7, none, some (.int (sh : Int)), none]) (i := 8) (by simp) hpt
  have hml := s2.len
  refine ⟨m.drop sh ++ m.take sh, M3.take M.length, ?_, ⟨?_, ?_, fun q hq => ?_, fun j => ?_⟩, ?_, take_same (by rw [o4.1, l2, List.length_append, o1.1]; omega) fun n h1 h2 => by rw [o4.2 n h2, o2 n (by rw [o1.1]; exact h1) h2, o1.2 n h2]⟩
  · simp only [KA_part_rows, KA_part_rows_1, KA_part_rows_2, KA_part_rows_3, KA_part_rows_4, e_var, e_cst, e_bin, e_neg, e_cmp, e_cmp2, e_and, e_or, e_not, e_ite, e_tup, e_mkF, e_mkT, e_ix, e_slLo, e_slHi, e_slLH, e_rev, e_call, e_bi, e_isi, es_nil, es_cons, ec_nil, ec_cons, el_disp, el_cat, el_rep, el_list, ew_seq, ew_rng1, ew_rng2, ew_enum, ew_zip, s_expr, s_ret, s_retN, s_set, s_par, s_unp, s_app, s_setIx, s_augIx, s_aug, s_iff, s_while, s_raise, s_pass, s_brk, s_cont, ss_nil, ss_cons, lR_some, bR_ok, bR_ex, tR_ok, tR_ex, sR_nx, sR_rt, sR_bk, sR_ct, sR_xc, endR_rt, endR_nx, endR_xc, kR_t, kR_f, kA_t, kA_f, kA_b, kO_t, kO_f, kO_b, g_0, g_s, st_0, st_s, bT_1, bT_n, tS_1, ss0, ss1, wp0, wp1, permD, intD, truD, Option.map_some, Option.map_none, Option.bind_some, List.getElem?_cons_zero, List.getElem?_cons_succ, List.map_cons, List.map_nil, List.length_cons, List.length_nil, List.cons_append, List.nil_append, List.replicate_succ, List.replicate_zero, Nat.sub_self, fin_same, finX_same, fin_keep, if_true, if_false, reduceIte, Nat.reduceAdd, Nat.reduceLeDiff, Int.cast_ofNat_Int, Int.reduceEq, Int.reduceLE, Int.reduceLT, decide_true, decide_false, Nat.zero_le, Bool.not_true, Bool.not_false, Bool.false_or, Bool.true_or, Bool.or_false, Bool.true_and, Bool.false_and, Bool.and_true, Bool.and_false, bi_sumT, hmin, e1, bin_add, hmi, if_pos z0, s_for, bi_lenE, lenD_row, hro r.length (by omega), forW_fix0, e2, el_comp, hro many (by omega), if_pos (lenW_fix (M := M1) (xs := rangeD 0 (many : Int)) (n := 1000) (by rw [len_range]; omega)), walkW_fix0]
    rw [hzr]
    simp only [KA_part_rows_5, KA_part_rows_6, KA_part_rows_7, e_var, e_cst, e_bin, e_neg, e_cmp, e_cmp2, e_and, e_or, e_not, e_ite, e_tup, e_mkF, e_mkT, e_ix, e_slLo, e_slHi, e_slLH, e_rev, e_call, e_bi, e_isi, es_nil, es_cons, ec_nil, ec_cons, el_disp, el_cat, el_rep, el_list, ew_seq, ew_rng1, ew_rng2, ew_enum, ew_zip, s_expr, s_ret, s_retN, s_set, s_par, s_unp, s_app, s_setIx, s_augIx, s_aug, s_iff, s_while, s_raise, s_pass, s_brk, s_cont, ss_nil, ss_cons, lR_some, bR_ok, bR_ex, tR_ok, tR_ex, sR_nx, sR_rt, sR_bk, sR_ct, sR_xc, endR_rt, endR_nx, endR_xc, kR_t, kR_f, kA_t, kA_f, kA_b, kO_t, kO_f, kO_b, g_0, g_s, st_0, st_s, bT_1, bT_n, tS_1, ss0, ss1, wp0, wp1, permD, intD, truD, Option.map_some, Option.map_none, Option.bind_some, List.getElem?_cons_zero, List.getElem?_cons_succ, List.map_cons, List.map_nil, List.length_cons, List.length_nil, List.cons_append, List.nil_append, List.replicate_succ, List.replicate_zero, Nat.sub_self, fin_same, finX_same, fin_keep, if_true, if_false, reduceIte, Nat.reduceAdd, Nat.reduceLeDiff, Int.cast_ofNat_Int, Int.reduceEq, Int.reduceLE, Int.reduceLT, decide_true, decide_false, Nat.zero_le, Bool.not_true, Bool.not_false, Bool.false_or, Bool.true_or, Bool.or_false, Bool.true_and, Bool.false_and, Bool.and_true, Bool.and_false, s_for, bi_lenE, lenD_lst, hlen, hro us.length (by omega), forW_fix0, e3, e4, slLo_lst hshl, slHi_lst hshl, hcat, el_comp, srcOf_lst, if_pos (lenW_refs (M := M3) (rs := rs.drop sh ++ rs.take sh) (n := 1000) (by rw [List.length_append, List.length_drop, List.length_take, hrl]; omega)), walkW_fix0, hfin, bi_tupL]
    exact fin_clo (clo_mx _) rfl
  · rw [List.length_append, List.length_drop, List.length_take]; omega
  · rw [List.length_append, List.length_drop, List.length_take]; omega
  · have hmem : q ∈ m := by
      rcases List.mem_append.mp hq with h | h
      · exact List.mem_of_mem_drop h
      · exact List.mem_of_mem_take h
    have := s2.row q hmem
    refine ⟨this.1, fun x hx => ⟨(this.2 x hx).1, by have := (this.2 x hx).2; omega⟩, ?_⟩
    obtain ⟨i, hi, rfl⟩ := List.getElem_of_mem hmem
    have := s2.pos i (by omega) (by omega)
    rwa [getD_lt hi] at this
  · have e : (colM (m.drop sh ++ m.take sh) j).sum = (colM m j).sum := by
      unfold colM
      rw [List.map_append, List.sum_append, Int.add_comm, ← List.sum_append, ← List.map_append, List.take_append_drop]
    rw [e, s2.col, List.take_length, ← hus]
    have := units_count (k := 0) (j := j) hr
    rwa [Nat.zero_add] at this
  · refine (p4.mono (by omega)).other ?_
    rw [List.getElem?_take_of_lt hk]
end
end MP

set_option Elab.async false
set_option linter.all false
set_option maxRecDepth 100000
namespace MP
open PySem L2
variable {M : MH}
/-! ### slices and sums of tables -/
theorem nat_rowB {r : List Int} (h : ∀ x ∈ r, 0 ≤ x) : natsB (rowD r) = true := by
  show (r.map D.int).all isNatB = true
  rw [List.all_map]
  exact List.all_eq_true.mpr fun x hx => decide_eq_true (h x hx)
theorem slLo_m {m : List (List Int)} {s : Nat} (h : s ≤ m.length) : slD M (mx m) (some (s : Int)) none = some (mx (m.drop s)) := by
  unfold mx
  rw [slD_tup]
  unfold cutD
  rw [HT.sIx_nat, HT.sIx_none, List.length_map, Nat.min_eq_left h, List.take_of_length_le (by rw [List.length_drop, List.length_map]; omega), List.map_drop]
theorem slHi_m {m : List (List Int)} {s : Nat} (h : s ≤ m.length) : slD M (mx m) none (some (s : Int)) = some (mx (m.take s)) := by
  unfold mx
  rw [slD_tup]
  unfold cutD
  rw [HT.sIx_nat, HT.sIx_none, List.length_map, Nat.min_eq_left h, Nat.sub_zero, List.drop_zero, List.map_take]
theorem slLo_r {r : List Int} {s : Nat} (h : s ≤ r.length) : slD M (rowD r) (some (s : Int)) none = some (rowD (r.drop s)) := by
  unfold rowD
  rw [slD_tup]
  unfold cutD
  rw [HT.sIx_nat, HT.sIx_none, List.length_map, Nat.min_eq_left h, List.take_of_length_le (by rw [List.length_drop, List.length_map]; omega), List.map_drop]
theorem slHi_r {r : List Int} {s : Nat} (h : s ≤ r.length) : slD M (rowD r) none (some (s : Int)) = some (rowD (r.take s)) := by
  unfold rowD
  rw [slD_tup]
  unfold cutD
  rw [HT.sIx_nat, HT.sIx_none, List.length_map, Nat.min_eq_left h, Nat.sub_zero, List.drop_zero, List.map_take]
theorem add_m {a b : List (List Int)} (h : a.length + b.length ≤ 1000) : binD M .add (mx a) (mx b) = some (mx (a ++ b)) := by
  unfold mx
  rw [bin_addT (by rw [List.length_map, List.length_map]; exact Nat.le_trans h (by decide)), List.map_append]
theorem add_r {a b : List Int} (h : a.length + b.length ≤ 1000) : binD M .add (rowD a) (rowD b) = some (rowD (a ++ b)) := by
  unfold rowD
  rw [bin_addT (by rw [List.length_map, List.length_map]; exact Nat.le_trans h (by decide)), List.map_append]
theorem len_r {r : List Int} : lenD M (rowD r) = some (.int (r.length : Int)) := by show lenD M (.tup _) = _; rw [lenD_tup, List.length_map]
theorem src_m {m : List (List Int)} : srcOf M (mx m) = some (.fix (m.map rowD)) := rfl
theorem src_r {r : List Int} : srcOf M (rowD r) = some (.fix (r.map .int)) := rfl
theorem rep_r {q : Nat} {v : Int} : (List.replicate q [D.int v]).flatten = (List.replicate q v).map .int := by
  induction q with
  | zero => rfl
  | succ q ih => rw [List.replicate_succ, List.flatten_cons, ih]; rfl
theorem mul_r {q : Nat} {v : Int} (h : q ≤ 1000) : binD M .mul (.tup [.int v]) (.int (q : Int)) = some (rowD (List.replicate q v)) := by
  rw [bin_mulT ⟨by simp, by omega, by omega⟩, Int.toNat_natCast, rep_r]; rfl
theorem rng_n {n : Nat} (h : n ≤ 1000) : rngR 0 (n : Int) M = some (.ok (.one (.fix (natsD (List.range n)))) M) := by
  rw [rngR_0 (nat_len h), rangeD_eq]; rfl
theorem rng_d {n : Nat} (h : n ≤ 1000) : rngR 0 (n : Int) M = some (.ok (.one (.fix (rangeD 0 (n : Int)))) M) := rngR_0 (nat_len h)
theorem natsD_l {js : List Nat} : (natsD js).length = js.length := List.length_map _
theorem lenW_n {js : List Nat} {n : Nat} (h : js.length ≤ n) (hn : n ≤ sizeLine := by decide) : lenW M (.one (.fix (natsD js))) ≤ sizeLine := by
  show (natsD js).length ≤ _
  rw [natsD_l]; omega
theorem nats_at {n i : Nat} {x : D} (h : (natsD (List.range n))[i]? = some x) : x = .int (i : Int) ∧ i < n := by
  have hi : i < n := by have := (List.getElem?_eq_some_iff.mp h).1; unfold natsD at this; simpa using this
  unfold natsD at h
  rw [List.getElem?_map, List.getElem?_eq_getElem (by simpa using hi), List.getElem_range] at h
  cases h
  exact ⟨rfl, hi⟩
theorem takeD {α : Type} {l : List α} {i k : Nat} {a : α} (h : i < k) : (l.take k).getD i a = l.getD i a := by
  rw [List.getD_eq_getElem?_getD, List.getD_eq_getElem?_getD, List.getElem?_take_of_lt h]
theorem dropD {α : Type} {l : List α} {i k : Nat} {a : α} : (l.drop k).getD i a = l.getD (k + i) a := by
  rw [List.getD_eq_getElem?_getD, List.getD_eq_getElem?_getD, List.getElem?_drop]
theorem getD_l {α : Type} {l : List α} {i : Nat} {a : α} (h : i < l.length) : l.getD i a = l[i] := by
  rw [List.getD_eq_getElem?_getD, List.getElem?_eq_getElem h]; rfl
theorem split_m {m : List (List Int)} {p : Nat} (hp : p < m.length) : m = m.take p ++ (m.getD p [] :: m.drop (p + 1)) := by
  rw [getD_l hp, List.getElem_cons_drop, List.take_append_drop]
/-! ### a loop over enumerate -/
def enumD (m : List (List Int)) : List D := (List.range m.length).map fun (i : Nat) => D.tup [.int (i : Int), rowD (m.getD i [])]
theorem itemW_enum {m : List (List Int)} (M : MH) (i : Nat) : itemW M (.enum (.fix (m.map rowD))) i = some (enumD m)[i]? := by
  unfold enumD
  rw [List.getElem?_map]
  have e : ∀ a : Option D, (m.map rowD)[i]? = a → itemW M (.enum (.fix (m.map rowD))) i = some (a.map fun d => .tup [.int i, d]) := fun a ha => by
    show (match some (m.map rowD)[i]? with
      | some (some d) => some (some (D.tup [.int i, d]))
      | some none => some none
      | none => none) = _
    rw [ha]
    cases a <;> rfl
  rw [e _ rfl, List.getElem?_map]
  by_cases h : i < m.length
  · rw [List.getElem?_eq_getElem h, List.getElem?_eq_getElem (by simpa using h), List.getElem_range]
    simp only [Option.map_some]
    rw [getD_l h]
  · rw [List.getElem?_eq_none (by omega), List.getElem?_eq_none (by simpa using h)]; rfl
theorem enumD_l {m : List (List Int)} : (enumD m).length = m.length := by unfold enumD; rw [List.length_map, List.length_range]
theorem forW_enum {wf : Nat} {f : D → Env → Se} {m : List (List Int)} {ρ : Env} : forW f (.enum (.fix (m.map rowD))) (fuelW wf (.enum (.fix (m.map rowD)))) 0 ρ M = forE f (enumD m) ρ M := by
  rw [forW_items itemW_enum _ _ _ _ (by show 0 + (m.map rowD).length = _; rw [List.length_map, enumD_l]; omega), List.drop_zero]
theorem enum_at {m : List (List Int)} {i : Nat} {x : D} (h : (enumD m)[i]? = some x) : x = .tup [.int (i : Int), rowD (m.getD i [])] ∧ i < m.length := by
  have hi : i < m.length := by have := (List.getElem?_eq_some_iff.mp h).1; rwa [enumD_l] at this
  unfold enumD at h
  rw [List.getElem?_map, List.getElem?_eq_getElem (by simpa using hi), List.getElem_range] at h
  cases h
  exact ⟨rfl, hi⟩
/-! ### rows -/
theorem row_ext {a b : List Int} (hl : a.length = b.length) (h : ∀ j, a.getD j 0 = b.getD j 0) : a = b := by
  refine List.ext_getElem hl fun j h1 h2 => ?_
  have := h j
  rwa [getD_l h1, getD_l h2] at this
theorem zip_at {a b : List Int} {j : Nat} (h : a.length = b.length) : (List.zipWith (· + ·) a b).getD j 0 = a.getD j 0 + b.getD j 0 := by
  by_cases hj : j < a.length
  · rw [getD_l (by rw [List.length_zipWith]; omega), getD_l hj, getD_l (h ▸ hj), List.getElem_zipWith]
  · rw [getD_ge (by rw [List.length_zipWith]; omega), getD_ge (by omega), getD_ge (by omega)]; rfl
/-- r without its place o -/
def cutR {α : Type} (r : List α) (o : Nat) : List α := r.take o ++ r.drop (o + 1)
theorem cutR_len {α : Type} {r : List α} {o : Nat} (h : o < r.length) : (cutR r o).length = r.length - 1 := by
  unfold cutR
  rw [List.length_append, List.length_take, List.length_drop]; omega
theorem cutR_at {r : List Int} {o j : Nat} (h : o < r.length) : (cutR r o).getD j 0 = r.getD (if j < o then j else j + 1) 0 := by
  unfold cutR
  by_cases hj : j < o
  · rw [if_pos hj, List.getD_eq_getElem?_getD, List.getElem?_append_left (by rw [List.length_take]; omega), ← List.getD_eq_getElem?_getD, takeD hj]
  · rw [if_neg hj, List.getD_eq_getElem?_getD, List.getElem?_append_right (by rw [List.length_take]; omega), ← List.getD_eq_getElem?_getD, dropD, List.length_take]
    congr 1; omega
theorem cutR_mem {α : Type} {r : List α} {o : Nat} {x : α} (h : x ∈ cutR r o) : x ∈ r := by
  rcases List.mem_append.mp h with h | h
  · exact List.mem_of_mem_take h
  · exact List.mem_of_mem_drop h
theorem filter_cut {α : Type} {l : List α} {p : α → Bool} {o : Nat} (h : o < l.length) (h1 : ∀ x ∈ l.take o, p x = true) (h2 : p l[o] = false) (h3 : ∀ x ∈ l.drop (o + 1), p x = true) : l.filter p = cutR l o := by
  have e : l = l.take o ++ (l[o] :: l.drop (o + 1)) := by rw [List.getElem_cons_drop, List.take_append_drop]
  conv => lhs; rw [e]
  rw [List.filter_append, List.filter_cons, h2]
  simp only [Bool.false_eq_true, if_false]
  rw [List.filter_eq_self.mpr h1, List.filter_eq_self.mpr h3]; rfl
/-- the places but o, in order -/
theorem range_cut {n o : Nat} (h : o < n) : (List.range n).filter (fun (j : Nat) => !decide ((j : Int) = (o : Int))) = cutR (List.range n) o := by
  refine filter_cut (by simpa using h) (fun x hx => ?_) (by simp) fun x hx => ?_
  · rw [List.take_range] at hx
    have := List.mem_range.mp hx
    simp; omega
  · obtain ⟨i, hi, e⟩ := List.mem_iff_getElem.mp hx
    rw [List.getElem_drop, List.getElem_range] at e
    simp; omega
theorem cut_map {α β : Type} {r : List α} {o : Nat} {f : α → β} : (cutR r o).map f = cutR (r.map f) o := by
  unfold cutR
  rw [List.map_append, List.map_take, List.map_drop]
theorem range_getD {r : List Int} : (List.range r.length).map (fun j => r.getD j 0) = r := by
  refine List.ext_getElem (by simp) fun j h1 h2 => ?_
  rw [List.getElem_map, List.getElem_range, getD_l h2]
end MP

set_option Elab.async false
set_option linter.all false
set_option maxRecDepth 100000
namespace MP
open PySem L2
/-! ### draws of the second kind -/
def KB_take_1a_1 : CS := (.set 2 (.ix (.var 0) (.ix (.var 0) (.cst (.int (2))))))
def KB_take_1a_2 : CS := (.augIx .add (.var 0) (.cst (.int (2))) (.cst (.int (1))))
def KB_take_1a_3a_1 : CS := (.setIx (.var 0) (.cst (.int (0))) (.bin .sub (.var 2) (.bin .pow (.cst (.int (10))) (.cst (.int (18))))))
def KB_take_1a_3a : CSs := (.cons KB_take_1a_3a_1 .nil)
def KB_take_1a_3b_1 : CS := (.set 3 (.bin .mod (.bi .int (.cons (.var 2) .nil)) (.cst (.int (2147483647)))))
def KB_take_1a_3b_2 : CS := (.set 3 (.bin .mod (.bi .int (.cons (.bin .add (.bin .add (.bin .mul (.var 3) (.var 3)) (.bin .mul (.cst (.int (40014))) (.var 3))) (.bin .mul (.cst (.int (1013))) (.ix (.var 0) (.cst (.int (2)))))) .nil)) (.cst (.int (2147483629)))))
def KB_take_1a_3b_3 : CS := (.setIx (.var 0) (.cst (.int (1))) (.bin .mod (.bi .int (.cons (.bin .add (.ix (.var 0) (.cst (.int (1)))) (.var 3)) .nil)) (.cst (.int (2147483629)))))
def KB_take_1a_3b : CSs := (.cons KB_take_1a_3b_1 (.cons KB_take_1a_3b_2 (.cons KB_take_1a_3b_3 .nil)))
def KB_take_1a_3 : CS := (.iff (.cmp .ge (.var 2) (.bin .pow (.cst (.int (10))) (.cst (.int (18))))) KB_take_1a_3a KB_take_1a_3b)
def KB_take_1a : CSs := (.cons KB_take_1a_1 (.cons KB_take_1a_2 (.cons KB_take_1a_3 .nil)))
def KB_take_1 : CS := (.iff (.and (.cmp .eq (.ix (.var 0) (.cst (.int (0)))) (.cst (.int (0)))) (.cmp .lt (.ix (.var 0) (.cst (.int (2)))) (.bi .len (.cons (.var 0) .nil)))) KB_take_1a .nil)
def KB_take_2a_1 : CS := (.set 4 (.bin .mod (.bi .int (.cons (.ix (.var 0) (.cst (.int (0)))) .nil)) (.var 1)))
def KB_take_2a_2 : CS := (.setIx (.var 0) (.cst (.int (0))) (.bin .fdiv (.ix (.var 0) (.cst (.int (0)))) (.var 1)))
def KB_take_2a_3 : CS := (.ret (.var 4))
def KB_take_2a : CSs := (.cons KB_take_2a_1 (.cons KB_take_2a_2 (.cons KB_take_2a_3 .nil)))
def KB_take_2 : CS := (.iff (.cmp .gt (.ix (.var 0) (.cst (.int (0)))) (.cst (.int (0)))) KB_take_2a .nil)
def KB_take_3 : CS := (.setIx (.var 0) (.cst (.int (1))) (.bin .mod (.bi .int (.cons (.bin .add (.bin .add (.bin .mul (.ix (.var 0) (.cst (.int (1)))) (.cst (.int (16807)))) (.bin .mul (.cst (.int (53668))) (.ix (.var 0) (.cst (.int (2)))))) (.cst (.int (13)))) .nil)) (.cst (.int (2147483647)))))
def KB_take_4 : CS := (.setIx (.var 0) (.cst (.int (1))) (.bin .mod (.bi .int (.cons (.bin .add (.bin .mul (.ix (.var 0) (.cst (.int (1)))) (.ix (.var 0) (.cst (.int (1))))) (.cst (.int (5)))) .nil)) (.cst (.int (2147483629)))))
def KB_take_5 : CS := (.ret (.bin .mod (.bi .int (.cons (.bin .fdiv (.ix (.var 0) (.cst (.int (1)))) (.cst (.int (8)))) .nil)) (.var 1)))
def KB_take : CSs := (.cons KB_take_1 (.cons KB_take_2 (.cons KB_take_3 (.cons KB_take_4 (.cons KB_take_5 .nil)))))
section
variable {wf d : Nat} {M : MH} {P : Nat → Option FD} {iT : Nat}
abbrev potB (a b c : Int) (ns : List Int) : List D := .int a :: .int b :: .int c :: ns.map .int
section
variable {bb n : Nat} {a b c v : Int} {ns : List Int}
theorem potB_len : (potB a b c ns).length = 3 + ns.length := by simp [potB]; omega
theorem potB_s0 (hP : M[n]? = some (.lst (potB a b c ns))) : setIxE bb (.ref n) (.int 0) (.int v) M = some (.ok () (M.set n (.lst (potB v b c ns)))) := setIx_nat (j := 0) hP (by rw [potB_len]; omega) (.inr rfl)
theorem potB_s1 (hP : M[n]? = some (.lst (potB a b c ns))) : setIxE bb (.ref n) (.int 1) (.int v) M = some (.ok () (M.set n (.lst (potB a v c ns)))) := setIx_nat (j := 1) hP (by rw [potB_len]; omega) (.inr rfl)
theorem potB_s2 (hP : M[n]? = some (.lst (potB a b c ns))) : setIxE bb (.ref n) (.int 2) (.int v) M = some (.ok () (M.set n (.lst (potB a b v ns)))) := setIx_nat (j := 2) hP (by rw [potB_len]; omega) (.inr rfl)
theorem potB_get {a' b' c' : Int} (hP : M[n]? = some (.lst (potB a b c ns))) : (M.set n (.lst (potB a' b' c' ns)))[n]? = some (.lst (potB a' b' c' ns)) := set_get hP
theorem potB_lenD (hP : M[n]? = some (.lst (potB a b c ns))) : lenD M (.ref n) = some (.int (3 + (ns.length : Int))) := by rw [lenD_ref hP, potB_len]; simp
theorem takeB_1 {cl : Nat → List D → Ev D} {many : Int} (hP : M[n]? = some (.lst (potB a b c ns))) (ha : 0 ≤ a) (hb : 0 ≤ b) (hb2 : b < 2147483647) (hc : 3 ≤ c) (hc2 : c ≤ 200) (hn : ns.length ≤ 100) :
    ∃ a' b' c' x y, exs1 cl bb wf KB_take_1 [some (.ref n), some (.int many), none, none, none] M = some (.nx, [some (.ref n), some (.int many), x, y, none], M.set n (.lst (potB a' b' c' ns))) ∧ 0 ≤ a' ∧ 0 ≤ b' ∧ b' < 2147483647 ∧ 3 ≤ c' ∧ c' ≤ 200 := by
  simp only [KB_take_1, e_var, e_cst, e_bin, e_neg, e_cmp, e_cmp2, e_and, e_or, e_not, e_ite, e_tup, e_mkF, e_mkT, e_ix, e_slLo, e_slHi, e_slLH, e_rev, e_call, e_bi, e_isi, es_nil, es_cons, ec_nil, ec_cons, el_disp, el_cat, el_rep, el_list, ew_seq, ew_rng1, ew_rng2, ew_enum, ew_zip, s_expr, s_ret, s_retN, s_set, s_par, s_unp, s_app, s_setIx, s_augIx, s_aug, s_iff, s_while, s_raise, s_pass, s_brk, s_cont, ss_nil, ss_cons, lR_some, bR_ok, bR_ex, tR_ok, tR_ex, sR_nx, sR_rt, sR_bk, sR_ct, sR_xc, endR_rt, endR_nx, endR_xc, kR_t, kR_f, kA_t, kA_f, kA_b, kO_t, kO_f, kO_b, g_0, g_s, st_0, st_s, bT_1, bT_n, tS_1, ss0, ss1, wp0, wp1, permD, intD, truD, Option.map_some, Option.map_none, Option.bind_some, List.getElem?_cons_zero, List.getElem?_cons_succ, List.map_cons, List.map_nil, List.length_cons, List.length_nil, List.cons_append, List.nil_append, List.replicate_succ, List.replicate_zero, Nat.sub_self, fin_same, finX_same, fin_keep, if_true, if_false, reduceIte, ixD_ref hP, at0, at2, bi_lenE, potB_lenD hP, cmp_eqI, cmp_lt]
  by_cases h : (decide (a = 0) && decide (c < 3 + (ns.length : Int))) = true
  · rw [h]
    have h2 : c < 3 + (ns.length : Int) := by simp at h; omega
    obtain ⟨cell, hcl⟩ : ∃ cell, ns[c.toNat - 3]? = some cell := ⟨ns[c.toNat - 3]'(by omega), by simp⟩
    have hat : L2.atI (potB a b c ns) c = some (.int cell) := by
      refine atI_int (by omega) ?_
      have : c.toNat = (c.toNat - 3) + 3 := by omega
      rw [this]
      simp [potB, hcl]
    have hP1 := potB_get (a' := a) (b' := b) (c' := c + 1) hP
    simp only [e_var, e_cst, e_bin, e_neg, e_cmp, e_cmp2, e_and, e_or, e_not, e_ite, e_tup, e_mkF, e_mkT, e_ix, e_slLo, e_slHi, e_slLH, e_rev, e_call, e_bi, e_isi, es_nil, es_cons, ec_nil, ec_cons, el_disp, el_cat, el_rep, el_list, ew_seq, ew_rng1, ew_rng2, ew_enum, ew_zip, s_expr, s_ret, s_retN, s_set, s_par, s_unp, s_app, s_setIx, s_augIx, s_aug, s_iff, s_while, s_raise, s_pass, s_brk, s_cont, ss_nil, ss_cons, lR_some, bR_ok, bR_ex, tR_ok, tR_ex, sR_nx, sR_rt, sR_bk, sR_ct, sR_xc, endR_rt, endR_nx, endR_xc, kR_t, kR_f, kA_t, kA_f, kA_b, kO_t, kO_f, kO_b, g_0, g_s, st_0, st_s, bT_1, bT_n, tS_1, ss0, ss1, wp0, wp1, permD, intD, truD, Option.map_some, Option.map_none, Option.bind_some, List.getElem?_cons_zero, List.getElem?_cons_succ, List.map_cons, List.map_nil, List.length_cons, List.length_nil, List.cons_append, List.nil_append, List.replicate_succ, List.replicate_zero, Nat.sub_self, fin_same, finX_same, fin_keep, if_true, if_false, reduceIte, KB_take_1a, KB_take_1a_1, KB_take_1a_2, KB_take_1a_3, ixD_ref hP, lstOf_ref hP, at2, hat, augD, potB_s2 hP, bin_pow (i := 10) (j := 18) (by decide), cmp_ge]
    by_cases h3 : (10 : Int) ^ (18 : Int).toNat ≤ cell
    · simp only [decide_eq_true h3, e_var, e_cst, e_bin, e_neg, e_cmp, e_cmp2, e_and, e_or, e_not, e_ite, e_tup, e_mkF, e_mkT, e_ix, e_slLo, e_slHi, e_slLH, e_rev, e_call, e_bi, e_isi, es_nil, es_cons, ec_nil, ec_cons, el_disp, el_cat, el_rep, el_list, ew_seq, ew_rng1, ew_rng2, ew_enum, ew_zip, s_expr, s_ret, s_retN, s_set, s_par, s_unp, s_app, s_setIx, s_augIx, s_aug, s_iff, s_while, s_raise, s_pass, s_brk, s_cont, ss_nil, ss_cons, lR_some, bR_ok, bR_ex, tR_ok, tR_ex, sR_nx, sR_rt, sR_bk, sR_ct, sR_xc, endR_rt, endR_nx, endR_xc, kR_t, kR_f, kA_t, kA_f, kA_b, kO_t, kO_f, kO_b, g_0, g_s, st_0, st_s, bT_1, bT_n, tS_1, ss0, ss1, wp0, wp1, permD, intD, truD, Option.map_some, Option.map_none, Option.bind_some, List.getElem?_cons_zero, List.getElem?_cons_succ, List.map_cons, List.map_nil, List.length_cons, List.length_nil, List.cons_append, List.nil_append, List.replicate_succ, List.replicate_zero, Nat.sub_self, fin_same, finX_same, fin_keep, if_true, if_false, reduceIte, KB_take_1a_3a, KB_take_1a_3a_1, bin_pow (i := 10) (j := 18) (by decide), bin_sub, potB_s0 hP1, List.set_set]
      exact ⟨_, _, _, _, _, rfl, by omega, hb, hb2, by omega, by omega⟩
    · obtain ⟨m1, m2⟩ := fmod_range (i := cell) (m := 2147483647) (by decide)
      generalize hx : cell.fmod 2147483647 = mx at m1 m2
      obtain ⟨m3, m4⟩ := fmod_range (i := mx * mx + 40014 * mx + 1013 * (c + 1)) (m := 2147483629) (by decide)
      obtain ⟨m5, m6⟩ := fmod_range (i := b + (mx * mx + 40014 * mx + 1013 * (c + 1)).fmod 2147483629) (m := 2147483629) (by decide)
      simp only [decide_eq_false h3, e_var, e_cst, e_bin, e_neg, e_cmp, e_cmp2, e_and, e_or, e_not, e_ite, e_tup, e_mkF, e_mkT, e_ix, e_slLo, e_slHi, e_slLH, e_rev, e_call, e_bi, e_isi, es_nil, es_cons, ec_nil, ec_cons, el_disp, el_cat, el_rep, el_list, ew_seq, ew_rng1, ew_rng2, ew_enum, ew_zip, s_expr, s_ret, s_retN, s_set, s_par, s_unp, s_app, s_setIx, s_augIx, s_aug, s_iff, s_while, s_raise, s_pass, s_brk, s_cont, ss_nil, ss_cons, lR_some, bR_ok, bR_ex, tR_ok, tR_ex, sR_nx, sR_rt, sR_bk, sR_ct, sR_xc, endR_rt, endR_nx, endR_xc, kR_t, kR_f, kA_t, kA_f, kA_b, kO_t, kO_f, kO_b, g_0, g_s, st_0, st_s, bT_1, bT_n, tS_1, ss0, ss1, wp0, wp1, permD, intD, truD, Option.map_some, Option.map_none, Option.bind_some, List.getElem?_cons_zero, List.getElem?_cons_succ, List.map_cons, List.map_nil, List.length_cons, List.length_nil, List.cons_append, List.nil_append, List.replicate_succ, List.replicate_zero, Nat.sub_self, fin_same, finX_same, fin_keep, if_true, if_false, reduceIte, KB_take_1a_3b, KB_take_1a_3b_1, KB_take_1a_3b_2, KB_take_1a_3b_3, ixD_ref hP1, at1, at2, bi_intI, bin_mod (j := 2147483647) (by decide), hx, bin_mul (i := mx) (j := mx) (mulOk_r (by omega)), bin_mul (mulOk_l (i := 40014) (by decide)), bin_mul (mulOk_l (i := 1013) (by decide)), bin_add, bin_mod (j := 2147483629) (by decide), potB_s1 hP1, List.set_set]
      exact ⟨_, _, _, _, _, rfl, ha, m5, by omega, by omega, by omega⟩
  · simp only [Bool.not_eq_true] at h
    rw [h]
    refine ⟨a, b, c, none, none, ?_, ha, hb, hb2, hc, hc2⟩
    simp only [e_var, e_cst, e_bin, e_neg, e_cmp, e_cmp2, e_and, e_or, e_not, e_ite, e_tup, e_mkF, e_mkT, e_ix, e_slLo, e_slHi, e_slLH, e_rev, e_call, e_bi, e_isi, es_nil, es_cons, ec_nil, ec_cons, el_disp, el_cat, el_rep, el_list, ew_seq, ew_rng1, ew_rng2, ew_enum, ew_zip, s_expr, s_ret, s_retN, s_set, s_par, s_unp, s_app, s_setIx, s_augIx, s_aug, s_iff, s_while, s_raise, s_pass, s_brk, s_cont, ss_nil, ss_cons, lR_some, bR_ok, bR_ex, tR_ok, tR_ex, sR_nx, sR_rt, sR_bk, sR_ct, sR_xc, endR_rt, endR_nx, endR_xc, kR_t, kR_f, kA_t, kA_f, kA_b, kO_t, kO_f, kO_b, g_0, g_s, st_0, st_s, bT_1, bT_n, tS_1, ss0, ss1, wp0, wp1, permD, intD, truD, Option.map_some, Option.map_none, Option.bind_some, List.getElem?_cons_zero, List.getElem?_cons_succ, List.map_cons, List.map_nil, List.length_cons, List.length_nil, List.cons_append, List.nil_append, List.replicate_succ, List.replicate_zero, Nat.sub_self, fin_same, finX_same, fin_keep, if_true, if_false, reduceIte, set_same hP]
def PotB (M : MH) (n : Nat) (ns : List Int) : Prop := ∃ a b c, M[n]? = some (.lst (potB a b c ns)) ∧ 0 ≤ a ∧ 0 ≤ b ∧ b < 2147483647 ∧ 3 ≤ c ∧ c ≤ 200
theorem takeB_ok {many : Int} (hT : P iT = some ⟨2, 5, KB_take, false⟩) (hp : PotB M n ns) (hn : ns.length ≤ 100) (hm : 0 < many) (hm2 : many ≤ 1000000000) :
    ∃ r M', evF P wf (d + 1) iT [.ref n, .int many] M = some (.ok (.int r) M') ∧ 0 ≤ r ∧ r < many ∧ PotB M' n ns ∧ Only M n M' := by
  obtain ⟨a, b, c, hP, ha, hb, hb2, hc, hc2⟩ := hp
  rw [evF_eq hT rfl]
  obtain ⟨a1, b1, c1, x, y, q, ha1, hb1, hb3, hc1, hc3⟩ := takeB_1 (cl := evF P wf d) (wf := wf) (bb := M.length) (many := many) hP ha hb hb2 hc hc2 hn
  have hP1 := potB_get (a' := a1) (b' := b1) (c' := c1) hP
  generalize hM1 : M.set n (.lst (potB a1 b1 c1 ns)) = M1 at q hP1
  have hO1 : Only M n M1 := by rw [← hM1]; exact only_set
  have hL1 : M1.length = M.length := hO1.1
  simp only [KB_take, e_var, e_cst, e_bin, e_neg, e_cmp, e_cmp2, e_and, e_or, e_not, e_ite, e_tup, e_mkF, e_mkT, e_ix, e_slLo, e_slHi, e_slLH, e_rev, e_call, e_bi, e_isi, es_nil, es_cons, ec_nil, ec_cons, el_disp, el_cat, el_rep, el_list, ew_seq, ew_rng1, ew_rng2, ew_enum, ew_zip, s_expr, s_ret, s_retN, s_set, s_par, s_unp, s_app, s_setIx, s_augIx, s_aug, s_iff, s_while, s_raise, s_pass, s_brk, s_cont, ss_nil, ss_cons, lR_some, bR_ok, bR_ex, tR_ok, tR_ex, sR_nx, sR_rt, sR_bk, sR_ct, sR_xc, endR_rt, endR_nx, endR_xc, kR_t, kR_f, kA_t, kA_f, kA_b, kO_t, kO_f, kO_b, g_0, g_s, st_0, st_s, bT_1, bT_n, tS_1, ss0, ss1, wp0, wp1, permD, intD, truD, Option.map_some, Option.map_none, Option.bind_some, List.getElem?_cons_zero, List.getElem?_cons_succ, List.map_cons, List.map_nil, List.length_cons, List.length_nil, List.cons_append, List.nil_append, List.replicate_succ, List.replicate_zero, Nat.sub_self, fin_same, finX_same, fin_keep, if_true, if_false, reduceIte, q, KB_take_2, ixD_ref hP1, at0, cmp_gt]
  by_cases h : 0 < a1
  · obtain ⟨r1, r2⟩ := fmod_range (i := a1) hm
    have hd : 0 ≤ a1.fdiv many := Int.fdiv_nonneg ha1 (by omega)
    simp only [decide_eq_true h, e_var, e_cst, e_bin, e_neg, e_cmp, e_cmp2, e_and, e_or, e_not, e_ite, e_tup, e_mkF, e_mkT, e_ix, e_slLo, e_slHi, e_slLH, e_rev, e_call, e_bi, e_isi, es_nil, es_cons, ec_nil, ec_cons, el_disp, el_cat, el_rep, el_list, ew_seq, ew_rng1, ew_rng2, ew_enum, ew_zip, s_expr, s_ret, s_retN, s_set, s_par, s_unp, s_app, s_setIx, s_augIx, s_aug, s_iff, s_while, s_raise, s_pass, s_brk, s_cont, ss_nil, ss_cons, lR_some, bR_ok, bR_ex, tR_ok, tR_ex, sR_nx, sR_rt, sR_bk, sR_ct, sR_xc, endR_rt, endR_nx, endR_xc, kR_t, kR_f, kA_t, kA_f, kA_b, kO_t, kO_f, kO_b, g_0, g_s, st_0, st_s, bT_1, bT_n, tS_1, ss0, ss1, wp0, wp1, permD, intD, truD, Option.map_some, Option.map_none, Option.bind_some, List.getElem?_cons_zero, List.getElem?_cons_succ, List.map_cons, List.map_nil, List.length_cons, List.length_nil, List.cons_append, List.nil_append, List.replicate_succ, List.replicate_zero, Nat.sub_self, fin_same, finX_same, fin_keep, if_true, if_false, reduceIte, KB_take_2a, KB_take_2a_1, KB_take_2a_2, KB_take_2a_3, ixD_ref hP1, at0, bi_intI, bin_mod (show many ≠ 0 by omega), bin_fdiv (divOk_s (j := many) (by omega)), potB_s0 hP1]
    rw [← hL1, ← set_len (n := n) (ys := potB (a1.fdiv many) b1 c1 ns), fin_same]
    exact ⟨_, _, rfl, r1, r2, ⟨_, _, _, potB_get hP1, hd, hb1, hb3, hc1, hc3⟩, (only_set).1.trans hL1, fun m hm => (only_set.2 m hm).trans (hO1.2 m hm)⟩
  · obtain ⟨m1, m2⟩ := fmod_range (i := b1 * 16807 + 53668 * c1 + 13) (m := 2147483647) (by decide)
    generalize hx : (b1 * 16807 + 53668 * c1 + 13).fmod 2147483647 = b2 at m1 m2
    obtain ⟨m3, m4⟩ := fmod_range (i := b2 * b2 + 5) (m := 2147483629) (by decide)
    generalize hy : (b2 * b2 + 5).fmod 2147483629 = b4 at m3 m4
    have hP2 := potB_get (a' := a1) (b' := b2) (c' := c1) hP1
    have hP3 := potB_get (a' := a1) (b' := b4) (c' := c1) hP2
    simp only [decide_eq_false h, e_var, e_cst, e_bin, e_neg, e_cmp, e_cmp2, e_and, e_or, e_not, e_ite, e_tup, e_mkF, e_mkT, e_ix, e_slLo, e_slHi, e_slLH, e_rev, e_call, e_bi, e_isi, es_nil, es_cons, ec_nil, ec_cons, el_disp, el_cat, el_rep, el_list, ew_seq, ew_rng1, ew_rng2, ew_enum, ew_zip, s_expr, s_ret, s_retN, s_set, s_par, s_unp, s_app, s_setIx, s_augIx, s_aug, s_iff, s_while, s_raise, s_pass, s_brk, s_cont, ss_nil, ss_cons, lR_some, bR_ok, bR_ex, tR_ok, tR_ex, sR_nx, sR_rt, sR_bk, sR_ct, sR_xc, endR_rt, endR_nx, endR_xc, kR_t, kR_f, kA_t, kA_f, kA_b, kO_t, kO_f, kO_b, g_0, g_s, st_0, st_s, bT_1, bT_n, tS_1, ss0, ss1, wp0, wp1, permD, intD, truD, Option.map_some, Option.map_none, Option.bind_some, List.getElem?_cons_zero, List.getElem?_cons_succ, List.map_cons, List.map_nil, List.length_cons, List.length_nil, List.cons_append, List.nil_append, List.replicate_succ, List.replicate_zero, Nat.sub_self, fin_same, finX_same, fin_keep, if_true, if_false, reduceIte, KB_take_3, KB_take_4, KB_take_5, ixD_ref hP1, at1, at2, bin_mul (mulOk_r (j := 16807) (by decide)), bin_mul (mulOk_l (i := 53668) (by decide)), bin_add, bi_intI, bin_mod (j := 2147483647) (by decide), hx, potB_s1 hP1, ixD_ref hP2, bin_mul (i := b2) (j := b2) (mulOk_r (by omega)), bin_mod (j := 2147483629) (by decide), hy, potB_s1 hP2, ixD_ref hP3, bin_fdiv (divOk_s (j := 8) (by decide)), bin_mod (show many ≠ 0 by omega)]
    rw [← hL1, ← set_len (n := n) (ys := potB a1 b2 c1 ns), ← set_len (n := n) (M := M1.set n (.lst (potB a1 b2 c1 ns))) (ys := potB a1 b4 c1 ns), fin_same]
    obtain ⟨r1, r2⟩ := fmod_range (i := b4.fdiv 8) hm
    exact ⟨_, _, rfl, r1, r2, ⟨_, _, _, hP3, ha1, m3, by omega, hc1, hc3⟩, (only_set).1.trans ((only_set).1.trans hL1), fun m hm => (only_set.2 m hm).trans ((only_set.2 m hm).trans (hO1.2 m hm))⟩
end
theorem takeB {n many : Nat} {ns : List Int} (hT : P iT = some ⟨2, 5, KB_take, false⟩) (hp : PotB M n ns) (hn : ns.length ≤ 100) (hm : 0 < many) (hm2 : many ≤ 1000000000) :
    ∃ (r : Nat) (M' : MH), evF P wf (d + 1) iT [.ref n, .int (many : Int)] M = some (.ok (.int (r : Int)) M') ∧ r < many ∧ PotB M' n ns ∧ Only M n M' := by
  obtain ⟨r, M', e, a, b, p, o⟩ := takeB_ok (wf := wf) (d := d) (many := (many : Int)) hT hp hn (by omega) (by omega)
  obtain ⟨k, rfl⟩ : ∃ k : Nat, r = (k : Int) := ⟨r.toNat, by omega⟩
  exact ⟨k, M', e, by omega, p, o⟩
end
end MP

set_option Elab.async false
set_option maxRecDepth 100000
namespace K00
open PySem MP L2
abbrev PR : Program := PySem.Challenge.pw_wholeshifts_k00_errors
def top (i : Nat) : Stmt := PySem.Challenge.pw_wholeshifts_k00_errors.main.body.getD i (.Pass ⟨0, 0, 0, 0⟩)
def Gfns : List (Str × List Str) := [(("_law_take" : Str), [("pot" : Str), ("many" : Str)]), (("_law_same" : Str), [("got" : Str), ("due" : Str)]), (("_law_raised" : Str), [("which" : Str), ("given" : Str), ("named" : Str)]), (("_law_raised_next" : Str), [("which" : Str), ("given" : Str), ("named" : Str)]), (("_law_raised_last" : Str), [("which" : Str), ("given" : Str), ("named" : Str)]), (("_law_kinds" : Str), [("e" : Str)]), (("_law_given" : Str), [("pot" : Str)]), (("_law_caught" : Str), [("which" : Str), ("given" : Str), ("named" : Str)]), (("_law_right" : Str), [("caught" : Str), ("which" : Str), ("given" : Str)]), (("law" : Str), [("script" : Str)])]
def Gcls : List Str := [("ShiftsError" : Str), ("InvalidInteger" : Str), ("InvalidWord" : Str), ("InvalidConstraint" : Str), ("InvalidMatrix" : Str), ("InvalidRows" : Str), ("InvalidPresentation" : Str), ("InvalidLetters" : Str), ("InvalidEncoder" : Str), ("InvalidRule" : Str), ("InvalidGaps" : Str), ("OtherGrowth" : Str), ("UnlikeColumns" : Str), ("NotIrreducible" : Str), ("NotFiniteType" : Str), ("NotMixing" : Str), ("NotLess" : Str), ("NotFiniteToOne" : Str), ("InvalidName" : Str), ("UnknownName" : Str), ("NothingToUndo" : Str), ("Unreadable" : Str), ("InvalidCommand" : Str)]
def Gkids : List (Str × List Nat) := [(("ShiftsError" : Str), [0, 1, 2, 3, 4, 5, 6, 7, 8, 9, 10, 11, 12, 13, 14, 15, 16, 17, 18, 19, 20, 21, 22])]
def Gcsts : List (Str × D) := []
def Gmuts : List (Nat × Nat) := [(205, 10)]
def Gkws : List (Nat × Nat × List Str × List Nat) := []
def Gisxs : List (Str × List Str) := [(("InvalidInteger" : Str), [("InvalidInteger" : Str)]), (("InvalidWord" : Str), [("InvalidWord" : Str)]), (("InvalidConstraint" : Str), [("InvalidConstraint" : Str)]), (("InvalidMatrix" : Str), [("InvalidMatrix" : Str)]), (("InvalidRows" : Str), [("InvalidRows" : Str)]), (("InvalidPresentation" : Str), [("InvalidPresentation" : Str)]), (("InvalidLetters" : Str), [("InvalidLetters" : Str)]), (("InvalidEncoder" : Str), [("InvalidEncoder" : Str)]), (("InvalidRule" : Str), [("InvalidRule" : Str)]), (("InvalidGaps" : Str), [("InvalidGaps" : Str)]), (("OtherGrowth" : Str), [("OtherGrowth" : Str)]), (("UnlikeColumns" : Str), [("UnlikeColumns" : Str)]), (("NotIrreducible" : Str), [("NotIrreducible" : Str)]), (("NotFiniteType" : Str), [("NotFiniteType" : Str)]), (("NotMixing" : Str), [("NotMixing" : Str)]), (("NotLess" : Str), [("NotLess" : Str)]), (("NotFiniteToOne" : Str), [("NotFiniteToOne" : Str)]), (("InvalidName" : Str), [("InvalidName" : Str)]), (("UnknownName" : Str), [("UnknownName" : Str)]), (("NothingToUndo" : Str), [("NothingToUndo" : Str)]), (("Unreadable" : Str), [("Unreadable" : Str)]), (("InvalidCommand" : Str), [("InvalidCommand" : Str)]), (("ValueError" : Str), Gcls)]
def G : GE := ⟨Gfns, Gcls, Gcsts, Gmuts, Gkws, Gkids, Gisxs⟩
def N__law_take : List Str := [("pot" : Str), ("many" : Str), ("cell" : Str), ("mixed" : Str), ("drawn_now" : Str)]
def N__law_same : List Str := [("got" : Str), ("due" : Str), ("k" : Str)]
def N__law_raised : List Str := [("which" : Str), ("given" : Str), ("named" : Str)]
def N__law_raised_next : List Str := [("which" : Str), ("given" : Str), ("named" : Str)]
def N__law_raised_last : List Str := [("which" : Str), ("given" : Str), ("named" : Str)]
def N__law_kinds : List Str := [("e" : Str), ("found" : Str)]
def N__law_given : List Str := [("pot" : Str), ("far" : Str), ("some" : Str)]
def N__law_caught : List Str := [("which" : Str), ("given" : Str), ("named" : Str), ("caught" : Str), ("e" : Str)]
def N__law_right : List Str := [("caught" : Str), ("which" : Str), ("given" : Str), ("k" : Str)]
def N_law : List Str := [("script" : Str), ("pot" : Str), ("turn" : Str), ("which" : Str), ("given" : Str), ("other" : Str), ("named" : Str), ("first" : Str), ("second" : Str)]
def c__law_take_1a_1 : CS := (.set 2 (.ix (.var 0) (.ix (.var 0) (.cst (.int (2))))))
def c__law_take_1a_2 : CS := (.augIx .add (.var 0) (.cst (.int (2))) (.cst (.int (1))))
def c__law_take_1a_3a_1 : CS := (.setIx (.var 0) (.cst (.int (0))) (.bin .sub (.var 2) (.bin .pow (.cst (.int (10))) (.cst (.int (18))))))
def c__law_take_1a_3a : CSs := (.cons c__law_take_1a_3a_1 .nil)
def c__law_take_1a_3b_1 : CS := (.set 3 (.bin .mod (.bi .int (.cons (.var 2) .nil)) (.cst (.int (2147483647)))))
def c__law_take_1a_3b_2 : CS := (.set 3 (.bin .mod (.bi .int (.cons (.bin .add (.bin .add (.bin .mul (.var 3) (.var 3)) (.bin .mul (.cst (.int (40014))) (.var 3))) (.bin .mul (.cst (.int (1013))) (.ix (.var 0) (.cst (.int (2)))))) .nil)) (.cst (.int (2147483629)))))
def c__law_take_1a_3b_3 : CS := (.setIx (.var 0) (.cst (.int (1))) (.bin .mod (.bi .int (.cons (.bin .add (.ix (.var 0) (.cst (.int (1)))) (.var 3)) .nil)) (.cst (.int (2147483629)))))
def c__law_take_1a_3b : CSs := (.cons c__law_take_1a_3b_1 (.cons c__law_take_1a_3b_2 (.cons c__law_take_1a_3b_3 .nil)))
def c__law_take_1a_3 : CS := (.iff (.cmp .ge (.var 2) (.bin .pow (.cst (.int (10))) (.cst (.int (18))))) c__law_take_1a_3a c__law_take_1a_3b)
def c__law_take_1a : CSs := (.cons c__law_take_1a_1 (.cons c__law_take_1a_2 (.cons c__law_take_1a_3 .nil)))
def c__law_take_1 : CS := (.iff (.and (.cmp .eq (.ix (.var 0) (.cst (.int (0)))) (.cst (.int (0)))) (.cmp .lt (.ix (.var 0) (.cst (.int (2)))) (.bi .len (.cons (.var 0) .nil)))) c__law_take_1a .nil)
def c__law_take_2a_1 : CS := (.set 4 (.bin .mod (.bi .int (.cons (.ix (.var 0) (.cst (.int (0)))) .nil)) (.var 1)))
def c__law_take_2a_2 : CS := (.setIx (.var 0) (.cst (.int (0))) (.bin .fdiv (.ix (.var 0) (.cst (.int (0)))) (.var 1)))
def c__law_take_2a_3 : CS := (.ret (.var 4))
def c__law_take_2a : CSs := (.cons c__law_take_2a_1 (.cons c__law_take_2a_2 (.cons c__law_take_2a_3 .nil)))
def c__law_take_2 : CS := (.iff (.cmp .gt (.ix (.var 0) (.cst (.int (0)))) (.cst (.int (0)))) c__law_take_2a .nil)
def c__law_take_3 : CS := (.setIx (.var 0) (.cst (.int (1))) (.bin .mod (.bi .int (.cons (.bin .add (.bin .add (.bin .mul (.ix (.var 0) (.cst (.int (1)))) (.cst (.int (16807)))) (.bin .mul (.cst (.int (53668))) (.ix (.var 0) (.cst (.int (2)))))) (.cst (.int (13)))) .nil)) (.cst (.int (2147483647)))))
def c__law_take_4 : CS := (.setIx (.var 0) (.cst (.int (1))) (.bin .mod (.bi .int (.cons (.bin .add (.bin .mul (.ix (.var 0) (.cst (.int (1)))) (.ix (.var 0) (.cst (.int (1))))) (.cst (.int (5)))) .nil)) (.cst (.int (2147483629)))))
def c__law_take_5 : CS := (.ret (.bin .mod (.bi .int (.cons (.bin .fdiv (.ix (.var 0) (.cst (.int (1)))) (.cst (.int (8)))) .nil)) (.var 1)))
def c__law_take : CSs := (.cons c__law_take_1 (.cons c__law_take_2 (.cons c__law_take_3 (.cons c__law_take_4 (.cons c__law_take_5 .nil)))))
def c__law_same_1a_1 : CS := (.ret (.cmp .isN (.var 0) (.cst .non)))
def c__law_same_1a : CSs := (.cons c__law_same_1a_1 .nil)
def c__law_same_1 : CS := (.iff (.cmp .isN (.var 1) (.cst .non)) c__law_same_1a .nil)
def c__law_same_2a_1 : CS := (.ret (.and (.cmp .eq (.isi (.var 0) [.bool]) (.isi (.var 1) [.bool])) (.and (.isi (.var 0) [.bool, .str]) (.cmp .eq (.var 0) (.var 1)))))
def c__law_same_2a : CSs := (.cons c__law_same_2a_1 .nil)
def c__law_same_2 : CS := (.iff (.isi (.var 1) [.bool, .str]) c__law_same_2a .nil)
def c__law_same_3a_1 : CS := (.ret (.and (.isi (.var 0) [.int]) (.and (.not (.isi (.var 0) [.bool])) (.cmp .eq (.var 0) (.var 1)))))
def c__law_same_3a : CSs := (.cons c__law_same_3a_1 .nil)
def c__law_same_3 : CS := (.iff (.isi (.var 1) [.int]) c__law_same_3a .nil)
def c__law_same_4a_1 : CS := (.ret (.cst (.bl false)))
def c__law_same_4a : CSs := (.cons c__law_same_4a_1 .nil)
def c__law_same_4 : CS := (.iff (.or (.cmp .ne (.isi (.var 1) [.list]) (.isi (.var 0) [.list])) (.cmp .ne (.isi (.var 1) [.tuple]) (.isi (.var 0) [.tuple]))) c__law_same_4a .nil)
def c__law_same_5 : CS := (.ret (.and (.cmp .eq (.bi .len (.cons (.var 0) .nil)) (.bi .len (.cons (.var 1) .nil))) (.bi .all (.cons (.mk false (.comp (.rng1 (.bi .len (.cons (.var 1) .nil))) [2] true .nil (.call 1 (.cons (.ix (.var 0) (.var 2)) (.cons (.ix (.var 1) (.var 2)) .nil)) [0, 1]) [2])) .nil))))
def c__law_same : CSs := (.cons c__law_same_1 (.cons c__law_same_2 (.cons c__law_same_3 (.cons c__law_same_4 (.cons c__law_same_5 .nil)))))
def c__law_raised_1a_1a_1 : CS := (.raise 1 (.var 1))
def c__law_raised_1a_1a : CSs := (.cons c__law_raised_1a_1a_1 .nil)
def c__law_raised_1a_1 : CS := (.iff (.var 2) c__law_raised_1a_1a .nil)
def c__law_raised_1a_2 : CS := (.raise 1 (.var 1))
def c__law_raised_1a : CSs := (.cons c__law_raised_1a_1 (.cons c__law_raised_1a_2 .nil))
def c__law_raised_1 : CS := (.iff (.cmp .eq (.var 0) (.cst (.int (0)))) c__law_raised_1a .nil)
def c__law_raised_2a_1a_1 : CS := (.raise 2 (.var 1))
def c__law_raised_2a_1a : CSs := (.cons c__law_raised_2a_1a_1 .nil)
def c__law_raised_2a_1 : CS := (.iff (.var 2) c__law_raised_2a_1a .nil)
def c__law_raised_2a_2 : CS := (.raise 2 (.var 1))
def c__law_raised_2a : CSs := (.cons c__law_raised_2a_1 (.cons c__law_raised_2a_2 .nil))
def c__law_raised_2 : CS := (.iff (.cmp .eq (.var 0) (.cst (.int (1)))) c__law_raised_2a .nil)
def c__law_raised_3a_1a_1 : CS := (.raise 3 (.var 1))
def c__law_raised_3a_1a : CSs := (.cons c__law_raised_3a_1a_1 .nil)
def c__law_raised_3a_1 : CS := (.iff (.var 2) c__law_raised_3a_1a .nil)
def c__law_raised_3a_2 : CS := (.raise 3 (.var 1))
def c__law_raised_3a : CSs := (.cons c__law_raised_3a_1 (.cons c__law_raised_3a_2 .nil))
def c__law_raised_3 : CS := (.iff (.cmp .eq (.var 0) (.cst (.int (2)))) c__law_raised_3a .nil)
def c__law_raised_4a_1a_1 : CS := (.raise 4 (.var 1))
def c__law_raised_4a_1a : CSs := (.cons c__law_raised_4a_1a_1 .nil)
def c__law_raised_4a_1 : CS := (.iff (.var 2) c__law_raised_4a_1a .nil)
def c__law_raised_4a_2 : CS := (.raise 4 (.var 1))
def c__law_raised_4a : CSs := (.cons c__law_raised_4a_1 (.cons c__law_raised_4a_2 .nil))
def c__law_raised_4 : CS := (.iff (.cmp .eq (.var 0) (.cst (.int (3)))) c__law_raised_4a .nil)
def c__law_raised_5a_1a_1 : CS := (.raise 5 (.var 1))
def c__law_raised_5a_1a : CSs := (.cons c__law_raised_5a_1a_1 .nil)
def c__law_raised_5a_1 : CS := (.iff (.var 2) c__law_raised_5a_1a .nil)
def c__law_raised_5a_2 : CS := (.raise 5 (.var 1))
def c__law_raised_5a : CSs := (.cons c__law_raised_5a_1 (.cons c__law_raised_5a_2 .nil))
def c__law_raised_5 : CS := (.iff (.cmp .eq (.var 0) (.cst (.int (4)))) c__law_raised_5a .nil)
def c__law_raised_6a_1a_1 : CS := (.raise 6 (.var 1))
def c__law_raised_6a_1a : CSs := (.cons c__law_raised_6a_1a_1 .nil)
def c__law_raised_6a_1 : CS := (.iff (.var 2) c__law_raised_6a_1a .nil)
def c__law_raised_6a_2 : CS := (.raise 6 (.var 1))
def c__law_raised_6a : CSs := (.cons c__law_raised_6a_1 (.cons c__law_raised_6a_2 .nil))
def c__law_raised_6 : CS := (.iff (.cmp .eq (.var 0) (.cst (.int (5)))) c__law_raised_6a .nil)
def c__law_raised_7a_1 : CS := (.raise 7 (.var 1))
def c__law_raised_7a : CSs := (.cons c__law_raised_7a_1 .nil)
def c__law_raised_7 : CS := (.iff (.var 2) c__law_raised_7a .nil)
def c__law_raised_8 : CS := (.raise 7 (.var 1))
def c__law_raised : CSs := (.cons c__law_raised_1 (.cons c__law_raised_2 (.cons c__law_raised_3 (.cons c__law_raised_4 (.cons c__law_raised_5 (.cons c__law_raised_6 (.cons c__law_raised_7 (.cons c__law_raised_8 .nil))))))))
def c__law_raised_next_1a_1a_1 : CS := (.raise 8 (.var 1))
def c__law_raised_next_1a_1a : CSs := (.cons c__law_raised_next_1a_1a_1 .nil)
def c__law_raised_next_1a_1 : CS := (.iff (.var 2) c__law_raised_next_1a_1a .nil)
def c__law_raised_next_1a_2 : CS := (.raise 8 (.var 1))
def c__law_raised_next_1a : CSs := (.cons c__law_raised_next_1a_1 (.cons c__law_raised_next_1a_2 .nil))
def c__law_raised_next_1 : CS := (.iff (.cmp .eq (.var 0) (.cst (.int (7)))) c__law_raised_next_1a .nil)
def c__law_raised_next_2a_1a_1 : CS := (.raise 9 (.var 1))
def c__law_raised_next_2a_1a : CSs := (.cons c__law_raised_next_2a_1a_1 .nil)
def c__law_raised_next_2a_1 : CS := (.iff (.var 2) c__law_raised_next_2a_1a .nil)
def c__law_raised_next_2a_2 : CS := (.raise 9 (.var 1))
def c__law_raised_next_2a : CSs := (.cons c__law_raised_next_2a_1 (.cons c__law_raised_next_2a_2 .nil))
def c__law_raised_next_2 : CS := (.iff (.cmp .eq (.var 0) (.cst (.int (8)))) c__law_raised_next_2a .nil)
def c__law_raised_next_3a_1a_1 : CS := (.raise 10 (.var 1))
def c__law_raised_next_3a_1a : CSs := (.cons c__law_raised_next_3a_1a_1 .nil)
def c__law_raised_next_3a_1 : CS := (.iff (.var 2) c__law_raised_next_3a_1a .nil)
def c__law_raised_next_3a_2 : CS := (.raise 10 (.var 1))
def c__law_raised_next_3a : CSs := (.cons c__law_raised_next_3a_1 (.cons c__law_raised_next_3a_2 .nil))
def c__law_raised_next_3 : CS := (.iff (.cmp .eq (.var 0) (.cst (.int (9)))) c__law_raised_next_3a .nil)
def c__law_raised_next_4a_1a_1 : CS := (.raise 11 (.var 1))
def c__law_raised_next_4a_1a : CSs := (.cons c__law_raised_next_4a_1a_1 .nil)
def c__law_raised_next_4a_1 : CS := (.iff (.var 2) c__law_raised_next_4a_1a .nil)
def c__law_raised_next_4a_2 : CS := (.raise 11 (.var 1))
def c__law_raised_next_4a : CSs := (.cons c__law_raised_next_4a_1 (.cons c__law_raised_next_4a_2 .nil))
def c__law_raised_next_4 : CS := (.iff (.cmp .eq (.var 0) (.cst (.int (10)))) c__law_raised_next_4a .nil)
def c__law_raised_next_5a_1a_1 : CS := (.raise 12 (.var 1))
def c__law_raised_next_5a_1a : CSs := (.cons c__law_raised_next_5a_1a_1 .nil)
def c__law_raised_next_5a_1 : CS := (.iff (.var 2) c__law_raised_next_5a_1a .nil)
def c__law_raised_next_5a_2 : CS := (.raise 12 (.var 1))
def c__law_raised_next_5a : CSs := (.cons c__law_raised_next_5a_1 (.cons c__law_raised_next_5a_2 .nil))
def c__law_raised_next_5 : CS := (.iff (.cmp .eq (.var 0) (.cst (.int (11)))) c__law_raised_next_5a .nil)
def c__law_raised_next_6a_1a_1 : CS := (.raise 13 (.var 1))
def c__law_raised_next_6a_1a : CSs := (.cons c__law_raised_next_6a_1a_1 .nil)
def c__law_raised_next_6a_1 : CS := (.iff (.var 2) c__law_raised_next_6a_1a .nil)
def c__law_raised_next_6a_2 : CS := (.raise 13 (.var 1))
def c__law_raised_next_6a : CSs := (.cons c__law_raised_next_6a_1 (.cons c__law_raised_next_6a_2 .nil))
def c__law_raised_next_6 : CS := (.iff (.cmp .eq (.var 0) (.cst (.int (12)))) c__law_raised_next_6a .nil)
def c__law_raised_next_7a_1 : CS := (.raise 14 (.var 1))
def c__law_raised_next_7a : CSs := (.cons c__law_raised_next_7a_1 .nil)
def c__law_raised_next_7 : CS := (.iff (.var 2) c__law_raised_next_7a .nil)
def c__law_raised_next_8 : CS := (.raise 14 (.var 1))
def c__law_raised_next : CSs := (.cons c__law_raised_next_1 (.cons c__law_raised_next_2 (.cons c__law_raised_next_3 (.cons c__law_raised_next_4 (.cons c__law_raised_next_5 (.cons c__law_raised_next_6 (.cons c__law_raised_next_7 (.cons c__law_raised_next_8 .nil))))))))
def c__law_raised_last_1a_1a_1 : CS := (.raise 15 (.var 1))
def c__law_raised_last_1a_1a : CSs := (.cons c__law_raised_last_1a_1a_1 .nil)
def c__law_raised_last_1a_1 : CS := (.iff (.var 2) c__law_raised_last_1a_1a .nil)
def c__law_raised_last_1a_2 : CS := (.raise 15 (.var 1))
def c__law_raised_last_1a : CSs := (.cons c__law_raised_last_1a_1 (.cons c__law_raised_last_1a_2 .nil))
def c__law_raised_last_1 : CS := (.iff (.cmp .eq (.var 0) (.cst (.int (14)))) c__law_raised_last_1a .nil)
def c__law_raised_last_2a_1a_1 : CS := (.raise 16 (.var 1))
def c__law_raised_last_2a_1a : CSs := (.cons c__law_raised_last_2a_1a_1 .nil)
def c__law_raised_last_2a_1 : CS := (.iff (.var 2) c__law_raised_last_2a_1a .nil)
def c__law_raised_last_2a_2 : CS := (.raise 16 (.var 1))
def c__law_raised_last_2a : CSs := (.cons c__law_raised_last_2a_1 (.cons c__law_raised_last_2a_2 .nil))
def c__law_raised_last_2 : CS := (.iff (.cmp .eq (.var 0) (.cst (.int (15)))) c__law_raised_last_2a .nil)
def c__law_raised_last_3a_1a_1 : CS := (.raise 17 (.var 1))
def c__law_raised_last_3a_1a : CSs := (.cons c__law_raised_last_3a_1a_1 .nil)
def c__law_raised_last_3a_1 : CS := (.iff (.var 2) c__law_raised_last_3a_1a .nil)
def c__law_raised_last_3a_2 : CS := (.raise 17 (.var 1))
def c__law_raised_last_3a : CSs := (.cons c__law_raised_last_3a_1 (.cons c__law_raised_last_3a_2 .nil))
def c__law_raised_last_3 : CS := (.iff (.cmp .eq (.var 0) (.cst (.int (16)))) c__law_raised_last_3a .nil)
def c__law_raised_last_4a_1a_1 : CS := (.raise 18 (.var 1))
def c__law_raised_last_4a_1a : CSs := (.cons c__law_raised_last_4a_1a_1 .nil)
def c__law_raised_last_4a_1 : CS := (.iff (.var 2) c__law_raised_last_4a_1a .nil)
def c__law_raised_last_4a_2 : CS := (.raise 18 (.var 1))
def c__law_raised_last_4a : CSs := (.cons c__law_raised_last_4a_1 (.cons c__law_raised_last_4a_2 .nil))
def c__law_raised_last_4 : CS := (.iff (.cmp .eq (.var 0) (.cst (.int (17)))) c__law_raised_last_4a .nil)
def c__law_raised_last_5a_1a_1 : CS := (.raise 19 (.var 1))
def c__law_raised_last_5a_1a : CSs := (.cons c__law_raised_last_5a_1a_1 .nil)
def c__law_raised_last_5a_1 : CS := (.iff (.var 2) c__law_raised_last_5a_1a .nil)
def c__law_raised_last_5a_2 : CS := (.raise 19 (.var 1))
def c__law_raised_last_5a : CSs := (.cons c__law_raised_last_5a_1 (.cons c__law_raised_last_5a_2 .nil))
def c__law_raised_last_5 : CS := (.iff (.cmp .eq (.var 0) (.cst (.int (18)))) c__law_raised_last_5a .nil)
def c__law_raised_last_6a_1a_1 : CS := (.raise 20 (.var 1))
def c__law_raised_last_6a_1a : CSs := (.cons c__law_raised_last_6a_1a_1 .nil)
def c__law_raised_last_6a_1 : CS := (.iff (.var 2) c__law_raised_last_6a_1a .nil)
def c__law_raised_last_6a_2 : CS := (.raise 20 (.var 1))
def c__law_raised_last_6a : CSs := (.cons c__law_raised_last_6a_1 (.cons c__law_raised_last_6a_2 .nil))
def c__law_raised_last_6 : CS := (.iff (.cmp .eq (.var 0) (.cst (.int (19)))) c__law_raised_last_6a .nil)
def c__law_raised_last_7a_1a_1 : CS := (.raise 21 (.var 1))
def c__law_raised_last_7a_1a : CSs := (.cons c__law_raised_last_7a_1a_1 .nil)
def c__law_raised_last_7a_1 : CS := (.iff (.var 2) c__law_raised_last_7a_1a .nil)
def c__law_raised_last_7a_2 : CS := (.raise 21 (.var 1))
def c__law_raised_last_7a : CSs := (.cons c__law_raised_last_7a_1 (.cons c__law_raised_last_7a_2 .nil))
def c__law_raised_last_7 : CS := (.iff (.cmp .eq (.var 0) (.cst (.int (20)))) c__law_raised_last_7a .nil)
def c__law_raised_last_8a_1a_1 : CS := (.raise 22 (.var 1))
def c__law_raised_last_8a_1a : CSs := (.cons c__law_raised_last_8a_1a_1 .nil)
def c__law_raised_last_8a_1 : CS := (.iff (.var 2) c__law_raised_last_8a_1a .nil)
def c__law_raised_last_8a_2 : CS := (.raise 22 (.var 1))
def c__law_raised_last_8a : CSs := (.cons c__law_raised_last_8a_1 (.cons c__law_raised_last_8a_2 .nil))
def c__law_raised_last_8 : CS := (.iff (.cmp .eq (.var 0) (.cst (.int (21)))) c__law_raised_last_8a .nil)
def c__law_raised_last_9a_1 : CS := (.raise 0 (.var 1))
def c__law_raised_last_9a : CSs := (.cons c__law_raised_last_9a_1 .nil)
def c__law_raised_last_9 : CS := (.iff (.var 2) c__law_raised_last_9a .nil)
def c__law_raised_last_10 : CS := (.raise 0 (.var 1))
def c__law_raised_last : CSs := (.cons c__law_raised_last_1 (.cons c__law_raised_last_2 (.cons c__law_raised_last_3 (.cons c__law_raised_last_4 (.cons c__law_raised_last_5 (.cons c__law_raised_last_6 (.cons c__law_raised_last_7 (.cons c__law_raised_last_8 (.cons c__law_raised_last_9 (.cons c__law_raised_last_10 .nil))))))))))
def c__law_kinds_1 : CS := (.set 1 (.mk false (.disp .nil)))
def c__law_kinds_2 : CS := (.set 1 (.bin .add (.var 1) (.mk false (.disp (.cons (.isx (.var 0) [("InvalidInteger" : Str)] Gcls) (.cons (.isx (.var 0) [("InvalidWord" : Str)] Gcls) .nil))))))
def c__law_kinds_3 : CS := (.set 1 (.bin .add (.var 1) (.mk false (.disp (.cons (.isx (.var 0) [("InvalidConstraint" : Str)] Gcls) (.cons (.isx (.var 0) [("InvalidMatrix" : Str)] Gcls) .nil))))))
def c__law_kinds_4 : CS := (.set 1 (.bin .add (.var 1) (.mk false (.disp (.cons (.isx (.var 0) [("InvalidRows" : Str)] Gcls) (.cons (.isx (.var 0) [("InvalidPresentation" : Str)] Gcls) .nil))))))
def c__law_kinds_5 : CS := (.set 1 (.bin .add (.var 1) (.mk false (.disp (.cons (.isx (.var 0) [("InvalidLetters" : Str)] Gcls) (.cons (.isx (.var 0) [("InvalidEncoder" : Str)] Gcls) .nil))))))
def c__law_kinds_6 : CS := (.set 1 (.bin .add (.var 1) (.mk false (.disp (.cons (.isx (.var 0) [("InvalidRule" : Str)] Gcls) (.cons (.isx (.var 0) [("InvalidGaps" : Str)] Gcls) .nil))))))
def c__law_kinds_7 : CS := (.set 1 (.bin .add (.var 1) (.mk false (.disp (.cons (.isx (.var 0) [("OtherGrowth" : Str)] Gcls) (.cons (.isx (.var 0) [("UnlikeColumns" : Str)] Gcls) .nil))))))
def c__law_kinds_8 : CS := (.set 1 (.bin .add (.var 1) (.mk false (.disp (.cons (.isx (.var 0) [("NotIrreducible" : Str)] Gcls) (.cons (.isx (.var 0) [("NotFiniteType" : Str)] Gcls) .nil))))))
def c__law_kinds_9 : CS := (.set 1 (.bin .add (.var 1) (.mk false (.disp (.cons (.isx (.var 0) [("NotMixing" : Str)] Gcls) (.cons (.isx (.var 0) [("NotLess" : Str)] Gcls) .nil))))))
def c__law_kinds_10 : CS := (.set 1 (.bin .add (.var 1) (.mk false (.disp (.cons (.isx (.var 0) [("NotFiniteToOne" : Str)] Gcls) (.cons (.isx (.var 0) [("InvalidName" : Str)] Gcls) .nil))))))
def c__law_kinds_11 : CS := (.set 1 (.bin .add (.var 1) (.mk false (.disp (.cons (.isx (.var 0) [("UnknownName" : Str)] Gcls) (.cons (.isx (.var 0) [("NothingToUndo" : Str)] Gcls) .nil))))))
def c__law_kinds_12 : CS := (.set 1 (.bin .add (.var 1) (.mk false (.disp (.cons (.isx (.var 0) [("Unreadable" : Str)] Gcls) (.cons (.isx (.var 0) [("InvalidCommand" : Str)] Gcls) .nil))))))
def c__law_kinds_13 : CS := (.ret (.var 1))
def c__law_kinds : CSs := (.cons c__law_kinds_1 (.cons c__law_kinds_2 (.cons c__law_kinds_3 (.cons c__law_kinds_4 (.cons c__law_kinds_5 (.cons c__law_kinds_6 (.cons c__law_kinds_7 (.cons c__law_kinds_8 (.cons c__law_kinds_9 (.cons c__law_kinds_10 (.cons c__law_kinds_11 (.cons c__law_kinds_12 (.cons c__law_kinds_13 .nil)))))))))))))
def c__law_given_1 : CS := (.set 1 (.bin .sub (.bin .add (.bin .mul (.call 0 (.cons (.var 0) (.cons (.bin .pow (.cst (.int (10))) (.cst (.int (9)))) .nil)) [0, 1]) (.bin .pow (.cst (.int (10))) (.cst (.int (20))))) (.call 0 (.cons (.var 0) (.cons (.bin .pow (.cst (.int (10))) (.cst (.int (9)))) .nil)) [0, 1])) (.bin .pow (.cst (.int (10))) (.cst (.int (28))))))
def c__law_given_2 : CS := (.set 2 (.mk false (.disp (.cons (.var 1) (.cons (.call 0 (.cons (.var 0) (.cons (.cst (.int (9))) .nil)) [0, 1]) (.cons (.cst (.str ("" : Str))) (.cons (.cst (.str ("0 1" : Str))) (.cons (.cst .non) (.cons (.cst (.bl true)) (.cons (.cst (.bl false)) (.cons (.tup .nil) (.cons (.tup (.cons (.var 1) (.cons (.cst (.int (1))) .nil))) (.cons (.mk false (.disp (.cons (.var 1) (.cons (.cst (.str ("x" : Str))) .nil)))) (.cons (.tup (.cons (.cst (.str ("01" : Str))) (.cons (.tup (.cons (.cst (.str ("1" : Str))) (.cons (.tup .nil) .nil))) .nil))) (.cons (.mk false (.disp .nil)) .nil)))))))))))))))
def c__law_given_3 : CS := (.ret (.ix (.bin .add (.var 2) (.mk false (.disp (.cons (.neg (.cst (.int (1)))) (.cons (.cst (.int (0))) (.cons (.tup (.cons (.cst (.int (2))) (.cons (.cst (.int (1))) (.cons (.tup (.cons (.tup (.cons (.cst (.int (0))) (.cons (.cst (.str ("0" : Str))) (.cons (.cst (.int (0))) .nil)))) .nil)) .nil)))) .nil)))))) (.call 0 (.cons (.var 0) (.cons (.cst (.int (15))) .nil)) [0, 1])))
def c__law_given : CSs := (.cons c__law_given_1 (.cons c__law_given_2 (.cons c__law_given_3 .nil)))
def c__law_caught_1 : CS := (.set 3 (.cst .non))
def c__law_caught_2x_1a_1 : CS := (.expr (.call 2 (.cons (.var 0) (.cons (.var 1) (.cons (.var 2) .nil))) [0, 1, 2]))
def c__law_caught_2x_1a : CSs := (.cons c__law_caught_2x_1a_1 .nil)
def c__law_caught_2x_1 : CS := (.iff (.cmp .lt (.var 0) (.cst (.int (7)))) c__law_caught_2x_1a .nil)
def c__law_caught_2x_2a_1 : CS := (.expr (.call 3 (.cons (.var 0) (.cons (.var 1) (.cons (.var 2) .nil))) [0, 1, 2]))
def c__law_caught_2x_2a : CSs := (.cons c__law_caught_2x_2a_1 .nil)
def c__law_caught_2x_2 : CS := (.iff (.cmp .lt (.var 0) (.cst (.int (14)))) c__law_caught_2x_2a .nil)
def c__law_caught_2x_3 : CS := (.expr (.call 4 (.cons (.var 0) (.cons (.var 1) (.cons (.var 2) .nil))) [0, 1, 2]))
def c__law_caught_2x : CSs := (.cons c__law_caught_2x_1 (.cons c__law_caught_2x_2 (.cons c__law_caught_2x_3 .nil)))
def c__law_caught_2 : CS := (.tryK c__law_caught_2x [0, 1, 2, 3, 4, 5, 6, 7, 8, 9, 10, 11, 12, 13, 14, 15, 16, 17, 18, 19, 20, 21, 22] Gcls 3 4)
def c__law_caught_3 : CS := (.ret (.var 3))
def c__law_caught : CSs := (.cons c__law_caught_1 (.cons c__law_caught_2 (.cons c__law_caught_3 .nil)))
def c__law_right_1a_1 : CS := (.ret (.cst (.bl false)))
def c__law_right_1a : CSs := (.cons c__law_right_1a_1 .nil)
def c__law_right_1 : CS := (.iff (.or (.cmp .isN (.var 0) (.cst .non)) (.not (.isx (.var 0) Gcls Gcls))) c__law_right_1a .nil)
def c__law_right_2 : CS := (.ret (.and (.call 1 (.cons (.call 5 (.cons (.var 0) .nil) [0]) (.cons (.mk false (.comp (.rng1 (.cst (.int (22)))) [3] true .nil (.cmp .eq (.var 3) (.var 1)) [3])) .nil)) [0, 1]) (.call 1 (.cons (.val (.var 0)) (.cons (.var 2) .nil)) [0, 1])))
def c__law_right : CSs := (.cons c__law_right_1 (.cons c__law_right_2 .nil))
def c_law_1 : CS := (.set 1 (.mk true (.cat (.mk true (.disp (.cons (.cst (.int (0))) (.cons (.cst (.int (11))) (.cons (.cst (.int (3))) .nil))))) (.mk false (.list (.var 0))))))
def c_law_2x_1x_1 : CS := (.par [4, 5, 6] (.cons (.call 6 (.cons (.var 1) .nil) [0]) (.cons (.call 6 (.cons (.var 1) .nil) [0]) (.cons (.cmp .eq (.call 0 (.cons (.var 1) (.cons (.cst (.int (2))) .nil)) [0, 1]) (.cst (.int (0)))) .nil))))
def c_law_2x_1x_2 : CS := (.set 7 (.call 7 (.cons (.var 3) (.cons (.var 4) (.cons (.var 6) .nil))) [0, 1, 2]))
def c_law_2x_1x_3 : CS := (.set 8 (.call 7 (.cons (.var 3) (.cons (.var 5) (.cons (.not (.var 6)) .nil))) [0, 1, 2]))
def c_law_2x_1x_4a_1 : CS := (.ret (.cst (.bl false)))
def c_law_2x_1x_4a : CSs := (.cons c_law_2x_1x_4a_1 .nil)
def c_law_2x_1x_4 : CS := (.iff (.or (.not (.call 8 (.cons (.var 7) (.cons (.var 3) (.cons (.var 4) .nil))) [0, 1, 2])) (.not (.call 8 (.cons (.var 8) (.cons (.var 3) (.cons (.var 5) .nil))) [0, 1, 2]))) c_law_2x_1x_4a .nil)
def c_law_2x_1x : CSs := (.cons c_law_2x_1x_1 (.cons c_law_2x_1x_2 (.cons c_law_2x_1x_3 (.cons c_law_2x_1x_4 .nil))))
def c_law_2x_1 : CS := (.for [3] true (.rng1 (.cst (.int (23)))) c_law_2x_1x)
def c_law_2x : CSs := (.cons c_law_2x_1 .nil)
def c_law_2 : CS := (.for [2] true (.rng1 (.bi .max2 (.cons (.cst (.int (1))) (.cons (.bi .min2 (.cons (.cst (.int (12))) (.cons (.bi .len (.cons (.var 0) .nil)) .nil))) .nil)))) c_law_2x)
def c_law_3 : CS := (.ret (.cst (.bl true)))
def c_law : CSs := (.cons c_law_1 (.cons c_law_2 (.cons c_law_3 .nil)))
def Pm : Nat → Option FD
  | 0 => some ⟨2, 5, c__law_take, false⟩
  | 1 => some ⟨2, 3, c__law_same, false⟩
  | 2 => some ⟨3, 3, c__law_raised, false⟩
  | 3 => some ⟨3, 3, c__law_raised_next, false⟩
  | 4 => some ⟨3, 3, c__law_raised_last, false⟩
  | 5 => some ⟨1, 2, c__law_kinds, false⟩
  | 6 => some ⟨1, 3, c__law_given, false⟩
  | 7 => some ⟨3, 5, c__law_caught, false⟩
  | 8 => some ⟨3, 4, c__law_right, false⟩
  | 9 => some ⟨1, 9, c_law, false⟩
  | _ => none
theorem cc__law_take : cSs G 60 ⟨N__law_take, defScope (top 25), none⟩ 60 (defBody (top 25)) = some c__law_take := by kernel_rfl
theorem cc__law_same : cSs G 60 ⟨N__law_same, defScope (top 26), none⟩ 60 (defBody (top 26)) = some c__law_same := by kernel_rfl
theorem cc__law_raised : cSs G 60 ⟨N__law_raised, defScope (top 27), none⟩ 60 (defBody (top 27)) = some c__law_raised := by kernel_rfl
theorem cc__law_raised_next : cSs G 60 ⟨N__law_raised_next, defScope (top 28), none⟩ 60 (defBody (top 28)) = some c__law_raised_next := by kernel_rfl
theorem cc__law_raised_last : cSs G 60 ⟨N__law_raised_last, defScope (top 29), none⟩ 60 (defBody (top 29)) = some c__law_raised_last := by kernel_rfl
theorem cc__law_kinds : cSs G 60 ⟨N__law_kinds, defScope (top 30), none⟩ 60 (defBody (top 30)) = some c__law_kinds := by kernel_rfl
theorem cc__law_given : cSs G 60 ⟨N__law_given, defScope (top 31), none⟩ 60 (defBody (top 31)) = some c__law_given := by kernel_rfl
theorem cc__law_caught : cSs G 60 ⟨N__law_caught, defScope (top 32), none⟩ 60 (defBody (top 32)) = some c__law_caught := by kernel_rfl
theorem cc__law_right : cSs G 60 ⟨N__law_right, defScope (top 33), none⟩ 60 (defBody (top 33)) = some c__law_right := by kernel_rfl
theorem cc_law : cSs G 60 ⟨N_law, defScope (top 34), none⟩ 60 (defBody (top 34)) = some c_law := by kernel_rfl

end K00

set_option Elab.async false
set_option linter.all false
set_option maxRecDepth 100000
namespace K00
open PySem MP L2
variable {wf d : Nat} {M : MH}
def ci (w : Int) : Nat := if w = 22 then 0 else w.toNat + 1
theorem t_raised {w : Int} {v : D} {nm : Bool} (h0 : 0 ≤ w) (h1 : w < 7) : evF Pm wf (d + 1) 2 [.int w, v, .bl nm] M = some (.ex (ci w) v M) := by
  rw [evF_eq (fd := ⟨3, 3, c__law_raised, false⟩) rfl rfl]
  have hw : w = 0 ∨ w = 1 ∨ w = 2 ∨ w = 3 ∨ w = 4 ∨ w = 5 ∨ w = 6 := by omega
  rcases hw with rfl | rfl | rfl | rfl | rfl | rfl | rfl <;> cases nm <;>
    (simp only [c__law_raised_1a_1a_1, c__law_raised_1a_1a, c__law_raised_1a_1, c__law_raised_1a_2, c__law_raised_1a, c__law_raised_1, c__law_raised_2a_1a_1, c__law_raised_2a_1a, c__law_raised_2a_1, c__law_raised_2a_2, c__law_raised_2a, c__law_raised_2, c__law_raised_3a_1a_1, c__law_raised_3a_1a, c__law_raised_3a_1, c__law_raised_3a_2, c__law_raised_3a, c__law_raised_3, c__law_raised_4a_1a_1, c__law_raised_4a_1a, c__law_raised_4a_1, c__law_raised_4a_2, c__law_raised_4a, c__law_raised_4, c__law_raised_5a_1a_1, c__law_raised_5a_1a, c__law_raised_5a_1, c__law_raised_5a_2, c__law_raised_5a, c__law_raised_5, c__law_raised_6a_1a_1, c__law_raised_6a_1a, c__law_raised_6a_1, c__law_raised_6a_2, c__law_raised_6a, c__law_raised_6, c__law_raised_7a_1, c__law_raised_7a, c__law_raised_7, c__law_raised_8, c__law_raised, e_var, e_cst, e_bin, e_neg, e_cmp, e_cmp2, e_and, e_or, e_not, e_ite, e_tup, e_mkF, e_mkT, e_ix, e_slLo, e_slHi, e_slLH, e_rev, e_call, e_bi, e_isi, es_nil, es_cons, ec_nil, ec_cons, el_disp, el_cat, el_rep, el_list, ew_seq, ew_rng1, ew_rng2, ew_enum, ew_zip, s_expr, s_ret, s_retN, s_set, s_par, s_unp, s_app, s_setIx, s_augIx, s_aug, s_iff, s_while, s_raise, s_pass, s_brk, s_cont, ss_nil, ss_cons, lR_some, bR_ok, bR_ex, tR_ok, tR_ex, sR_nx, sR_rt, sR_bk, sR_ct, sR_xc, endR_rt, endR_nx, endR_xc, kR_t, kR_f, kA_t, kA_f, kA_b, kO_t, kO_f, kO_b, g_0, g_s, st_0, st_s, bT_1, bT_n, tS_1, ss0, ss1, wp0, wp1, permD, intD, truD, Option.map_some, Option.map_none, Option.bind_some, List.getElem?_cons_zero, List.getElem?_cons_succ, List.map_cons, List.map_nil, List.length_cons, List.length_nil, List.cons_append, List.nil_append, List.replicate_succ, List.replicate_zero, Nat.sub_self, fin_same, finX_same, fin_keep, if_true, if_false, reduceIte, Nat.reduceAdd, Nat.reduceLeDiff, Int.cast_ofNat_Int, Int.reduceEq, Int.reduceLE, Int.reduceLT, decide_true, decide_false, Nat.zero_le, Bool.not_true, Bool.not_false, Bool.false_or, Bool.true_or, Bool.or_false, Bool.true_and, Bool.false_and, Bool.and_true, Bool.and_false, cmp_eqI, s_raise]
     rfl)
theorem t_raised_next {w : Int} {v : D} {nm : Bool} (h0 : 7 ≤ w) (h1 : w < 14) : evF Pm wf (d + 1) 3 [.int w, v, .bl nm] M = some (.ex (ci w) v M) := by
  rw [evF_eq (fd := ⟨3, 3, c__law_raised_next, false⟩) rfl rfl]
  have hw : w = 7 ∨ w = 8 ∨ w = 9 ∨ w = 10 ∨ w = 11 ∨ w = 12 ∨ w = 13 := by omega
  rcases hw with rfl | rfl | rfl | rfl | rfl | rfl | rfl <;> cases nm <;>
    (simp only [c__law_raised_next_1a_1a_1, c__law_raised_next_1a_1a, c__law_raised_next_1a_1, c__law_raised_next_1a_2, c__law_raised_next_1a, c__law_raised_next_1, c__law_raised_next_2a_1a_1, c__law_raised_next_2a_1a, c__law_raised_next_2a_1, c__law_raised_next_2a_2, c__law_raised_next_2a, c__law_raised_next_2, c__law_raised_next_3a_1a_1, c__law_raised_next_3a_1a, c__law_raised_next_3a_1, c__law_raised_next_3a_2, c__law_raised_next_3a, c__law_raised_next_3, c__law_raised_next_4a_1a_1, c__law_raised_next_4a_1a, c__law_raised_next_4a_1, c__law_raised_next_4a_2, c__law_raised_next_4a, c__law_raised_next_4, c__law_raised_next_5a_1a_1, c__law_raised_next_5a_1a, c__law_raised_next_5a_1, c__law_raised_next_5a_2, c__law_raised_next_5a, c__law_raised_next_5, c__law_raised_next_6a_1a_1, c__law_raised_next_6a_1a, c__law_raised_next_6a_1, c__law_raised_next_6a_2, c__law_raised_next_6a, c__law_raised_next_6, c__law_raised_next_7a_1, c__law_raised_next_7a, c__law_raised_next_7, c__law_raised_next_8, c__law_raised_next, e_var, e_cst, e_bin, e_neg, e_cmp, e_cmp2, e_and, e_or, e_not, e_ite, e_tup, e_mkF, e_mkT, e_ix, e_slLo, e_slHi, e_slLH, e_rev, e_call, e_bi, e_isi, es_nil, es_cons, ec_nil, ec_cons, el_disp, el_cat, el_rep, el_list, ew_seq, ew_rng1, ew_rng2, ew_enum, ew_zip, s_expr, s_ret, s_retN, s_set, s_par, s_unp, s_app, s_setIx, s_augIx, s_aug, s_iff, s_while, s_raise, s_pass, s_brk, s_cont, ss_nil, ss_cons, lR_some, bR_ok, bR_ex, tR_ok, tR_ex, sR_nx, sR_rt, sR_bk, sR_ct, sR_xc, endR_rt, endR_nx, endR_xc, kR_t, kR_f, kA_t, kA_f, kA_b, kO_t, kO_f, kO_b, g_0, g_s, st_0, st_s, bT_1, bT_n, tS_1, ss0, ss1, wp0, wp1, permD, intD, truD, Option.map_some, Option.map_none, Option.bind_some, List.getElem?_cons_zero, List.getElem?_cons_succ, List.map_cons, List.map_nil, List.length_cons, List.length_nil, List.cons_append, List.nil_append, List.replicate_succ, List.replicate_zero, Nat.sub_self, fin_same, finX_same, fin_keep, if_true, if_false, reduceIte, Nat.reduceAdd, Nat.reduceLeDiff, Int.cast_ofNat_Int, Int.reduceEq, Int.reduceLE, Int.reduceLT, decide_true, decide_false, Nat.zero_le, Bool.not_true, Bool.not_false, Bool.false_or, Bool.true_or, Bool.or_false, Bool.true_and, Bool.false_and, Bool.and_true, Bool.and_false, cmp_eqI, s_raise]
     rfl)
theorem t_raised_last {w : Int} {v : D} {nm : Bool} (h0 : 14 ≤ w) (h1 : w < 23) : evF Pm wf (d + 1) 4 [.int w, v, .bl nm] M = some (.ex (ci w) v M) := by
  rw [evF_eq (fd := ⟨3, 3, c__law_raised_last, false⟩) rfl rfl]
  have hw : w = 14 ∨ w = 15 ∨ w = 16 ∨ w = 17 ∨ w = 18 ∨ w = 19 ∨ w = 20 ∨ w = 21 ∨ w = 22 := by omega
  rcases hw with rfl | rfl | rfl | rfl | rfl | rfl | rfl | rfl | rfl <;> cases nm <;>
    (simp only [c__law_raised_last_1a_1a_1, c__law_raised_last_1a_1a, c__law_raised_last_1a_1, c__law_raised_last_1a_2, c__law_raised_last_1a, c__law_raised_last_1, c__law_raised_last_2a_1a_1, c__law_raised_last_2a_1a, c__law_raised_last_2a_1, c__law_raised_last_2a_2, c__law_raised_last_2a, c__law_raised_last_2, c__law_raised_last_3a_1a_1, c__law_raised_last_3a_1a, c__law_raised_last_3a_1, c__law_raised_last_3a_2, c__law_raised_last_3a, c__law_raised_last_3, c__law_raised_last_4a_1a_1, c__law_raised_last_4a_1a, c__law_raised_last_4a_1, c__law_raised_last_4a_2, c__law_raised_last_4a, c__law_raised_last_4, c__law_raised_last_5a_1a_1, c__law_raised_last_5a_1a, c__law_raised_last_5a_1, c__law_raised_last_5a_2, c__law_raised_last_5a, c__law_raised_last_5, c__law_raised_last_6a_1a_1, c__law_raised_last_6a_1a, c__law_raised_last_6a_1, c__law_raised_last_6a_2, c__law_raised_last_6a, c__law_raised_last_6, c__law_raised_last_7a_1a_1, c__law_raised_last_7a_1a, c__law_raised_last_7a_1, c__law_raised_last_7a_2, c__law_raised_last_7a, c__law_raised_last_7, c__law_raised_last_8a_1a_1, c__law_raised_last_8a_1a, c__law_raised_last_8a_1, c__law_raised_last_8a_2, c__law_raised_last_8a, c__law_raised_last_8, c__law_raised_last_9a_1, c__law_raised_last_9a, c__law_raised_last_9, c__law_raised_last_10, c__law_raised_last, e_var, e_cst, e_bin, e_neg, e_cmp, e_cmp2, e_and, e_or, e_not, e_ite, e_tup, e_mkF, e_mkT, e_ix, e_slLo, e_slHi, e_slLH, e_rev, e_call, e_bi, e_isi, es_nil, es_cons, ec_nil, ec_cons, el_disp, el_cat, el_rep, el_list, ew_seq, ew_rng1, ew_rng2, ew_enum, ew_zip, s_expr, s_ret, s_retN, s_set, s_par, s_unp, s_app, s_setIx, s_augIx, s_aug, s_iff, s_while, s_raise, s_pass, s_brk, s_cont, ss_nil, ss_cons, lR_some, bR_ok, bR_ex, tR_ok, tR_ex, sR_nx, sR_rt, sR_bk, sR_ct, sR_xc, endR_rt, endR_nx, endR_xc, kR_t, kR_f, kA_t, kA_f, kA_b, kO_t, kO_f, kO_b, g_0, g_s, st_0, st_s, bT_1, bT_n, tS_1, ss0, ss1, wp0, wp1, permD, intD, truD, Option.map_some, Option.map_none, Option.bind_some, List.getElem?_cons_zero, List.getElem?_cons_succ, List.map_cons, List.map_nil, List.length_cons, List.length_nil, List.cons_append, List.nil_append, List.replicate_succ, List.replicate_zero, Nat.sub_self, fin_same, finX_same, fin_keep, if_true, if_false, reduceIte, Nat.reduceAdd, Nat.reduceLeDiff, Int.cast_ofNat_Int, Int.reduceEq, Int.reduceLE, Int.reduceLT, decide_true, decide_false, Nat.zero_le, Bool.not_true, Bool.not_false, Bool.false_or, Bool.true_or, Bool.or_false, Bool.true_and, Bool.false_and, Bool.and_true, Bool.and_false, cmp_eqI, s_raise]
     rfl)
end K00

set_option Elab.async false
set_option linter.all false
set_option maxRecDepth 100000
namespace K00
open PySem MP L2
variable {wf d : Nat} {M : MH}
def nameOf (w : Int) : Str := Gcls.getD (ci w) Str.empty
theorem try_hit {b : Nat} {ρ ρ' : MP.Env} {cl : Nat → List D → Ev D} {w : Int} {v : D} (h0 : 0 ≤ w) (h1 : w < 23) (h : exs cl b wf c__law_caught_2x ρ M = some (.xc (ci w) v, ρ', M)) :
    exs1 cl b wf c__law_caught_2 ρ M = some (.nx, (ρ'.set 3 (some (.exc (nameOf w) v))).set 4 none, M) := by
  have hc : ci w < Gcls.length ∧ [0, 1, 2, 3, 4, 5, 6, 7, 8, 9, 10, 11, 12, 13, 14, 15, 16, 17, 18, 19, 20, 21, 22].contains (ci w) = true := by
    have hl : ci w < 23 := by unfold ci; split <;> omega
    have : ∀ c, c < 23 → c < Gcls.length ∧ [0, 1, 2, 3, 4, 5, 6, 7, 8, 9, 10, 11, 12, 13, 14, 15, 16, 17, 18, 19, 20, 21, 22].contains c = true := by decide +kernel
    exact this _ hl
  unfold c__law_caught_2
  rw [s_try, h]
  unfold tkR
  simp only [if_pos hc.1, if_pos hc.2]
  rfl
theorem t_caught {w : Int} {v : D} {nm : Bool} (h0 : 0 ≤ w) (h1 : w < 23) : evF Pm wf (d + 2) 7 [.int w, v, .bl nm] M = some (.ok (.exc (nameOf w) v) M) := by
  rw [evF_eq (fd := ⟨3, 5, c__law_caught, false⟩) rfl rfl]
  have body : exs (evF Pm wf (d + 1)) M.length wf c__law_caught_2x [some (.int w), some v, some (.bl nm), some .non, none] M = some (.xc (ci w) v, [some (.int w), some v, some (.bl nm), some .non, none], M) := by
    by_cases c7 : w < 7
    · simp only [c__law_caught_2x, c__law_caught_2x_1, c__law_caught_2x_1a, c__law_caught_2x_1a_1, e_var, e_cst, e_bin, e_neg, e_cmp, e_cmp2, e_and, e_or, e_not, e_ite, e_tup, e_mkF, e_mkT, e_ix, e_slLo, e_slHi, e_slLH, e_rev, e_call, e_bi, e_isi, es_nil, es_cons, ec_nil, ec_cons, el_disp, el_cat, el_rep, el_list, ew_seq, ew_rng1, ew_rng2, ew_enum, ew_zip, s_expr, s_ret, s_retN, s_set, s_par, s_unp, s_app, s_setIx, s_augIx, s_aug, s_iff, s_while, s_raise, s_pass, s_brk, s_cont, ss_nil, ss_cons, lR_some, bR_ok, bR_ex, tR_ok, tR_ex, sR_nx, sR_rt, sR_bk, sR_ct, sR_xc, endR_rt, endR_nx, endR_xc, kR_t, kR_f, kA_t, kA_f, kA_b, kO_t, kO_f, kO_b, g_0, g_s, st_0, st_s, bT_1, bT_n, tS_1, ss0, ss1, wp0, wp1, permD, intD, truD, Option.map_some, Option.map_none, Option.bind_some, List.getElem?_cons_zero, List.getElem?_cons_succ, List.map_cons, List.map_nil, List.length_cons, List.length_nil, List.cons_append, List.nil_append, List.replicate_succ, List.replicate_zero, Nat.sub_self, fin_same, finX_same, fin_keep, if_true, if_false, reduceIte, Nat.reduceAdd, Nat.reduceLeDiff, Int.cast_ofNat_Int, Int.reduceEq, Int.reduceLE, Int.reduceLT, decide_true, decide_false, Nat.zero_le, Bool.not_true, Bool.not_false, Bool.false_or, Bool.true_or, Bool.or_false, Bool.true_and, Bool.false_and, Bool.and_true, Bool.and_false, cmp_lt, decide_eq_true c7, t_raised h0 c7]
    · by_cases c14 : w < 14
      · simp only [c__law_caught_2x, c__law_caught_2x_1, c__law_caught_2x_2, c__law_caught_2x_2a, c__law_caught_2x_2a_1, e_var, e_cst, e_bin, e_neg, e_cmp, e_cmp2, e_and, e_or, e_not, e_ite, e_tup, e_mkF, e_mkT, e_ix, e_slLo, e_slHi, e_slLH, e_rev, e_call, e_bi, e_isi, es_nil, es_cons, ec_nil, ec_cons, el_disp, el_cat, el_rep, el_list, ew_seq, ew_rng1, ew_rng2, ew_enum, ew_zip, s_expr, s_ret, s_retN, s_set, s_par, s_unp, s_app, s_setIx, s_augIx, s_aug, s_iff, s_while, s_raise, s_pass, s_brk, s_cont, ss_nil, ss_cons, lR_some, bR_ok, bR_ex, tR_ok, tR_ex, sR_nx, sR_rt, sR_bk, sR_ct, sR_xc, endR_rt, endR_nx, endR_xc, kR_t, kR_f, kA_t, kA_f, kA_b, kO_t, kO_f, kO_b, g_0, g_s, st_0, st_s, bT_1, bT_n, tS_1, ss0, ss1, wp0, wp1, permD, intD, truD, Option.map_some, Option.map_none, Option.bind_some, List.getElem?_cons_zero, List.getElem?_cons_succ, List.map_cons, List.map_nil, List.length_cons, List.length_nil, List.cons_append, List.nil_append, List.replicate_succ, List.replicate_zero, Nat.sub_self, fin_same, finX_same, fin_keep, if_true, if_false, reduceIte, Nat.reduceAdd, Nat.reduceLeDiff, Int.cast_ofNat_Int, Int.reduceEq, Int.reduceLE, Int.reduceLT, decide_true, decide_false, Nat.zero_le, Bool.not_true, Bool.not_false, Bool.false_or, Bool.true_or, Bool.or_false, Bool.true_and, Bool.false_and, Bool.and_true, Bool.and_false, cmp_lt, decide_eq_false c7, decide_eq_true c14, t_raised_next (show 7 ≤ w by omega) c14]
      · simp only [c__law_caught_2x, c__law_caught_2x_1, c__law_caught_2x_2, c__law_caught_2x_3, e_var, e_cst, e_bin, e_neg, e_cmp, e_cmp2, e_and, e_or, e_not, e_ite, e_tup, e_mkF, e_mkT, e_ix, e_slLo, e_slHi, e_slLH, e_rev, e_call, e_bi, e_isi, es_nil, es_cons, ec_nil, ec_cons, el_disp, el_cat, el_rep, el_list, ew_seq, ew_rng1, ew_rng2, ew_enum, ew_zip, s_expr, s_ret, s_retN, s_set, s_par, s_unp, s_app, s_setIx, s_augIx, s_aug, s_iff, s_while, s_raise, s_pass, s_brk, s_cont, ss_nil, ss_cons, lR_some, bR_ok, bR_ex, tR_ok, tR_ex, sR_nx, sR_rt, sR_bk, sR_ct, sR_xc, endR_rt, endR_nx, endR_xc, kR_t, kR_f, kA_t, kA_f, kA_b, kO_t, kO_f, kO_b, g_0, g_s, st_0, st_s, bT_1, bT_n, tS_1, ss0, ss1, wp0, wp1, permD, intD, truD, Option.map_some, Option.map_none, Option.bind_some, List.getElem?_cons_zero, List.getElem?_cons_succ, List.map_cons, List.map_nil, List.length_cons, List.length_nil, List.cons_append, List.nil_append, List.replicate_succ, List.replicate_zero, Nat.sub_self, fin_same, finX_same, fin_keep, if_true, if_false, reduceIte, Nat.reduceAdd, Nat.reduceLeDiff, Int.cast_ofNat_Int, Int.reduceEq, Int.reduceLE, Int.reduceLT, decide_true, decide_false, Nat.zero_le, Bool.not_true, Bool.not_false, Bool.false_or, Bool.true_or, Bool.or_false, Bool.true_and, Bool.false_and, Bool.and_true, Bool.and_false, cmp_lt, decide_eq_false c7, decide_eq_false c14, t_raised_last (show 14 ≤ w by omega) h1]
  have tr := try_hit h0 h1 body
  simp only [c__law_caught, c__law_caught_1, c__law_caught_3, e_var, e_cst, e_bin, e_neg, e_cmp, e_cmp2, e_and, e_or, e_not, e_ite, e_tup, e_mkF, e_mkT, e_ix, e_slLo, e_slHi, e_slLH, e_rev, e_call, e_bi, e_isi, es_nil, es_cons, ec_nil, ec_cons, el_disp, el_cat, el_rep, el_list, ew_seq, ew_rng1, ew_rng2, ew_enum, ew_zip, s_expr, s_ret, s_retN, s_set, s_par, s_unp, s_app, s_setIx, s_augIx, s_aug, s_iff, s_while, s_raise, s_pass, s_brk, s_cont, ss_nil, ss_cons, lR_some, bR_ok, bR_ex, tR_ok, tR_ex, sR_nx, sR_rt, sR_bk, sR_ct, sR_xc, endR_rt, endR_nx, endR_xc, kR_t, kR_f, kA_t, kA_f, kA_b, kO_t, kO_f, kO_b, g_0, g_s, st_0, st_s, bT_1, bT_n, tS_1, ss0, ss1, wp0, wp1, permD, intD, truD, Option.map_some, Option.map_none, Option.bind_some, List.getElem?_cons_zero, List.getElem?_cons_succ, List.map_cons, List.map_nil, List.length_cons, List.length_nil, List.cons_append, List.nil_append, List.replicate_succ, List.replicate_zero, Nat.sub_self, fin_same, finX_same, fin_keep, if_true, if_false, reduceIte, Nat.reduceAdd, Nat.reduceLeDiff, Int.cast_ofNat_Int, Int.reduceEq, Int.reduceLE, Int.reduceLT, decide_true, decide_false, Nat.zero_le, Bool.not_true, Bool.not_false, Bool.false_or, Bool.true_or, Bool.or_false, Bool.true_and, Bool.false_and, Bool.and_true, Bool.and_false, tr]
/-! ### the kinds -/
def asks : List Str := Gcls.drop 1
theorem isx_1 {y x : Str} {v : D} (h : Gcls.contains y = true) : isxD [x] Gcls (.exc y v) = some (.bl (y == x)) := by
  show (if Gcls.contains y = true then some (D.bl ([x].contains y)) else none) = _
  rw [if_pos h]
  rw [List.contains_cons]; simp
theorem isx_all {y : Str} {v : D} (h : Gcls.contains y = true) : isxD Gcls Gcls (.exc y v) = some (.bl true) := by
  show (if Gcls.contains y = true then some (D.bl (Gcls.contains y)) else none) = _
  rw [if_pos h, h]
theorem t_kinds {y : Str} {v : D} (h : Gcls.contains y = true) : evF Pm wf (d + 1) 5 [.exc y v] M = some (.ok (.lst (asks.map fun x => .bl (y == x))) M) := by
  rw [evF_eq (fd := ⟨1, 2, c__law_kinds, false⟩) rfl rfl]
  have z0 : (0 : Nat) ≤ sizeLine := Nat.zero_le _
  have z2 : (2 : Nat) ≤ sizeLine := by decide
  have hadd : ∀ (M : MH) (xs ys : List D), xs.length + ys.length ≤ 100 → binD M .add (.lst xs) (.lst ys) = some (.lst (xs ++ ys)) := fun M xs ys hl => bin_addL (Nat.le_trans hl (by decide))
  simp only [c__law_kinds, c__law_kinds_1, c__law_kinds_2, c__law_kinds_3, c__law_kinds_4, c__law_kinds_5, c__law_kinds_6, c__law_kinds_7, c__law_kinds_8, c__law_kinds_9, c__law_kinds_10, c__law_kinds_11, c__law_kinds_12, c__law_kinds_13, e_var, e_cst, e_bin, e_neg, e_cmp, e_cmp2, e_and, e_or, e_not, e_ite, e_tup, e_mkF, e_mkT, e_ix, e_slLo, e_slHi, e_slLH, e_rev, e_call, e_bi, e_isi, es_nil, es_cons, ec_nil, ec_cons, el_disp, el_cat, el_rep, el_list, ew_seq, ew_rng1, ew_rng2, ew_enum, ew_zip, s_expr, s_ret, s_retN, s_set, s_par, s_unp, s_app, s_setIx, s_augIx, s_aug, s_iff, s_while, s_raise, s_pass, s_brk, s_cont, ss_nil, ss_cons, lR_some, bR_ok, bR_ex, tR_ok, tR_ex, sR_nx, sR_rt, sR_bk, sR_ct, sR_xc, endR_rt, endR_nx, endR_xc, kR_t, kR_f, kA_t, kA_f, kA_b, kO_t, kO_f, kO_b, g_0, g_s, st_0, st_s, bT_1, bT_n, tS_1, ss0, ss1, wp0, wp1, permD, intD, truD, Option.map_some, Option.map_none, Option.bind_some, List.getElem?_cons_zero, List.getElem?_cons_succ, List.map_cons, List.map_nil, List.length_cons, List.length_nil, List.cons_append, List.nil_append, List.replicate_succ, List.replicate_zero, Nat.sub_self, fin_same, finX_same, fin_keep, if_true, if_false, reduceIte, Nat.reduceAdd, Nat.reduceLeDiff, Int.cast_ofNat_Int, Int.reduceEq, Int.reduceLE, Int.reduceLT, decide_true, decide_false, Nat.zero_le, Bool.not_true, Bool.not_false, Bool.false_or, Bool.true_or, Bool.or_false, Bool.true_and, Bool.false_and, Bool.and_true, Bool.and_false, e_isx, isx_1 h, if_pos z0, if_pos z2, hadd]
  rfl
end K00

set_option Elab.async false
set_option linter.all false
set_option maxRecDepth 100000
namespace K00
open PySem MP L2
variable {wf d : Nat} {M : MH}
theorem name_in {w : Int} (h0 : 0 ≤ w) (h1 : w < 23) : Gcls.contains (nameOf w) = true := by
  have : ∀ c : Nat, c < 23 → Gcls.contains (nameOf (c : Int)) = true := by decide +kernel
  have e := this w.toNat (by omega)
  rwa [show (w.toNat : Int) = w by omega] at e
theorem kinds_eq {w : Int} (h0 : 0 ≤ w) (h1 : w < 23) : (asks.map fun x => D.bl (nameOf w == x)) = (List.range 22).map fun (k : Nat) => D.bl (decide ((k : Int) = w)) := by
  have : ∀ c : Nat, c < 23 → (asks.map fun x => (nameOf (c : Int) == x)) = (List.range 22).map fun (k : Nat) => decide ((k : Int) = (c : Int)) := by decide +kernel
  have e := this w.toNat (by omega)
  rw [show (w.toNat : Int) = w by omega] at e
  have e2 := congrArg (List.map D.bl) e
  rw [map_map', map_map'] at e2
  exact e2
theorem gd_bls {α : Type} {p : α → Bool} {xs : List α} (hl : xs.length ≤ 1000) : Good 1 (xs.length * 1 + 1) (.lst (xs.map fun x => .bl (p x))) := good_lst (m := xs.length) (k := 0) (w := 1) (fun y hy => by
  obtain ⟨x, _, rfl⟩ := List.mem_map.mp hy
  exact good_bl) (by rw [List.length_map]; exact Nat.le_refl _) hl
theorem t_right {w : Int} {v : D} (h0 : 0 ≤ w) (h1 : w < 23) (hg : gd v = true) (hd : dep v ≤ 5) : evF Pm wf (d + 7) 8 [.exc (nameOf w) v, .int w, v] M = some (.ok (.bl true) M) := by
  rw [evF_eq (fd := ⟨3, 4, c__law_right, false⟩) rfl rfl]
  have hn := name_in h0 h1
  have tk := t_kinds (wf := wf) (d := d + 5) (M := M) (v := v) hn
  rw [kinds_eq h0 h1] at tk
  have s2 := same_refl (wf := wf) (P := Pm) (iS := 1) rfl 5 (d + 6) v M hg hd (by omega)
  have gb := gd_bls (p := fun (k : Nat) => decide ((k : Int) = w)) (xs := List.range 22) (by simp)
  have s1 := same_refl (wf := wf) (P := Pm) (iS := 1) rfl 5 (d + 6) (.lst ((List.range 22).map fun (k : Nat) => D.bl (decide ((k : Int) = w)))) M gb.g (Nat.le_trans gb.d (by decide)) (by omega)
  have hr : ∀ M : MH, rngR 0 22 M = some (.ok (.one (.fix (natsD (List.range 22)))) M) := fun M => rng_n (n := 22) (by decide)
  have hmap : (natsD (List.range 22)).map (fun x => D.bl (decide (MP.unI x = w))) = (List.range 22).map fun (k : Nat) => D.bl (decide ((k : Int) = w)) := by
    unfold natsD
    rw [map_map']; rfl
  simp only [c__law_right, c__law_right_1, c__law_right_2, e_var, e_cst, e_bin, e_neg, e_cmp, e_cmp2, e_and, e_or, e_not, e_ite, e_tup, e_mkF, e_mkT, e_ix, e_slLo, e_slHi, e_slLH, e_rev, e_call, e_bi, e_isi, es_nil, es_cons, ec_nil, ec_cons, el_disp, el_cat, el_rep, el_list, ew_seq, ew_rng1, ew_rng2, ew_enum, ew_zip, s_expr, s_ret, s_retN, s_set, s_par, s_unp, s_app, s_setIx, s_augIx, s_aug, s_iff, s_while, s_raise, s_pass, s_brk, s_cont, ss_nil, ss_cons, lR_some, bR_ok, bR_ex, tR_ok, tR_ex, sR_nx, sR_rt, sR_bk, sR_ct, sR_xc, endR_rt, endR_nx, endR_xc, kR_t, kR_f, kA_t, kA_f, kA_b, kO_t, kO_f, kO_b, g_0, g_s, st_0, st_s, bT_1, bT_n, tS_1, ss0, ss1, wp0, wp1, permD, intD, truD, Option.map_some, Option.map_none, Option.bind_some, List.getElem?_cons_zero, List.getElem?_cons_succ, List.map_cons, List.map_nil, List.length_cons, List.length_nil, List.cons_append, List.nil_append, List.replicate_succ, List.replicate_zero, Nat.sub_self, fin_same, finX_same, fin_keep, if_true, if_false, reduceIte, Nat.reduceAdd, Nat.reduceLeDiff, Int.cast_ofNat_Int, Int.reduceEq, Int.reduceLE, Int.reduceLT, decide_true, decide_false, Nat.zero_le, Bool.not_true, Bool.not_false, Bool.false_or, Bool.true_or, Bool.or_false, Bool.true_and, Bool.false_and, Bool.and_true, Bool.and_false, cmp_isN, isNonD, e_isx, isx_all hn, tk, el_comp, hr, if_pos (lenW_n (M := M) (js := List.range 22) (n := 22) (by simp))]
  rw [cm_map (fun x => .bl (decide (MP.unI x = w))) fun x hx => by
    obtain ⟨j, _, rfl⟩ := List.mem_map.mp hx
    simp only [e_var, e_cst, e_bin, e_neg, e_cmp, e_cmp2, e_and, e_or, e_not, e_ite, e_tup, e_mkF, e_mkT, e_ix, e_slLo, e_slHi, e_slLH, e_rev, e_call, e_bi, e_isi, es_nil, es_cons, ec_nil, ec_cons, el_disp, el_cat, el_rep, el_list, ew_seq, ew_rng1, ew_rng2, ew_enum, ew_zip, s_expr, s_ret, s_retN, s_set, s_par, s_unp, s_app, s_setIx, s_augIx, s_aug, s_iff, s_while, s_raise, s_pass, s_brk, s_cont, ss_nil, ss_cons, lR_some, bR_ok, bR_ex, tR_ok, tR_ex, sR_nx, sR_rt, sR_bk, sR_ct, sR_xc, endR_rt, endR_nx, endR_xc, kR_t, kR_f, kA_t, kA_f, kA_b, kO_t, kO_f, kO_b, g_0, g_s, st_0, st_s, bT_1, bT_n, tS_1, ss0, ss1, wp0, wp1, permD, intD, truD, Option.map_some, Option.map_none, Option.bind_some, List.getElem?_cons_zero, List.getElem?_cons_succ, List.map_cons, List.map_nil, List.length_cons, List.length_nil, List.cons_append, List.nil_append, List.replicate_succ, List.replicate_zero, Nat.sub_self, fin_same, finX_same, fin_keep, if_true, if_false, reduceIte, cmp_eqI] <;> rfl, hmap]
  simp only [e_var, e_cst, e_bin, e_neg, e_cmp, e_cmp2, e_and, e_or, e_not, e_ite, e_tup, e_mkF, e_mkT, e_ix, e_slLo, e_slHi, e_slLH, e_rev, e_call, e_bi, e_isi, es_nil, es_cons, ec_nil, ec_cons, el_disp, el_cat, el_rep, el_list, ew_seq, ew_rng1, ew_rng2, ew_enum, ew_zip, s_expr, s_ret, s_retN, s_set, s_par, s_unp, s_app, s_setIx, s_augIx, s_aug, s_iff, s_while, s_raise, s_pass, s_brk, s_cont, ss_nil, ss_cons, lR_some, bR_ok, bR_ex, tR_ok, tR_ex, sR_nx, sR_rt, sR_bk, sR_ct, sR_xc, endR_rt, endR_nx, endR_xc, kR_t, kR_f, kA_t, kA_f, kA_b, kO_t, kO_f, kO_b, g_0, g_s, st_0, st_s, bT_1, bT_n, tS_1, ss0, ss1, wp0, wp1, permD, intD, truD, Option.map_some, Option.map_none, Option.bind_some, List.getElem?_cons_zero, List.getElem?_cons_succ, List.map_cons, List.map_nil, List.length_cons, List.length_nil, List.cons_append, List.nil_append, List.replicate_succ, List.replicate_zero, Nat.sub_self, fin_same, finX_same, fin_keep, if_true, if_false, reduceIte, Nat.reduceAdd, Nat.reduceLeDiff, Int.cast_ofNat_Int, Int.reduceEq, Int.reduceLE, Int.reduceLT, decide_true, decide_false, Nat.zero_le, Bool.not_true, Bool.not_false, Bool.false_or, Bool.true_or, Bool.or_false, Bool.true_and, Bool.false_and, Bool.and_true, Bool.and_false, s1, e_val, valD, s2]
def Giv (v : D) : Prop := gd v = true ∧ dep v ≤ 5
theorem giv_of {k w : Nat} {v : D} (h : Good k w v) (hk : k ≤ 5 := by decide) : Giv v := ⟨h.g, Nat.le_trans h.d hk⟩
theorem t_given {k : Nat} {ns : List Int} (hns : ns.length ≤ 100) (hp : PotB M k ns) : ∃ v M', evF Pm wf (d + 2) 6 [.ref k] M = some (.ok v M') ∧ Giv v ∧ PotB M' k ns ∧ Only M k M' := by
  rw [evF_eq (fd := ⟨1, 3, c__law_given, false⟩) rfl rfl]
  have p9 : (10 : Int) ^ (9 : Int).toNat = 1000000000 := rfl
  have p20 : (10 : Int) ^ (20 : Int).toNat = 100000000000000000000 := rfl
  have p28 : (10 : Int) ^ (28 : Int).toNat = 10000000000000000000000000000 := rfl
  obtain ⟨r1, M1, e1, b1, p1, o1⟩ := takeB (wf := wf) (d := d) (P := Pm) (iT := 0) (many := 1000000000) rfl hp hns (by decide) (by decide)
  obtain ⟨r2, M2, e2, b2, p2, o2⟩ := takeB (wf := wf) (d := d) (P := Pm) (iT := 0) (many := 1000000000) rfl p1 hns (by decide) (by decide)
  obtain ⟨r3, M3, e3, b3, p3, o3⟩ := takeB (wf := wf) (d := d) (P := Pm) (iT := 0) (many := 9) rfl p2 hns (by decide) (by decide)
  obtain ⟨r4, M4, e4, b4, p4, o4⟩ := takeB (wf := wf) (d := d) (P := Pm) (iT := 0) (many := 15) rfl p3 hns (by decide) (by decide)
  have e1 : evF Pm wf (d + 1) 0 [.ref k, .int 1000000000] M = some (.ok (.int (r1 : Int)) M1) := e1
  have e2 : evF Pm wf (d + 1) 0 [.ref k, .int 1000000000] M1 = some (.ok (.int (r2 : Int)) M2) := e2
  have e3 : evF Pm wf (d + 1) 0 [.ref k, .int 9] M2 = some (.ok (.int (r3 : Int)) M3) := e3
  have e4 : evF Pm wf (d + 1) 0 [.ref k, .int 15] M3 = some (.ok (.int (r4 : Int)) M4) := e4
  obtain ⟨far, hfar⟩ : ∃ far : Int, far = (r1 : Int) * 100000000000000000000 + (r2 : Int) - 10000000000000000000000000000 := ⟨_, rfl⟩
  have hf : far.natAbs < 10 ^ 60 := Nat.lt_of_lt_of_le (show far.natAbs < 1000000000000000000000000000000 by omega) (by decide +kernel)
  have gf : Good 0 1 (.int far) := good_small hf
  obtain ⟨xs, hxs⟩ : ∃ xs : List D, xs = [.int far, .int (r3 : Int), .str "", .str "0 1", .non, .bl true, .bl false, .tup [], .tup [.int far, .int 1], .lst [.int far, .str "x"], .tup [.str "01", .tup [.str "1", .tup []]], .lst [], .int (-1), .int 0, .tup [.int 2, .int 1, .tup [.tup [.int 0, .str "0", .int 0]]]] := ⟨_, rfl⟩
  have hlen : xs.length = 15 := by rw [hxs]; rfl
  have hgiv : ∀ x ∈ xs, Giv x := by
    intro x hx
    rw [hxs] at hx
    simp only [List.mem_cons, List.not_mem_nil, or_false] at hx
    rcases hx with rfl | rfl | rfl | rfl | rfl | rfl | rfl | rfl | rfl | rfl | rfl | rfl | rfl | rfl | rfl
    · exact giv_of gf
    · exact giv_of (good_small (i := (r3 : Int)) (Nat.lt_of_lt_of_le (show ((r3 : Int)).natAbs < 10 by omega) (by decide +kernel)))
    · exact ⟨by decide +kernel, by decide +kernel⟩
    · exact ⟨by decide +kernel, by decide +kernel⟩
    · exact ⟨by decide +kernel, by decide +kernel⟩
    · exact ⟨by decide +kernel, by decide +kernel⟩
    · exact ⟨by decide +kernel, by decide +kernel⟩
    · exact ⟨by decide +kernel, by decide +kernel⟩
    · exact giv_of (good_tup (xs := [.int far, .int 1]) (m := 2) (k := 0) (w := 1) (fun y hy => by
        simp only [List.mem_cons, List.not_mem_nil, or_false] at hy
        rcases hy with rfl | rfl
        · exact gf
        · exact good_small (by decide +kernel)) (Nat.le_refl 2))
    · exact giv_of (good_lst (xs := [.int far, .str "x"]) (m := 2) (k := 0) (w := 1) (fun y hy => by
        simp only [List.mem_cons, List.not_mem_nil, or_false] at hy
        rcases hy with rfl | rfl
        · exact gf
        · exact good_str (by decide +kernel) (by decide +kernel)) (Nat.le_refl 2))
    · exact ⟨by decide +kernel, by decide +kernel⟩
    · exact ⟨by decide +kernel, by decide +kernel⟩
    · exact ⟨by decide +kernel, by decide +kernel⟩
    · exact ⟨by decide +kernel, by decide +kernel⟩
    · exact ⟨by decide +kernel, by decide +kernel⟩
  have hat : L2.atI xs (r4 : Int) = some (xs[r4]'(by omega)) := rd_all (by omega)
  have oo := ((o1.trans o2).trans o3).trans o4
  refine ⟨xs[r4]'(by omega), M4, ?_, hgiv _ (List.getElem_mem _), p4, oo⟩
  have z : ∀ n : Nat, n ≤ 20 → n ≤ sizeLine := fun n h => Nat.le_trans h (by decide)
  have hadd : ∀ (M : MH) (xs ys : List D), xs.length + ys.length ≤ 100 → binD M .add (.lst xs) (.lst ys) = some (.lst (xs ++ ys)) := fun M xs ys hl => bin_addL (Nat.le_trans hl (by decide))
  simp only [c__law_given, c__law_given_1, c__law_given_2, c__law_given_3, e_var, e_cst, e_bin, e_neg, e_cmp, e_cmp2, e_and, e_or, e_not, e_ite, e_tup, e_mkF, e_mkT, e_ix, e_slLo, e_slHi, e_slLH, e_rev, e_call, e_bi, e_isi, es_nil, es_cons, ec_nil, ec_cons, el_disp, el_cat, el_rep, el_list, ew_seq, ew_rng1, ew_rng2, ew_enum, ew_zip, s_expr, s_ret, s_retN, s_set, s_par, s_unp, s_app, s_setIx, s_augIx, s_aug, s_iff, s_while, s_raise, s_pass, s_brk, s_cont, ss_nil, ss_cons, lR_some, bR_ok, bR_ex, tR_ok, tR_ex, sR_nx, sR_rt, sR_bk, sR_ct, sR_xc, endR_rt, endR_nx, endR_xc, kR_t, kR_f, kA_t, kA_f, kA_b, kO_t, kO_f, kO_b, g_0, g_s, st_0, st_s, bT_1, bT_n, tS_1, ss0, ss1, wp0, wp1, permD, intD, truD, Option.map_some, Option.map_none, Option.bind_some, List.getElem?_cons_zero, List.getElem?_cons_succ, List.map_cons, List.map_nil, List.length_cons, List.length_nil, List.cons_append, List.nil_append, List.replicate_succ, List.replicate_zero, Nat.sub_self, fin_same, finX_same, fin_keep, if_true, if_false, reduceIte, Nat.reduceAdd, Nat.reduceLeDiff, Int.cast_ofNat_Int, Int.reduceEq, Int.reduceLE, Int.reduceLT, decide_true, decide_false, Nat.zero_le, Bool.not_true, Bool.not_false, Bool.false_or, Bool.true_or, Bool.or_false, Bool.true_and, Bool.false_and, Bool.and_true, Bool.and_false, bin_pow (i := 10) (j := 9) (by decide), bin_pow (i := 10) (j := 20) (by decide), bin_pow (i := 10) (j := 28) (by decide), p9, p20, p28, e1, e2, bin_mul (i := (r1 : Int)) (mulOk_l (by omega)), bin_add, bin_sub, ← hfar, e3, if_pos (z 0 (by decide)), if_pos (z 1 (by decide)), if_pos (z 2 (by decide)), if_pos (z 3 (by decide)), if_pos (z 12 (by decide)), hadd, e4, ixD_lst]
  rw [← hxs, hat]
  simp only [e_var, e_cst, e_bin, e_neg, e_cmp, e_cmp2, e_and, e_or, e_not, e_ite, e_tup, e_mkF, e_mkT, e_ix, e_slLo, e_slHi, e_slLH, e_rev, e_call, e_bi, e_isi, es_nil, es_cons, ec_nil, ec_cons, el_disp, el_cat, el_rep, el_list, ew_seq, ew_rng1, ew_rng2, ew_enum, ew_zip, s_expr, s_ret, s_retN, s_set, s_par, s_unp, s_app, s_setIx, s_augIx, s_aug, s_iff, s_while, s_raise, s_pass, s_brk, s_cont, ss_nil, ss_cons, lR_some, bR_ok, bR_ex, tR_ok, tR_ex, sR_nx, sR_rt, sR_bk, sR_ct, sR_xc, endR_rt, endR_nx, endR_xc, kR_t, kR_f, kA_t, kA_f, kA_b, kO_t, kO_f, kO_b, g_0, g_s, st_0, st_s, bT_1, bT_n, tS_1, ss0, ss1, wp0, wp1, permD, intD, truD, Option.map_some, Option.map_none, Option.bind_some, List.getElem?_cons_zero, List.getElem?_cons_succ, List.map_cons, List.map_nil, List.length_cons, List.length_nil, List.cons_append, List.nil_append, List.replicate_succ, List.replicate_zero, Nat.sub_self, fin_same, finX_same, fin_keep, if_true, if_false, reduceIte]
  exact fin_eq oo.1
end K00

set_option Elab.async false
set_option linter.all false
set_option maxRecDepth 100000
namespace K00
open PySem MP L2
variable {wf d : Nat} {M : MH}
theorem which_turn {b i : Nat} {ns : List Int} (hns : ns.length ≤ 100) (hp : PotB M 1 ns) (hi : i < 23) {x0 x2 x3 x4 x5 x6 x7 x8 : Option D} :
    ∃ ρ' M', turnS (evF Pm wf (d + 7)) b wf [3] true c_law_2x_1x (.int (i : Int)) [x0, some (.ref 1), x2, x3, x4, x5, x6, x7, x8] M = some (.nx, ρ', M') ∧
      (∃ x3 x4 x5 x6 x7 x8, ρ' = [x0, some (.ref 1), x2, x3, x4, x5, x6, x7, x8]) ∧ PotB M' 1 ns ∧ Only M 1 M' := by
  obtain ⟨v, M1, e1, g1, p1, o1⟩ := t_given (wf := wf) (d := d + 5) hns hp
  obtain ⟨u, M2, e2, g2, p2, o2⟩ := t_given (wf := wf) (d := d + 5) hns p1
  obtain ⟨t, M3, e3, b3, p3, o3⟩ := takeB (wf := wf) (d := d + 6) (P := Pm) (iT := 0) (many := 2) rfl p2 hns (by decide) (by decide)
  have e3 : evF Pm wf (d + 7) 0 [.ref 1, .int 2] M2 = some (.ok (.int (t : Int)) M3) := e3
  have h0 : (0 : Int) ≤ (i : Int) := by omega
  have h1 : (i : Int) < 23 := by omega
  have c1 := t_caught (wf := wf) (d := d + 5) (M := M3) (v := v) (nm := decide ((t : Int) = 0)) h0 h1
  have c2 := t_caught (wf := wf) (d := d + 5) (M := M3) (v := u) (nm := !decide ((t : Int) = 0)) h0 h1
  have r1 := t_right (wf := wf) (d := d) (M := M3) h0 h1 g1.1 g1.2
  have r2 := t_right (wf := wf) (d := d) (M := M3) h0 h1 g2.1 g2.2
  have oo := (o1.trans o2).trans o3
  refine ⟨[x0, some (.ref 1), x2, some (.int (i : Int)), some v, some u, some (.bl (decide ((t : Int) = 0))), some (.exc (nameOf i) v), some (.exc (nameOf i) u)], M3, ?_, ⟨_, _, _, _, _, _, rfl⟩, p3, oo⟩
  simp only [turnS, c_law_2x_1x, c_law_2x_1x_1, c_law_2x_1x_2, c_law_2x_1x_3, c_law_2x_1x_4, e_var, e_cst, e_bin, e_neg, e_cmp, e_cmp2, e_and, e_or, e_not, e_ite, e_tup, e_mkF, e_mkT, e_ix, e_slLo, e_slHi, e_slLH, e_rev, e_call, e_bi, e_isi, es_nil, es_cons, ec_nil, ec_cons, el_disp, el_cat, el_rep, el_list, ew_seq, ew_rng1, ew_rng2, ew_enum, ew_zip, s_expr, s_ret, s_retN, s_set, s_par, s_unp, s_app, s_setIx, s_augIx, s_aug, s_iff, s_while, s_raise, s_pass, s_brk, s_cont, ss_nil, ss_cons, lR_some, bR_ok, bR_ex, tR_ok, tR_ex, sR_nx, sR_rt, sR_bk, sR_ct, sR_xc, endR_rt, endR_nx, endR_xc, kR_t, kR_f, kA_t, kA_f, kA_b, kO_t, kO_f, kO_b, g_0, g_s, st_0, st_s, bT_1, bT_n, tS_1, ss0, ss1, wp0, wp1, permD, intD, truD, Option.map_some, Option.map_none, Option.bind_some, List.getElem?_cons_zero, List.getElem?_cons_succ, List.map_cons, List.map_nil, List.length_cons, List.length_nil, List.cons_append, List.nil_append, List.replicate_succ, List.replicate_zero, Nat.sub_self, fin_same, finX_same, fin_keep, if_true, if_false, reduceIte, Nat.reduceAdd, Nat.reduceLeDiff, Int.cast_ofNat_Int, Int.reduceEq, Int.reduceLE, Int.reduceLT, decide_true, decide_false, Nat.zero_le, Bool.not_true, Bool.not_false, Bool.false_or, Bool.true_or, Bool.or_false, Bool.true_and, Bool.false_and, Bool.and_true, Bool.and_false, e1, e2, e3, cmp_eqI, c1, c2, r1, r2]
theorem law_turn {b : Nat} {ns : List Int} {x : D} (hns : ns.length ≤ 100) (hp : PotB M 1 ns) {x0 x2 x3 x4 x5 x6 x7 x8 : Option D} :
    ∃ ρ' M', turnS (evF Pm wf (d + 7)) b wf [2] true c_law_2x x [x0, some (.ref 1), x2, x3, x4, x5, x6, x7, x8] M = some (.nx, ρ', M') ∧
      (∃ x2 x3 x4 x5 x6 x7 x8, ρ' = [x0, some (.ref 1), x2, x3, x4, x5, x6, x7, x8]) ∧ PotB M' 1 ns ∧ Only M 1 M' := by
  obtain ⟨ρ', M1, e1, ⟨y3, y4, y5, y6, y7, y8, hρ⟩, p1, o1⟩ := forE_nx (f := turnS (evF Pm wf (d + 7)) b wf [3] true c_law_2x_1x)
    (fun i ρ M' => (∃ y3 y4 y5 y6 y7 y8, ρ = [x0, some (.ref 1), some x, y3, y4, y5, y6, y7, y8]) ∧ PotB M' 1 ns ∧ Only M 1 M') (xs := natsD (List.range 23)) (k := 0) (M := M) (ρ := [x0, some (.ref 1), some x, x3, x4, x5, x6, x7, x8])
    ⟨⟨_, _, _, _, _, _, rfl⟩, hp, .refl⟩ fun i y ρ M' hy ⟨⟨y3, y4, y5, y6, y7, y8, hρ⟩, hpi, hoi⟩ => by
      subst hρ
      obtain ⟨rfl, hi⟩ := nats_at hy
      obtain ⟨ρ2, M2, e, hρ2, p2, o2⟩ := which_turn (wf := wf) (d := d) (M := M') (b := b) (x0 := x0) (x2 := some x) (x3 := y3) (x4 := y4) (x5 := y5) (x6 := y6) (x7 := y7) (x8 := y8) hns hpi hi
      exact ⟨ρ2, M2, e, hρ2, p2, hoi.trans o2⟩
  have z23 : ∀ M : MH, rngR 0 23 M = some (.ok (.one (.fix (natsD (List.range 23)))) M) := fun M => rng_n (n := 23) (by decide)
  subst hρ
  refine ⟨_, M1, ?_, ⟨some x, y3, y4, y5, y6, y7, y8, rfl⟩, p1, o1⟩
  simp only [turnS, c_law_2x, c_law_2x_1, e_var, e_cst, e_bin, e_neg, e_cmp, e_cmp2, e_and, e_or, e_not, e_ite, e_tup, e_mkF, e_mkT, e_ix, e_slLo, e_slHi, e_slLH, e_rev, e_call, e_bi, e_isi, es_nil, es_cons, ec_nil, ec_cons, el_disp, el_cat, el_rep, el_list, ew_seq, ew_rng1, ew_rng2, ew_enum, ew_zip, s_expr, s_ret, s_retN, s_set, s_par, s_unp, s_app, s_setIx, s_augIx, s_aug, s_iff, s_while, s_raise, s_pass, s_brk, s_cont, ss_nil, ss_cons, lR_some, bR_ok, bR_ex, tR_ok, tR_ex, sR_nx, sR_rt, sR_bk, sR_ct, sR_xc, endR_rt, endR_nx, endR_xc, kR_t, kR_f, kA_t, kA_f, kA_b, kO_t, kO_f, kO_b, g_0, g_s, st_0, st_s, bT_1, bT_n, tS_1, ss0, ss1, wp0, wp1, permD, intD, truD, Option.map_some, Option.map_none, Option.bind_some, List.getElem?_cons_zero, List.getElem?_cons_succ, List.map_cons, List.map_nil, List.length_cons, List.length_nil, List.cons_append, List.nil_append, List.replicate_succ, List.replicate_zero, Nat.sub_self, fin_same, finX_same, fin_keep, if_true, if_false, reduceIte, Nat.reduceAdd, Nat.reduceLeDiff, Int.cast_ofNat_Int, Int.reduceEq, Int.reduceLE, Int.reduceLT, decide_true, decide_false, Nat.zero_le, Bool.not_true, Bool.not_false, Bool.false_or, Bool.true_or, Bool.or_false, Bool.true_and, Bool.false_and, Bool.and_true, Bool.and_false, s_for, z23, forW_fix0, e1]
theorem t_law {ns : List Int} (hn : ns.length ≤ 63) : ∃ M', evF Pm wf (d + 8) 9 [.scr ns] [] = some (.ok (.bl true) M') := by
  rw [evF_eq (fd := ⟨1, 9, c_law, false⟩) rfl rfl]
  have hp0 : PotB [.lst [.int 0, .int 11, .int 3], .lst (potB 0 11 3 ns)] 1 ns := ⟨_, _, _, rfl, by decide, by decide, by decide, by decide, by decide⟩
  obtain ⟨q, hq, hq2⟩ : ∃ q : Nat, (q : Int) = (if (if (ns.length : Int) < 12 then (ns.length : Int) else 12) > 1 then (if (ns.length : Int) < 12 then (ns.length : Int) else 12) else 1) ∧ q ≤ 12 :=
    ⟨(if (if (ns.length : Int) < 12 then (ns.length : Int) else 12) > 1 then (if (ns.length : Int) < 12 then (ns.length : Int) else 12) else 1).toNat, by split <;> split <;> omega, by split <;> split <;> omega⟩
  obtain ⟨ρ', M1, e1, ⟨y2, y3, y4, y5, y6, y7, y8, hρ⟩, hp1, hl1⟩ := forE_nx (f := turnS (evF Pm wf (d + 7)) 0 wf [2] true c_law_2x)
    (fun i ρ M' => (∃ y2 y3 y4 y5 y6 y7 y8, ρ = [some (.scr ns), some (.ref 1), y2, y3, y4, y5, y6, y7, y8]) ∧ PotB M' 1 ns ∧ M'.length = 2) (xs := natsD (List.range q)) (k := 0) (M := [.lst [.int 0, .int 11, .int 3], .lst (potB 0 11 3 ns)]) (ρ := [some (.scr ns), some (.ref 1), none, none, none, none, none, none, none])
    ⟨⟨_, _, _, _, _, _, _, rfl⟩, hp0, rfl⟩ fun i y ρ M' hy ⟨⟨y2, y3, y4, y5, y6, y7, y8, hρ⟩, hpi, hli⟩ => by
      subst hρ
      obtain ⟨ρ2, M2, e, hρ2, p2, o2⟩ := law_turn (wf := wf) (d := d) (M := M') (b := 0) (x := y) (x0 := some (.scr ns)) (x2 := y2) (x3 := y3) (x4 := y4) (x5 := y5) (x6 := y6) (x7 := y7) (x8 := y8) (by omega) hpi
      exact ⟨ρ2, M2, e, hρ2, p2, o2.1.trans hli⟩
  subst hρ
  have h2 : (3 : Nat) ≤ sizeLine := by decide
  have h3 : [D.int 0, .int 11, .int 3].length + (ns.map D.int).length ≤ sizeLine := by
    rw [List.length_map]
    exact Nat.le_trans (show 3 + ns.length ≤ 104 by omega) (by decide)
  have s1 : exs1 (evF Pm wf (d + 7)) 0 wf c_law_1 [some (.scr ns), none, none, none, none, none, none, none, none] [] = some (.nx, [some (.scr ns), some (.ref 1), none, none, none, none, none, none, none], [.lst [.int 0, .int 11, .int 3], .lst (potB 0 11 3 ns)]) := by
    simp only [c_law_1, e_mkT, el_cat, el_disp, e_mkF, el_list, es_cons, es_nil, e_cst, e_var, bR_ok, lR_some, s_set, tR_ok, List.map_cons, List.map_nil, List.cons_append, List.nil_append, g_0, scr_seq, List.length_cons, List.length_nil, Nat.reduceAdd, if_pos h2, lstOf_lst]
    simp only [lstOf, List.getElem?_cons_zero, bR_ok, lR_some]
    rw [if_pos h3]
    rfl
  have hlen : ∀ M : MH, lenD M (.scr ns) = some (.int (ns.length : Int)) := fun M => by
    show (seqOf M (.scr ns)).map (fun xs => D.int (xs.length : Int)) = _
    rw [scr_seq]; simp
  have hk : exs (evF Pm wf (d + 7)) 0 wf c_law [some (.scr ns), none, none, none, none, none, none, none, none] [] = some (.rt (.bl true), [some (.scr ns), some (.ref 1), y2, y3, y4, y5, y6, y7, y8], M1) := by
    simp only [c_law, ss_cons, s1, sR_nx, c_law_2, c_law_3, e_var, e_cst, e_bin, e_neg, e_cmp, e_cmp2, e_and, e_or, e_not, e_ite, e_tup, e_mkF, e_mkT, e_ix, e_slLo, e_slHi, e_slLH, e_rev, e_call, e_bi, e_isi, es_nil, es_cons, ec_nil, ec_cons, el_disp, el_cat, el_rep, el_list, ew_seq, ew_rng1, ew_rng2, ew_enum, ew_zip, s_expr, s_ret, s_retN, s_set, s_par, s_unp, s_app, s_setIx, s_augIx, s_aug, s_iff, s_while, s_raise, s_pass, s_brk, s_cont, ss_nil, ss_cons, lR_some, bR_ok, bR_ex, tR_ok, tR_ex, sR_nx, sR_rt, sR_bk, sR_ct, sR_xc, endR_rt, endR_nx, endR_xc, kR_t, kR_f, kA_t, kA_f, kA_b, kO_t, kO_f, kO_b, g_0, g_s, st_0, st_s, bT_1, bT_n, tS_1, ss0, ss1, wp0, wp1, permD, intD, truD, Option.map_some, Option.map_none, Option.bind_some, List.getElem?_cons_zero, List.getElem?_cons_succ, List.map_cons, List.map_nil, List.length_cons, List.length_nil, List.cons_append, List.nil_append, List.replicate_succ, List.replicate_zero, Nat.sub_self, fin_same, finX_same, fin_keep, if_true, if_false, reduceIte, Nat.reduceAdd, Nat.reduceLeDiff, Int.cast_ofNat_Int, Int.reduceEq, Int.reduceLE, Int.reduceLT, decide_true, decide_false, Nat.zero_le, Bool.not_true, Bool.not_false, Bool.false_or, Bool.true_or, Bool.or_false, Bool.true_and, Bool.false_and, Bool.and_true, Bool.and_false, s_for, bi_lenE, hlen, bi_min2, bi_max2, ← hq, rng_n (n := q) (by omega), forW_fix0, e1]
  show ∃ M', endR false 0 (exs (evF Pm wf (d + 7)) 0 wf c_law [some (.scr ns), none, none, none, none, none, none, none, none] []) = _
  rw [hk]
  exact ⟨_, fin_clo rfl rfl⟩
end K00

set_option Elab.async false
set_option linter.all false
set_option maxRecDepth 100000
set_option maxHeartbeats 0
namespace K00
open PySem PySem.Spec PyProof.Rows L2 MP
theorem lawEv (ns : List Int) (hn : ns.length ≤ 63) : ∃ M', evF Pm 1000 8 9 [.scr ns] [] = some (.ok (.bl true) M') := t_law (d := 0) hn
/-! ### the end -/
theorem sc__law_take : FnScope N__law_take ["pot", "many"] (defScope (top 25)) := ⟨rfl, rfl, rfl, by decide +kernel, rfl, by decide +kernel, by decide +kernel⟩
theorem sc__law_same : FnScope N__law_same ["got", "due"] (defScope (top 26)) := ⟨rfl, rfl, rfl, by decide +kernel, rfl, by decide +kernel, by decide +kernel⟩
theorem sc__law_raised : FnScope N__law_raised ["which", "given", "named"] (defScope (top 27)) := ⟨rfl, rfl, rfl, by decide +kernel, rfl, by decide +kernel, by decide +kernel⟩
theorem sc__law_raised_next : FnScope N__law_raised_next ["which", "given", "named"] (defScope (top 28)) := ⟨rfl, rfl, rfl, by decide +kernel, rfl, by decide +kernel, by decide +kernel⟩
theorem sc__law_raised_last : FnScope N__law_raised_last ["which", "given", "named"] (defScope (top 29)) := ⟨rfl, rfl, rfl, by decide +kernel, rfl, by decide +kernel, by decide +kernel⟩
theorem sc__law_kinds : FnScope N__law_kinds ["e"] (defScope (top 30)) := ⟨rfl, rfl, rfl, by decide +kernel, rfl, by decide +kernel, by decide +kernel⟩
theorem sc__law_given : FnScope N__law_given ["pot"] (defScope (top 31)) := ⟨rfl, rfl, rfl, by decide +kernel, rfl, by decide +kernel, by decide +kernel⟩
theorem sc__law_caught : FnScope N__law_caught ["which", "given", "named"] (defScope (top 32)) := ⟨rfl, rfl, rfl, by decide +kernel, rfl, by decide +kernel, by decide +kernel⟩
theorem sc__law_right : FnScope N__law_right ["caught", "which", "given"] (defScope (top 33)) := ⟨rfl, rfl, rfl, by decide +kernel, rfl, by decide +kernel, by decide +kernel⟩
theorem sc_law : FnScope N_law ["script"] (defScope (top 34)) := ⟨rfl, rfl, rfl, by decide +kernel, rfl, by decide +kernel, by decide +kernel⟩
def dd__law_take : He.DefD := ⟨("_law_take", none), "_law_take", "_law_take", defArgs (top 25), defBody (top 25), defScope (top 25), [], []⟩
def dd__law_same : He.DefD := ⟨("_law_same", none), "_law_same", "_law_same", defArgs (top 26), defBody (top 26), defScope (top 26), [], []⟩
def dd__law_raised : He.DefD := ⟨("_law_raised", none), "_law_raised", "_law_raised", defArgs (top 27), defBody (top 27), defScope (top 27), [], []⟩
def dd__law_raised_next : He.DefD := ⟨("_law_raised_next", none), "_law_raised_next", "_law_raised_next", defArgs (top 28), defBody (top 28), defScope (top 28), [], []⟩
def dd__law_raised_last : He.DefD := ⟨("_law_raised_last", none), "_law_raised_last", "_law_raised_last", defArgs (top 29), defBody (top 29), defScope (top 29), [], []⟩
def dd__law_kinds : He.DefD := ⟨("_law_kinds", none), "_law_kinds", "_law_kinds", defArgs (top 30), defBody (top 30), defScope (top 30), [], []⟩
def dd__law_given : He.DefD := ⟨("_law_given", none), "_law_given", "_law_given", defArgs (top 31), defBody (top 31), defScope (top 31), [], []⟩
def dd__law_caught : He.DefD := ⟨("_law_caught", none), "_law_caught", "_law_caught", defArgs (top 32), defBody (top 32), defScope (top 32), [], []⟩
def dd__law_right : He.DefD := ⟨("_law_right", none), "_law_right", "_law_right", defArgs (top 33), defBody (top 33), defScope (top 33), [], []⟩
def dd_law : He.DefD := ⟨("law", none), "law", "law", defArgs (top 34), defBody (top 34), defScope (top 34), [], []⟩
def ini : Stmt := MP.clsInit (top 1)
theorem sc_init : FnScope ["self", "value"] ["self", "value"] (defScope ini) := ⟨rfl, rfl, rfl, by decide +kernel, rfl, by decide +kernel, by decide +kernel⟩
def dd_init : He.DefD := ⟨("ShiftsError", some "__init__"), "__init__", "ShiftsError.__init__", defArgs ini, defBody ini, defScope ini, [], []⟩
def fnL : List He.DefD := [dd__law_take, dd__law_same, dd__law_raised, dd__law_raised_next, dd__law_raised_last, dd__law_kinds, dd__law_given, dd__law_caught, dd__law_right, dd_law, dd_init]
def faL : List He.Fa := [.glo "_law_take", .glo "_law_same", .glo "_law_raised", .glo "_law_raised_next", .glo "_law_raised_last", .glo "_law_kinds", .glo "_law_given", .glo "_law_caught", .glo "_law_right", .glo "law", .free "len", .free "all", .free "any", .free "sum", .free "int", .free "str", .free "abs", .free "tuple", .free "min", .free "max", .free "isinstance", .free "list", .free "range", .free "enumerate", .free "zip", .free "bool", .free "repr", .glo "ShiftsError", .glo "InvalidInteger", .glo "InvalidWord", .glo "InvalidConstraint", .glo "InvalidMatrix", .glo "InvalidRows", .glo "InvalidPresentation", .glo "InvalidLetters", .glo "InvalidEncoder", .glo "InvalidRule", .glo "InvalidGaps", .glo "OtherGrowth", .glo "UnlikeColumns", .glo "NotIrreducible", .glo "NotFiniteType", .glo "NotMixing", .glo "NotLess", .glo "NotFiniteToOne", .glo "InvalidName", .glo "UnknownName", .glo "NothingToUndo", .glo "Unreadable", .glo "InvalidCommand", .free "ValueError", .exm "ShiftsError" "ShiftsError" true, .exm "InvalidInteger" "ShiftsError" true, .exm "InvalidWord" "ShiftsError" true, .exm "InvalidConstraint" "ShiftsError" true, .exm "InvalidMatrix" "ShiftsError" true, .exm "InvalidRows" "ShiftsError" true, .exm "InvalidPresentation" "ShiftsError" true, .exm "InvalidLetters" "ShiftsError" true, .exm "InvalidEncoder" "ShiftsError" true, .exm "InvalidRule" "ShiftsError" true, .exm "InvalidGaps" "ShiftsError" true, .exm "OtherGrowth" "ShiftsError" true, .exm "UnlikeColumns" "ShiftsError" true, .exm "NotIrreducible" "ShiftsError" true, .exm "NotFiniteType" "ShiftsError" true, .exm "NotMixing" "ShiftsError" true, .exm "NotLess" "ShiftsError" true, .exm "NotFiniteToOne" "ShiftsError" true, .exm "InvalidName" "ShiftsError" true, .exm "UnknownName" "ShiftsError" true, .exm "NothingToUndo" "ShiftsError" true, .exm "Unreadable" "ShiftsError" true, .exm "InvalidCommand" "ShiftsError" true]
abbrev RR : PySem.W.OpenRow := PySem.W.OpenLaw.row PySem.Challenge.rw_wholeshifts_k00_errors
def exL (K : PySem.W.Frag) : Bool := (Gcls.all fun x => MP.excB "ShiftsError" x K) && MP.isxB Gcls Gisxs K
abbrev hkL : PySem.W.Hook := MP.hookM 5 faL fnL exL
def obL (s : PySem.W.SharedT) : MP.AlM := MP.obsM 5 faL fnL exL (HandSHeadRun.getT s)
theorem obL_eq (s : PySem.W.SharedT) : obL s = hkL.obs s.abs := MP.obsM_eq (HandSHeadRun.getT_eq s)
theorem runL (w : World) : HandSHeadRun.RunEq RR (PySem.W.view RR.prog [34]) hkL obL 16000 ["_law_take", "_law_same", "_law_raised", "_law_raised_next", "_law_raised_last", "_law_kinds", "_law_given", "_law_caught", "_law_right", "ShiftsError", "InvalidInteger", "InvalidWord", "InvalidConstraint", "InvalidMatrix", "InvalidRows", "InvalidPresentation", "InvalidLetters", "InvalidEncoder", "InvalidRule", "InvalidGaps", "OtherGrowth", "UnlikeColumns", "NotIrreducible", "NotFiniteType", "NotMixing", "NotLess", "NotFiniteToOne", "InvalidName", "UnknownName", "NothingToUndo", "Unreadable", "InvalidCommand"] w := by
  intro os
  kernel_rfl
section
variable {w : World} {K : PySem.W.Frag} {h : Heap} {mg : Str → Option Value}
theorem do__law_take (X : K.In h) (G0 : h.Ns mainGlobals mg) (c : He.SaysD faL fnL K) : DefOk K mg G Pm 0 "_law_take" ["pot", "many"] := by
  obtain ⟨fd, F⟩ := c.def_ 0 (d := dd__law_take) rfl
  refine defOk (He.glo_ok X G0 (c.fact 0 (f := .glo "_law_take") rfl)) F sc__law_take cc__law_take rfl (fun _ _ _ _ _ _ us hl => match us, hl with | [_, _], _ => rfl) (noKws (by decide +kernel))
theorem do__law_same (X : K.In h) (G0 : h.Ns mainGlobals mg) (c : He.SaysD faL fnL K) : DefOk K mg G Pm 1 "_law_same" ["got", "due"] := by
  obtain ⟨fd, F⟩ := c.def_ 1 (d := dd__law_same) rfl
  refine defOk (He.glo_ok X G0 (c.fact 1 (f := .glo "_law_same") rfl)) F sc__law_same cc__law_same rfl (fun _ _ _ _ _ _ us hl => match us, hl with | [_, _], _ => rfl) (noKws (by decide +kernel))
theorem do__law_raised (X : K.In h) (G0 : h.Ns mainGlobals mg) (c : He.SaysD faL fnL K) : DefOk K mg G Pm 2 "_law_raised" ["which", "given", "named"] := by
  obtain ⟨fd, F⟩ := c.def_ 2 (d := dd__law_raised) rfl
  refine defOk (He.glo_ok X G0 (c.fact 2 (f := .glo "_law_raised") rfl)) F sc__law_raised cc__law_raised rfl (fun _ _ _ _ _ _ us hl => match us, hl with | [_, _, _], _ => rfl) (noKws (by decide +kernel))
theorem do__law_raised_next (X : K.In h) (G0 : h.Ns mainGlobals mg) (c : He.SaysD faL fnL K) : DefOk K mg G Pm 3 "_law_raised_next" ["which", "given", "named"] := by
  obtain ⟨fd, F⟩ := c.def_ 3 (d := dd__law_raised_next) rfl
  refine defOk (He.glo_ok X G0 (c.fact 3 (f := .glo "_law_raised_next") rfl)) F sc__law_raised_next cc__law_raised_next rfl (fun _ _ _ _ _ _ us hl => match us, hl with | [_, _, _], _ => rfl) (noKws (by decide +kernel))
theorem do__law_raised_last (X : K.In h) (G0 : h.Ns mainGlobals mg) (c : He.SaysD faL fnL K) : DefOk K mg G Pm 4 "_law_raised_last" ["which", "given", "named"] := by
  obtain ⟨fd, F⟩ := c.def_ 4 (d := dd__law_raised_last) rfl
  refine defOk (He.glo_ok X G0 (c.fact 4 (f := .glo "_law_raised_last") rfl)) F sc__law_raised_last cc__law_raised_last rfl (fun _ _ _ _ _ _ us hl => match us, hl with | [_, _, _], _ => rfl) (noKws (by decide +kernel))
theorem do__law_kinds (X : K.In h) (G0 : h.Ns mainGlobals mg) (c : He.SaysD faL fnL K) : DefOk K mg G Pm 5 "_law_kinds" ["e"] := by
  obtain ⟨fd, F⟩ := c.def_ 5 (d := dd__law_kinds) rfl
  refine defOk (He.glo_ok X G0 (c.fact 5 (f := .glo "_law_kinds") rfl)) F sc__law_kinds cc__law_kinds rfl (fun _ _ _ _ _ _ us hl => match us, hl with | [_], _ => rfl) (noKws (by decide +kernel))
theorem do__law_given (X : K.In h) (G0 : h.Ns mainGlobals mg) (c : He.SaysD faL fnL K) : DefOk K mg G Pm 6 "_law_given" ["pot"] := by
  obtain ⟨fd, F⟩ := c.def_ 6 (d := dd__law_given) rfl
  refine defOk (He.glo_ok X G0 (c.fact 6 (f := .glo "_law_given") rfl)) F sc__law_given cc__law_given rfl (fun _ _ _ _ _ _ us hl => match us, hl with | [_], _ => rfl) (noKws (by decide +kernel))
theorem do__law_caught (X : K.In h) (G0 : h.Ns mainGlobals mg) (c : He.SaysD faL fnL K) : DefOk K mg G Pm 7 "_law_caught" ["which", "given", "named"] := by
  obtain ⟨fd, F⟩ := c.def_ 7 (d := dd__law_caught) rfl
  refine defOk (He.glo_ok X G0 (c.fact 7 (f := .glo "_law_caught") rfl)) F sc__law_caught cc__law_caught rfl (fun _ _ _ _ _ _ us hl => match us, hl with | [_, _, _], _ => rfl) (noKws (by decide +kernel))
theorem do__law_right (X : K.In h) (G0 : h.Ns mainGlobals mg) (c : He.SaysD faL fnL K) : DefOk K mg G Pm 8 "_law_right" ["caught", "which", "given"] := by
  obtain ⟨fd, F⟩ := c.def_ 8 (d := dd__law_right) rfl
  refine defOk (He.glo_ok X G0 (c.fact 8 (f := .glo "_law_right") rfl)) F sc__law_right cc__law_right rfl (fun _ _ _ _ _ _ us hl => match us, hl with | [_, _, _], _ => rfl) (noKws (by decide +kernel))
theorem do_law (X : K.In h) (G0 : h.Ns mainGlobals mg) (c : He.SaysD faL fnL K) : DefOk K mg G Pm 9 "law" ["script"] := by
  obtain ⟨fd, F⟩ := c.def_ 9 (d := dd_law) rfl
  refine defOk (He.glo_ok X G0 (c.fact 9 (f := .glo "law") rfl)) F sc_law cc_law rfl (fun _ _ _ _ _ _ us hl => match us, hl with | [_], _ => rfl) (noKws (by decide +kernel))
theorem hgl (X : K.In h) (G0 : h.Ns mainGlobals mg) (c : He.SaysD faL fnL K) : ∀ name ∈ Gcls, mg name = some (.ref (He.ga K name)) ∧ (name == ("__debug__" : Str)) = false := by
  intro name hn
  simp only [Gcls, List.mem_cons, List.not_mem_nil, or_false] at hn
  rcases hn with rfl | rfl | rfl | rfl | rfl | rfl | rfl | rfl | rfl | rfl | rfl | rfl | rfl | rfl | rfl | rfl | rfl | rfl | rfl | rfl | rfl | rfl | rfl
  · exact ⟨He.glo_ok X G0 (c.fact 27 (f := .glo "ShiftsError") rfl), by decide⟩
  · exact ⟨He.glo_ok X G0 (c.fact 28 (f := .glo "InvalidInteger") rfl), by decide⟩
  · exact ⟨He.glo_ok X G0 (c.fact 29 (f := .glo "InvalidWord") rfl), by decide⟩
  · exact ⟨He.glo_ok X G0 (c.fact 30 (f := .glo "InvalidConstraint") rfl), by decide⟩
  · exact ⟨He.glo_ok X G0 (c.fact 31 (f := .glo "InvalidMatrix") rfl), by decide⟩
  · exact ⟨He.glo_ok X G0 (c.fact 32 (f := .glo "InvalidRows") rfl), by decide⟩
  · exact ⟨He.glo_ok X G0 (c.fact 33 (f := .glo "InvalidPresentation") rfl), by decide⟩
  · exact ⟨He.glo_ok X G0 (c.fact 34 (f := .glo "InvalidLetters") rfl), by decide⟩
  · exact ⟨He.glo_ok X G0 (c.fact 35 (f := .glo "InvalidEncoder") rfl), by decide⟩
  · exact ⟨He.glo_ok X G0 (c.fact 36 (f := .glo "InvalidRule") rfl), by decide⟩
  · exact ⟨He.glo_ok X G0 (c.fact 37 (f := .glo "InvalidGaps") rfl), by decide⟩
  · exact ⟨He.glo_ok X G0 (c.fact 38 (f := .glo "OtherGrowth") rfl), by decide⟩
  · exact ⟨He.glo_ok X G0 (c.fact 39 (f := .glo "UnlikeColumns") rfl), by decide⟩
  · exact ⟨He.glo_ok X G0 (c.fact 40 (f := .glo "NotIrreducible") rfl), by decide⟩
  · exact ⟨He.glo_ok X G0 (c.fact 41 (f := .glo "NotFiniteType") rfl), by decide⟩
  · exact ⟨He.glo_ok X G0 (c.fact 42 (f := .glo "NotMixing") rfl), by decide⟩
  · exact ⟨He.glo_ok X G0 (c.fact 43 (f := .glo "NotLess") rfl), by decide⟩
  · exact ⟨He.glo_ok X G0 (c.fact 44 (f := .glo "NotFiniteToOne") rfl), by decide⟩
  · exact ⟨He.glo_ok X G0 (c.fact 45 (f := .glo "InvalidName") rfl), by decide⟩
  · exact ⟨He.glo_ok X G0 (c.fact 46 (f := .glo "UnknownName") rfl), by decide⟩
  · exact ⟨He.glo_ok X G0 (c.fact 47 (f := .glo "NothingToUndo") rfl), by decide⟩
  · exact ⟨He.glo_ok X G0 (c.fact 48 (f := .glo "Unreadable") rfl), by decide⟩
  · exact ⟨He.glo_ok X G0 (c.fact 49 (f := .glo "InvalidCommand") rfl), by decide⟩
abbrev caL (K : PySem.W.Frag) (c : Nat) : Addr := He.ga K (Gcls.getD c Str.empty)
theorem textOk {base : Heap} (X : K.In h) (G0 : h.Ns mainGlobals mg) (c : He.SaysD faL fnL K) (hx : exL K = true) : TextOk PR w K mg base (caL K) G Pm where

  bn := fun x hx => by
    have z : (He.Fa.free x) ∈ faL := by
      simp only [bnames, List.mem_cons, List.not_mem_nil, or_false] at hx
      rcases hx with rfl | rfl | rfl | rfl | rfl | rfl | rfl | rfl | rfl | rfl | rfl | rfl | rfl | rfl | rfl | rfl | rfl <;> simp [faL]
    obtain ⟨i, hi⟩ := List.mem_iff_getElem?.mp z
    exact He.free_ok X G0 (c.fact i hi)
  cst := fun x d hx => by
    simp [G, Gcsts] at hx
  defs := fun f name ps hf => by
    match f, hf with
    | 0, hf => cases hf; exact do__law_take X G0 c
    | 1, hf => cases hf; exact do__law_same X G0 c
    | 2, hf => cases hf; exact do__law_raised X G0 c
    | 3, hf => cases hf; exact do__law_raised_next X G0 c
    | 4, hf => cases hf; exact do__law_raised_last X G0 c
    | 5, hf => cases hf; exact do__law_kinds X G0 c
    | 6, hf => cases hf; exact do__law_given X G0 c
    | 7, hf => cases hf; exact do__law_caught X G0 c
    | 8, hf => cases hf; exact do__law_right X G0 c
    | 9, hf => cases hf; exact do_law X G0 c
    | (q + 10), hf => cases hf
  kid := fun x hits hk => by
    have z : (x = ("ShiftsError" : Str) ∧ hits = [0, 1, 2, 3, 4, 5, 6, 7, 8, 9, 10, 11, 12, 13, 14, 15, 16, 17, 18, 19, 20, 21, 22]) := by
      simp only [G, Gkids, List.lookup] at hk
      repeat' split at hk
      all_goals simp_all
    rcases z with ⟨rfl, rfl⟩
    · refine ⟨He.ga K "ShiftsError", He.glo_ok X G0 (c.fact 27 (f := .glo "ShiftsError") rfl), fun k hk => ?_⟩
      match k, hk with
      | 0, _ => exact He.exm_ok (x := "ShiftsError") (y := "ShiftsError") (b := true) (c.fact 51 (f := .exm "ShiftsError" "ShiftsError" true) rfl)
      | 1, _ => exact He.exm_ok (x := "InvalidInteger") (y := "ShiftsError") (b := true) (c.fact 52 (f := .exm "InvalidInteger" "ShiftsError" true) rfl)
      | 2, _ => exact He.exm_ok (x := "InvalidWord") (y := "ShiftsError") (b := true) (c.fact 53 (f := .exm "InvalidWord" "ShiftsError" true) rfl)
      | 3, _ => exact He.exm_ok (x := "InvalidConstraint") (y := "ShiftsError") (b := true) (c.fact 54 (f := .exm "InvalidConstraint" "ShiftsError" true) rfl)
      | 4, _ => exact He.exm_ok (x := "InvalidMatrix") (y := "ShiftsError") (b := true) (c.fact 55 (f := .exm "InvalidMatrix" "ShiftsError" true) rfl)
      | 5, _ => exact He.exm_ok (x := "InvalidRows") (y := "ShiftsError") (b := true) (c.fact 56 (f := .exm "InvalidRows" "ShiftsError" true) rfl)
      | 6, _ => exact He.exm_ok (x := "InvalidPresentation") (y := "ShiftsError") (b := true) (c.fact 57 (f := .exm "InvalidPresentation" "ShiftsError" true) rfl)
      | 7, _ => exact He.exm_ok (x := "InvalidLetters") (y := "ShiftsError") (b := true) (c.fact 58 (f := .exm "InvalidLetters" "ShiftsError" true) rfl)
      | 8, _ => exact He.exm_ok (x := "InvalidEncoder") (y := "ShiftsError") (b := true) (c.fact 59 (f := .exm "InvalidEncoder" "ShiftsError" true) rfl)
      | 9, _ => exact He.exm_ok (x := "InvalidRule") (y := "ShiftsError") (b := true) (c.fact 60 (f := .exm "InvalidRule" "ShiftsError" true) rfl)
      | 10, _ => exact He.exm_ok (x := "InvalidGaps") (y := "ShiftsError") (b := true) (c.fact 61 (f := .exm "InvalidGaps" "ShiftsError" true) rfl)
      | 11, _ => exact He.exm_ok (x := "OtherGrowth") (y := "ShiftsError") (b := true) (c.fact 62 (f := .exm "OtherGrowth" "ShiftsError" true) rfl)
      | 12, _ => exact He.exm_ok (x := "UnlikeColumns") (y := "ShiftsError") (b := true) (c.fact 63 (f := .exm "UnlikeColumns" "ShiftsError" true) rfl)
      | 13, _ => exact He.exm_ok (x := "NotIrreducible") (y := "ShiftsError") (b := true) (c.fact 64 (f := .exm "NotIrreducible" "ShiftsError" true) rfl)
      | 14, _ => exact He.exm_ok (x := "NotFiniteType") (y := "ShiftsError") (b := true) (c.fact 65 (f := .exm "NotFiniteType" "ShiftsError" true) rfl)
      | 15, _ => exact He.exm_ok (x := "NotMixing") (y := "ShiftsError") (b := true) (c.fact 66 (f := .exm "NotMixing" "ShiftsError" true) rfl)
      | 16, _ => exact He.exm_ok (x := "NotLess") (y := "ShiftsError") (b := true) (c.fact 67 (f := .exm "NotLess" "ShiftsError" true) rfl)
      | 17, _ => exact He.exm_ok (x := "NotFiniteToOne") (y := "ShiftsError") (b := true) (c.fact 68 (f := .exm "NotFiniteToOne" "ShiftsError" true) rfl)
      | 18, _ => exact He.exm_ok (x := "InvalidName") (y := "ShiftsError") (b := true) (c.fact 69 (f := .exm "InvalidName" "ShiftsError" true) rfl)
      | 19, _ => exact He.exm_ok (x := "UnknownName") (y := "ShiftsError") (b := true) (c.fact 70 (f := .exm "UnknownName" "ShiftsError" true) rfl)
      | 20, _ => exact He.exm_ok (x := "NothingToUndo") (y := "ShiftsError") (b := true) (c.fact 71 (f := .exm "NothingToUndo" "ShiftsError" true) rfl)
      | 21, _ => exact He.exm_ok (x := "Unreadable") (y := "ShiftsError") (b := true) (c.fact 72 (f := .exm "Unreadable" "ShiftsError" true) rfl)
      | 22, _ => exact He.exm_ok (x := "InvalidCommand") (y := "ShiftsError") (b := true) (c.fact 73 (f := .exm "InvalidCommand" "ShiftsError" true) rfl)
      | (q + 23), hk => exact absurd (show q + 23 < 23 from hk) (by omega)
  xcl := fun c' name hc => by
    have hc : Gcls[c']? = some name := hc
    exact ⟨by show He.ga K (Gcls.getD c' Str.empty) = _; rw [List.getD_eq_getElem?_getD, hc]; rfl, (MP.excB_ok (List.all_eq_true.mp (He.ba hx).1 name (List.mem_of_getElem? hc))).rd⟩
  isx := MP.isx_of (He.ba hx).2 (He.free_ok X G0 (c.fact 50 (f := .free "ValueError") rfl)) (hgl X G0 c) (by decide +kernel)
  exk := fun c' name hc => by
    have hc : Gcls[c']? = some name := hc
    have hmem := List.mem_of_getElem? hc
    have E := MP.excB_ok (List.all_eq_true.mp (He.ba hx).1 name hmem)
    have hca : caL K c' = He.ga K name := by show He.ga K (Gcls.getD c' Str.empty) = _; rw [List.getD_eq_getElem?_getD, hc]; rfl
    obtain ⟨fd, F⟩ := c.def_ 10 (d := dd_init) rfl
    have bn := MP.binds_kw F fun _ _ _ _ _ _ _ _ => rfl
    obtain ⟨h1, h2⟩ := hgl X G0 c name hmem
    rw [hca]
    exact MP.exc_mkK E F sc_init (He.free_ok X G0 (c.fact 50 (f := .free "ValueError") rfl)) (by decide +kernel) (by decide +kernel) rfl bn h1 h2
  exc := fun c' name hc => by
    have hc : Gcls[c']? = some name := hc
    have hmem := List.mem_of_getElem? hc
    have E := MP.excB_ok (List.all_eq_true.mp (He.ba hx).1 name hmem)
    have hca : caL K c' = He.ga K name := by show He.ga K (Gcls.getD c' Str.empty) = _; rw [List.getD_eq_getElem?_getD, hc]; rfl
    obtain ⟨fd, F⟩ := c.def_ 10 (d := dd_init) rfl
    have bn : L2.Binds K fd ["self", "value"] [] := F.bindsN fun _ _ _ _ _ _ us hl => match us, hl with | [_, _], _ => rfl
    obtain ⟨h1, h2⟩ := hgl X G0 c name hmem
    rw [hca]
    exact MP.exc_mk E F sc_init (He.free_ok X G0 (c.fact 50 (f := .free "ValueError") rfl)) (by decide +kernel) (by decide +kernel) rfl bn h1 h2
theorem lawG {base : Heap} {d : Nat} {fd : FuncData} (X : K.In h) (G0 : h.Ns mainGlobals mg) (c : He.SaysD faL fnL K) (hx : exL K = true) (F : FunD K "law" "law" (defArgs (top 34)) (defBody (top 34)) (defScope (top 34)) [] [] (He.fAd K ("law", none)) fd) :
    FnG PR w K mg base (L2.CX PR w) (d + 3) (He.fAd K ("law", none)) fd ["script"] (spF K (caL K) (evF Pm 1000 (d + 1)) 9 1) :=
  fn_succ (go_all (textOk X G0 c hx) d) F sc_law cc_law rfl
end
end K00
open PySem PySem.W PySem.Calls PyProof.Rows
theorem PySem.Challenge.cw_wholeshifts_k00_errors_holds : PySem.Challenge.rw_wholeshifts_k00_errors.Holds := by
  w_on; o_law
  refine HandSHeadRun.head_any (r := OpenLaw.row PySem.Challenge.rw_wholeshifts_k00_errors) (q := view (OpenLaw.row PySem.Challenge.rw_wholeshifts_k00_errors).prog [34]) (H := K00.hkL) (ob := K00.obL) (M := 16000) (loose := ["_law_take", "_law_same", "_law_raised", "_law_raised_next", "_law_raised_last", "_law_kinds", "_law_given", "_law_caught", "_law_right", "ShiftsError", "InvalidInteger", "InvalidWord", "InvalidConstraint", "InvalidMatrix", "InvalidRows", "InvalidPresentation", "InvalidLetters", "InvalidEncoder", "InvalidRule", "InvalidGaps", "OtherGrowth", "UnlikeColumns", "NotIrreducible", "NotFiniteType", "NotMixing", "NotLess", "NotFiniteToOne", "InvalidName", "UnknownName", "NothingToUndo", "Unreadable", "InvalidCommand"]) (d := HandSHeadRun.topDef (OpenLaw.row PySem.Challenge.rw_wholeshifts_k00_errors).prog 34) (kwd := []) K00.obL_eq
    (by kernel_rfl) (fun s => by kernel_rfl) K00.runL (by kernel_rfl) (by kernel_rfl) (by kernel_rfl) (by rfl) (by first | assumption | decide +kernel) (by decide +kernel) ⟨rfl, rfl, rfl, rfl, rfl, by decide +kernel⟩ ?hw ?hc
  case hw => w_witness2
  case hc =>
    refine MP.walkG (l := PySem.Challenge.rw_wholeshifts_k00_errors) (n := 63) (k := 10) (f := 9) (x := "script") (cl := MP.evF K00.Pm 1000 8) rfl (by decide) (by kernel_rfl) ⟨rfl, by decide, by decide⟩ ?F (fun ns hn => K00.lawEv ns hn)
    intro w mg fa h Y G0 hmg0
    obtain ⟨K, KX, c, hx⟩ := Y
    have hmg : mg ("law" : PySem.Str) = some (.ref fa) := by
      have e : (HandSHeadRun.topDef (OpenLaw.row PySem.Challenge.rw_wholeshifts_k00_errors).prog 34).name = ("law" : PySem.Str) := by kernel_rfl
      rw [← e]
      exact hmg0
    obtain ⟨fd, F⟩ := c.def_ 9 (d := K00.dd_law) rfl
    have e := hmg.symm.trans (He.glo_ok KX G0 (c.fact 9 (f := .glo "law") rfl))
    cases e
    have b := L2.FunD.bindsA (ps := ["script"]) F fun _ _ _ _ _ _ us hl => match us, hl with | [_], _ => rfl
    exact ⟨K, fd, K00.caL K, KX, fun s v => b s [v] rfl, fun base Kb Gb => K00.lawG (d := 7) Kb Gb c hx F⟩

