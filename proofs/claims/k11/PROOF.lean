import PyProof.Rows.All
import Wide.All
import OpenK.AllK
import Wide.FinOn
import HandS.ForMost
import HandS.Deep
import HandS.TupAny
import HandS.Flow
import HandS.Conv
import HandS.Zip
import HandS.IsInst
import HandS.Style
import HandS.NoneIn
import HandS.SortInts
import HandS.Exc
import HandS.WordsExc
import PyProof.Rows.ListMulArg
import PyProof.Rows.SeqMore
import HandS.CallLocal
import HandS.Defaults
import HandS.HeadEnd
import HandS.More
import KE.KUnpackStar
import HandS.ExcValue
import HandS.SetFor
import HandS.Strs
import HandS.SetBool
import HandS.DictComp
import HandS.Dict
import PyProof.ReprRoads
import HandS.Head0
import HandS.Head1
import HandS.Head2
import HandS.HeadHook1
import HandS.HeadHook2
import HandS.HeadHook3
import HandS.HeadHook4
import PySem.Challenge.RW_reasonedboxes_k11_what_fillings_grant
set_option Elab.async false
set_option linter.all false
set_option maxRecDepth 100000
/-! TP1: a small language of trees: what a def of the program computes, by values alone. -/
namespace TP
open PySem

abbrev D := PyData

/-- a slot: p: a value that nobody changes; o: a list or dict that this slot alone holds -/
inductive Sl where
  | p (d : D)
  | o (d : D)
  | f (k : Nat)

abbrev Ev := List (Option Sl)

inductive Out where
  | ok (d : D) (fr : Bool) (r : Ev)
  | exc (c : Nat) (fs : List D) (r : Ev)
  | stuck

inductive Fl where
  | nx (r : Ev)
  | ret (d : D) (fr : Bool) (r : Ev)
  | brk (r : Ev)
  | cnt (r : Ev)
  | exc (c : Nat) (fs : List D) (r : Ev)
  | stuck

/-- what a call gives: the answer, whether it is new, what the first argument is then (where the def may change it) -/
inductive Rs where
  | ok (d : D) (fr : Bool) (io : Option D)
  | exc (c : Nat) (fs : List D) (io : Option D)
  | stuck

inductive BO where
  | add | sub | mul | fdiv | mod | pow
  deriving DecidableEq

inductive CO where
  | eq | ne | lt | le | gt | ge | isin | notin | is | isnot
  deriving DecidableEq

/-- what a built-in does with its arguments -/
inductive BI where
  | len | max | min | sum | all | any | list | tuple | sorted | int | repr | abs
  deriving DecidableEq

/-- built-in classes that are asked after -/
inductive TY where
  | bool | int | str | list | tuple | dict
  deriving DecidableEq

/-- targets of assignments -/
inductive CT where
  | nm (i : Nat)
  | nil
  | cons (t r : CT)

inductive CE where
  | var (i : Nat)
  | cst (d : D)
  | glo (x : Str) (d : D)
  | bin (o : BO) (a b : CE)
  | neg (a : CE)
  | not (a : CE)
  | and (a b : CE)
  | or (a b : CE)
  | cmp (o : CO) (a b : CE)
  | chain (o o' : CO) (a b c : CE)
  | ite (t a b : CE)
  | tup (es : CE)
  | lst (es : CE)
  | nil
  | cons (e es : CE)
  | idx (a i : CE)
  | sli (a lo hi : CE)
  | none
  | rev (a : CE)
  | bi (f : BI) (es : CE)
  | isi (T : TY) (a : CE)
  | call (f : Nat) (es : CE)
  | callM (f i : Nat) (es : CE)
  | callV (i : Nat) (es : CE)
  | lenO (i : Nat)
  | popO (i : Nat) (e : CE)
  | lc (elt : CE) (tg : CT) (it ifs : CE) (vs : List Nat)
  | seq (e : CE)
  | rng (a b : CE)
  | enum (e : CE)
  | zip (a b : CE)
  | lrng (a b : CE)
  | sset (e : CE)
  | lset (e : CE)
  | sdc (elt : CE) (tg : CT) (it : CE) (vs : List Nat)
  | lsc (elt : CE) (tg : CT) (it : CE) (vs : List Nat)
  | dget (ks : List Str) (vs k e : CE)

def line : Nat := 16777216

mutual
/-- nothing that can be changed stands in it -/
def flat : D → Bool
  | .tuple ds => flats ds
  | .list _ => false
  | .dict _ => false
  | .none => true
  | .bool _ => true
  | .int _ => true
  | .str _ => true
def flats : List D → Bool
  | [] => true
  | d :: ds => flat d && flats ds
end
def flatKs : List (D × D) → Bool
  | [] => true
  | kv :: r => flat kv.2 && flatKs r
def flatF (d : D) (fr : Bool) : Bool :=
  if fr then (match d with
    | .list ds => flats ds
    | .dict kvs => flatKs kvs
    | _ => false)
  else flat d
/-- what the slots hold is flat -/
def ownFlat (r : List (Option Sl)) : Bool := r.all fun s => match s with
  | some (.o d) => flatF d true
  | _ => true

def truth : D → Option Bool
  | .none => some false
  | .bool b => some b
  | .int i => some (i != 0)
  | .str s => if s.length ≤ line then some (s.length != 0) else none
  | .list l => some (!l.isEmpty)
  | .tuple l => some (!l.isEmpty)
  | .dict _ => none

/-! ### values -/
def pw64 : Int := 18446744073709551616
def smallI (i : Int) : Bool := decide (-pw64 < i) && decide (i < pw64)
def dBin : BO → D → D → Option (D × Bool)
  | .add, .int i, .int j => some (.int (i + j), false)
  | .add, .str s, .str t => if s.length + t.length ≤ line then some (.str (s ++ t), false) else none
  | .add, .list s, .list t => if s.length + t.length ≤ line then some (.list (s ++ t), true) else none
  | .add, .tuple s, .tuple t => if s.length + t.length ≤ line then some (.tuple (s ++ t), false) else none
  | .sub, .int i, .int j => some (.int (i - j), false)
  | .mul, .int i, .int j => if smallI i || smallI j then some (.int (i * j), false) else none
  | .mul, .list s, .int k => if decide (-9223372036854775808 ≤ k) && decide (k < 9223372036854775808) && decide (s.length * k.toNat ≤ line) then some (.list (List.replicate k.toNat s).flatten, true) else none
  | .fdiv, .int i, .int j => if decide (j ≠ 0) && decide (j.natAbs < 1073741824) then some (.int (i.fdiv j), false) else none
  | .mod, .int i, .int j => if j ≠ 0 then some (.int (i.fmod j), false) else none
  | .pow, .int i, .int j => if decide (0 ≤ j) && decide (j ≤ 1000000) && decide (i.natAbs < 18446744073709551616) then some (.int (i ^ j.toNat), false) else none
  | _, _, _ => none

def shapedD (d : D) : Bool := SeqAt.shaped d
def dCmp : CO → D → D → Option Bool
  | .eq, x, y => if shapedD x && shapedD y then some (PyData.eqv x y) else none
  | .ne, x, y => if shapedD x && shapedD y then some (!PyData.eqv x y) else none
  | .lt, .int i, .int j => some (decide (i < j))
  | .le, .int i, .int j => some (decide (i ≤ j))
  | .gt, .int i, .int j => some (decide (j < i))
  | .ge, .int i, .int j => some (decide (j ≤ i))
  | .isin, x, .list l => if shapedD x && shapedD (.list l) then some (l.any fun z => PyData.eqv z x) else none
  | .isin, x, .tuple l => if shapedD x && shapedD (.tuple l) then some (l.any fun z => PyData.eqv z x) else none
  | .notin, x, .list l => if shapedD x && shapedD (.list l) then some (!l.any fun z => PyData.eqv z x) else none
  | .notin, x, .tuple l => if shapedD x && shapedD (.tuple l) then some (!l.any fun z => PyData.eqv z x) else none
  | .is, x, .none => some (match x with | .none => true | _ => false)
  | .isnot, x, .none => some (match x with | .none => false | _ => true)
  | .is, .bool a, .bool b => some (decide (a = b))
  | .isnot, .bool a, .bool b => some (!decide (a = b))
  | _, _, _ => none

def dNeg : D → Option D
  | .int i => some (.int (-i))
  | _ => none

def dIdx : D → D → Option D
  | .list l, .int i => L2.atI l i
  | .tuple l, .int i => L2.atI l i
  | .str s, .int i => if s.length ≤ line then (L2.atI s.cps.toList i).map fun c => .str ⟨#[c]⟩ else none
  | _, _ => none
def dPart : D → Option (Option Int)
  | .none => some none
  | .int i => some (some i)
  | _ => none
def cutD {α : Type} (xs : List α) (lo hi : Option Int) : List α := (xs.drop (HT.sIx xs.length 0 lo)).take (HT.sIx xs.length xs.length hi - HT.sIx xs.length 0 lo)
def dSli (x : D) (lo hi : Option Int) : Option (D × Bool) :=
  match x with
  | .list l => some (.list (cutD l lo hi), true)
  | .tuple l => some (.tuple (cutD l lo hi), false)
  | _ => none
def dRev : D → Option (D × Bool)
  | .list l => some (.list l.reverse, true)
  | _ => none

def intsOf : List D → Option (List Int)
  | [] => some []
  | .int i :: r => (intsOf r).map (i :: ·)
  | _ => none
def boolsOf : List D → Option (List Bool)
  | [] => some []
  | .bool i :: r => (boolsOf r).map (i :: ·)
  | _ => none
def maxL : Int → List Int → Int
  | a, [] => a
  | a, b :: r => maxL (if a < b then b else a) r
def minL : Int → List Int → Int
  | a, [] => a
  | a, b :: r => minL (if b < a then b else a) r
/-- put in where it belongs, if it isn't there -/
def uins (x : Int) : List Int → List Int
  | [] => [x]
  | y :: r => if x < y then x :: y :: r else if x = y then y :: r else y :: uins x r
def usort : List Int → List Int
  | [] => []
  | x :: r => uins x (usort r)
def ins (x : Int) : List Int → List Int
  | [] => [x]
  | y :: r => if x ≤ y then x :: y :: r else y :: ins x r
def isort : List Int → List Int
  | [] => []
  | x :: r => ins x (isort r)

def isiD : TY → D → Bool
  | .bool, .bool _ => true
  | .int, .bool _ => true
  | .int, .int _ => true
  | .str, .str _ => true
  | .list, .list _ => true
  | .tuple, .tuple _ => true
  | .dict, .dict _ => true
  | _, _ => false

def dLen : List D → Option (D × Bool)
  | [.list l] => some (.int l.length, false)
  | [.tuple l] => some (.int l.length, false)
  | [.str s] => if s.length ≤ line then some (.int s.length, false) else none
  | _ => none
def dMax : List D → Option (D × Bool)
  | [.int a, .int b] => some (.int (if b > a then b else a), false)
  | [.list l] => (intsOf l).bind fun ns => match ns with | [] => none | a :: r => some (.int (maxL a r), false)
  | _ => none
def dMin : List D → Option (D × Bool)
  | [.int a, .int b] => some (.int (if b < a then b else a), false)
  | [.list l] => (intsOf l).bind fun ns => match ns with | [] => none | a :: r => some (.int (minL a r), false)
  | _ => none
def dSum : List D → Option (D × Bool)
  | [.list l] => (intsOf l).map fun ns => (.int ns.sum, false)
  | _ => none
def dAll : List D → Option (D × Bool)
  | [.list l] => (boolsOf l).map fun bs => (.bool (bs.all id), false)
  | _ => none
def dAny : List D → Option (D × Bool)
  | [.list l] => (boolsOf l).map fun bs => (.bool (bs.any id), false)
  | _ => none
def dList : List D → Option (D × Bool)
  | [.list l] => some (.list l, true)
  | [.tuple l] => some (.list l, true)
  | _ => none
def dTuple : List D → Option (D × Bool)
  | [.list l] => some (.tuple l, false)
  | [.tuple l] => some (.tuple l, false)
  | _ => none
def dSorted : List D → Option (D × Bool)
  | [.list l] => (intsOf l).map fun ns => (.list ((isort ns).map .int), true)
  | _ => none
def dInt : List D → Option (D × Bool)
  | [.int i] => some (.int i, false)
  | [.bool b] => some (.int (if b then 1 else 0), false)
  | _ => none
def dAbs : List D → Option (D × Bool)
  | [.int i] => some (.int (if i < 0 then -i else i), false)
  | _ => none
/-- repr: no dict within, not too long -/
def dRepr : List D → Option (D × Bool)
  | [d] => if shapedD d && d.showable && decide (d.shown.length ≤ line) then some (.str d.shown, false) else none
  | _ => none
def dBi : BI → List D → Option (D × Bool)
  | .len => dLen
  | .max => dMax
  | .min => dMin
  | .sum => dSum
  | .all => dAll
  | .any => dAny
  | .list => dList
  | .tuple => dTuple
  | .sorted => dSorted
  | .int => dInt
  | .abs => dAbs
  | .repr => dRepr

def rangeD (a b : Int) : List D := (List.range (b - a).toNat).map fun i => .int (a + (i : Nat))
def enumD : Nat → List D → List D
  | _, [] => []
  | i, d :: r => .tuple [.int i, d] :: enumD (i + 1) r
def zipD : List D → List D → List D
  | a :: r, b :: t => .tuple [a, b] :: zipD r t
  | _, _ => []
def seqD : D → Option (List D)
  | .list l => some l
  | .tuple l => some l
  | _ => none

/-! ### slots -/
def getP (r : Ev) (i : Nat) : Option D :=
  match r[i]? with
  | some (some (.p d)) => some d
  | _ => none
def getO (r : Ev) (i : Nat) : Option D :=
  match r[i]? with
  | some (some (.o d)) => some d
  | _ => none
def putP (r : Ev) (i : Nat) (d : D) : Ev := r.set i (some (.p d))
def putO (r : Ev) (i : Nat) (d : D) : Ev := r.set i (some (.o d))
def wipeE (r : Ev) : List Nat → Ev
  | [] => r
  | v :: vs => (wipeE r vs).set v none
/-- the slots vs as they stand in r0 -/
def backE (r0 r : Ev) : List Nat → Ev
  | [] => r
  | v :: vs => (backE r0 r vs).set v (r0[v]?.getD none)
def lend (r : Ev) : List Nat → Ev
  | [] => r
  | v :: vs => match getO r v with
    | some d => lend (putP r v d) vs
    | none => lend r vs
def unlend (r0 r : Ev) : List Nat → Ev
  | [] => r
  | v :: vs => match getO r0 v with
    | some d => unlend r0 (putO r v d) vs
    | none => unlend r0 r vs
def bindT : CT → D → Ev → Option Ev
  | .nm i, d, r => if i < r.length then some (putP r i d) else none
  | .nil, .tuple [], r => some r
  | .cons t ts, .tuple (d :: ds), r => (bindT t d r).bind fun r1 => bindT ts (.tuple ds) r1
  | _, _, _ => none

def Out.bind (x : Out) (k : D → Ev → Out) : Out :=
  match x with
  | .ok d _ r => k d r
  | .exc c fs r => .exc c fs r
  | .stuck => .stuck
def okO (x : Option (D × Bool)) (r : Ev) : Out :=
  match x with
  | some (d, f) => .ok d f r
  | none => .stuck
def okD (x : Option D) (r : Ev) : Out :=
  match x with
  | some d => .ok d false r
  | none => .stuck
def okB (x : Option Bool) (r : Ev) : Out :=
  match x with
  | some b => .ok (.bool b) false r
  | none => .stuck

/-- a comprehension's turns: step gives a tuple of what comes in -/
def lcLoop (step : D → Ev → Out) (vs : List Nat) : List D → Ev → Out
  | [], r => .ok (.list []) true r
  | x :: xs, r => (step x r).bind fun y r1 => (lcLoop step vs xs (wipeE r1 vs)).bind fun ys r2 =>
    match y, ys with
    | .tuple l, .list m => .ok (.list (l ++ m)) true r2
    | _, _ => .stuck

section
variable (Ph : Nat → List D → Rs)
def ev : CE → Ev → Out
  | .var i, r => okD (getP r i) r
  | .cst d, r => .ok d false r
  | .glo _ d, r => .ok d false r
  | .bin o a b, r => (ev a r).bind fun x r1 => (ev b r1).bind fun y r2 => okO (dBin o x y) r2
  | .neg a, r => (ev a r).bind fun x r1 => okD (dNeg x) r1
  | .not a, r => (ev a r).bind fun x r1 => okB ((truth x).map (!·)) r1
  | .and a b, r => (ev a r).bind fun x r1 => match truth x with
    | some true => ev b r1
    | some false => .ok x false r1
    | none => .stuck
  | .or a b, r => (ev a r).bind fun x r1 => match truth x with
    | some false => ev b r1
    | some true => .ok x false r1
    | none => .stuck
  | .cmp o a b, r => (ev a r).bind fun x r1 => (ev b r1).bind fun y r2 => okB (dCmp o x y) r2
  | .chain o o' a b c, r => (ev a r).bind fun x r1 => (ev b r1).bind fun y r2 => match dCmp o x y with
    | some true => (ev c r2).bind fun z r3 => okB (dCmp o' y z) r3
    | some false => .ok (.bool false) false r2
    | none => .stuck
  | .ite t a b, r => (ev t r).bind fun x r1 => match truth x with
    | some true => ev a r1
    | some false => ev b r1
    | none => .stuck
  | .nil, r => .ok (.tuple []) false r
  | .cons e es, r => (ev e r).bind fun x r1 => (ev es r1).bind fun y r2 => match y with
    | .tuple l => .ok (.tuple (x :: l)) false r2
    | _ => .stuck
  | .tup es, r => (ev es r).bind fun x r1 => match x with
    | .tuple l => if l.length ≤ line then .ok (.tuple l) false r1 else .stuck
    | _ => .stuck
  | .lst es, r => (ev es r).bind fun x r1 => match x with
    | .tuple l => if l.length ≤ line then .ok (.list l) true r1 else .stuck
    | _ => .stuck
  | .idx a i, r => (ev a r).bind fun x r1 => (ev i r1).bind fun y r2 => okD (dIdx x y) r2
  | .none, r => .ok .none false r
  | .sli a lo hi, r => (ev a r).bind fun x r1 => (ev lo r1).bind fun y r2 => (ev hi r2).bind fun z r3 =>
    match dPart y, dPart z with
    | some l, some h => okO (dSli x l h) r3
    | _, _ => .stuck
  | .rev a, r => (ev a r).bind fun x r1 => okO (dRev x) r1
  | .bi f es, r => (ev es r).bind fun x r1 => match x with
    | .tuple l => okO (dBi f l) r1
    | _ => .stuck
  | .isi T a, r => (ev a r).bind fun x r1 => .ok (.bool (isiD T x)) false r1
  | .call f es, r => (ev es r).bind fun x r1 => match x with
    | .tuple l => (match Ph f l with
      | .ok d fr none => .ok d fr r1
      | .exc c fs none => .exc c fs r1
      | _ => .stuck)
    | _ => .stuck
  | .callM f i es, r => match getO r i with
    | none => .stuck
    | some _ => (ev es r).bind fun x r1 => match x, getO r1 i with
      | .tuple l, some c => (match Ph f (c :: l) with
        | .ok d fr (some c') => .ok d fr (putO r1 i c')
        | .exc c fs (some c') => .exc c fs (putO r1 i c')
        | _ => .stuck)
      | _, _ => .stuck
  | .callV i es, r => match r[i]? with
    | some (some (.f f)) => (ev es r).bind fun x r1 => (match x with
      | .tuple l => (match Ph f l with
        | .ok d fr none => .ok d fr r1
        | .exc c fs none => .exc c fs r1
        | _ => .stuck)
      | _ => .stuck)
    | _ => .stuck
  | .dget ks vs k e, r => (ev vs r).bind fun x r1 => (ev k r1).bind fun y r2 => (ev e r2).bind fun z r3 => match x, y with
    | .tuple l, .str s => if l.length = ks.length then okD (some (((ks.zip l).lookup s).getD z)) r3 else .stuck
    | _, _ => .stuck
  | .lenO i, r => match getO r i with
    | some (.list l) => .ok (.int l.length) false r
    | _ => .stuck
  | .popO i e, r => match getO r i with
    | some (.list _) => (ev e r).bind fun x r1 => match x, getO r1 i with
      | .int k, some (.list l) => (match L2.ixN l.length k with
        | some j => (match l[j]? with
          | some d => if -9223372036854775808 ≤ k ∧ k < 9223372036854775808 then .ok d false (putO r1 i (.list (l.eraseIdx j))) else .stuck
          | none => .stuck)
        | none => .stuck)
      | _, _ => .stuck
    | _ => .stuck
  | .lc elt tg it ifs vs, r => (ev it r).bind fun x r1 => match x with
    | .list items => (match lcLoop (fun d r2 => match bindT tg d r2 with
        | some r3 => (ev ifs r3).bind fun t r4 => match truth t with
          | some true => (ev elt r4).bind fun y r5 => .ok (.tuple [y]) false r5
          | some false => .ok (.tuple []) false r4
          | none => .stuck
        | none => .stuck) vs items (wipeE r1 vs) with
      | .ok d fr r2 => .ok d fr (backE r1 r2 vs)
      | _ => .stuck)
    | _ => .stuck
  | .seq e, r => (ev e r).bind fun x r1 => match seqD x with
    | some l => .ok (.list l) false r1
    | none => .stuck
  | .rng a b, r => (ev a r).bind fun x r1 => (ev b r1).bind fun y r2 => match x, y with
    | .int i, .int j => if decide (-4611686018427387904 ≤ i) && decide (i < 4611686018427387904) && decide (-4611686018427387904 ≤ j) && decide (j < 4611686018427387904) && decide ((j - i).toNat ≤ line) then .ok (.list (rangeD i j)) false r2 else .stuck
    | _, _ => .stuck
  | .enum e, r => (ev e r).bind fun x r1 => match x with
    | .list l => .ok (.list (enumD 0 l)) false r1
    | _ => .stuck
  | .zip a b, r => (ev a r).bind fun x r1 => (ev b r1).bind fun y r2 => match x, y with
    | .list l, .list m => .ok (.list (zipD l m)) false r2
    | .tuple l, .tuple m => .ok (.list (zipD l m)) false r2
    | _, _ => .stuck
  | .lrng a b, r => (ev a r).bind fun x r1 => (ev b r1).bind fun y r2 => match x, y with
    | .int i, .int j => if decide (-4611686018427387904 ≤ i) && decide (i < 4611686018427387904) && decide (-4611686018427387904 ≤ j) && decide (j < 4611686018427387904) && decide ((j - i).toNat ≤ line) then .ok (.list (rangeD i j)) true r2 else .stuck
    | _, _ => .stuck
  | .sset e, r => (ev e r).bind fun x r1 => match seqD x with
    | some l => (match intsOf l with
      | some ns => if (usort ns).length < 64 ∧ ns.length ≤ 4000 then .ok (.list ((usort ns).map .int)) true r1 else .stuck
      | none => .stuck)
    | none => .stuck
  | .lset e, r => (ev e r).bind fun x r1 => match seqD x with
    | some l => (match intsOf l with
      | some ns => if ns.length ≤ 4000 then .ok (.int (usort ns).length) false r1 else .stuck
      | none => .stuck)
    | none => .stuck
  | .sdc elt tg it vs, r => (ev it r).bind fun x r1 => match x with
    | .list items => (match lcLoop (fun d r2 => match bindT tg d r2 with
        | some r3 => (ev elt r3).bind fun y r5 => .ok (.tuple [y]) false r5
        | none => .stuck) vs items (wipeE r1 vs) with
      | .ok (.list l) _ r2 => (match intsOf l with
        | some ns => if (usort ns).length < 64 then .ok (.list ((usort ns).map .int)) true (backE r1 r2 vs) else .stuck
        | none => .stuck)
      | _ => .stuck)
    | _ => .stuck
  | .lsc elt tg it vs, r => (ev it r).bind fun x r1 => match x with
    | .list items => (match lcLoop (fun d r2 => match bindT tg d r2 with
        | some r3 => (ev elt r3).bind fun y r5 => .ok (.tuple [y]) false r5
        | none => .stuck) vs items (wipeE r1 vs) with
      | .ok (.list l) _ r2 => (match intsOf l with
        | some ns => if ns.length ≤ 4000 then .ok (.int (usort ns).length) false (backE r1 r2 vs) else .stuck
        | none => .stuck)
      | _ => .stuck)
    | _ => .stuck
end

/-- what changes a list or dict that a slot holds -/
inductive MU where
  | append | clear | reverse
  deriving DecidableEq
inductive CS where
  | skip
  | seq (a b : CS)
  | asg (i : Nat) (ld : List Nat) (e : CE)
  | unp (t : CT) (ld : List Nat) (e : CE)
  | star (t : CT) (n : Nat) (ld : List Nat) (e : CE)
  | par (i j : Nat) (ld : List Nat) (e e' : CE)
  | sto (i : Nat) (ld : List Nat) (k e : CE)
  | mut (m : MU) (i : Nat) (ld : List Nat) (e : CE)
  | exp (ld : List Nat) (e : CE)
  | ifs (ld : List Nat) (t : CE) (a b : CS)
  | for_ (t : CT) (ld : List Nat) (lb : Bool) (it : CE) (body : CS)
  | whil (n : Nat) (ld : List Nat) (t : CE) (body : CS)
  | ret (ld : List Nat) (e : CE)
  | retO (i : Nat)
  | brk
  | cnt
  | fsel (x : Str) (tab : List (Str × Nat)) (i : Nat) (ld : List Nat) (e : CE)
  | never

def forLoop (step : D → Ev → Fl) : List D → Ev → Fl
  | [], r => .nx r
  | x :: xs, r => match step x r with
    | .nx r1 => forLoop step xs r1
    | .cnt r1 => forLoop step xs r1
    | .brk r1 => .nx r1
    | f => f
def whileLoop (test : Ev → Out) (step : Ev → Fl) : Nat → Ev → Fl
  | 0, _ => .stuck
  | n + 1, r => match test r with
    | .ok d _ r1 => (match truth d with
      | some true => (match step r1 with
        | .nx r2 => whileLoop test step n r2
        | .cnt r2 => whileLoop test step n r2
        | .brk r2 => .nx r2
        | f => f)
      | some false => .nx r1
      | none => .stuck)
    | .exc c fs r1 => .exc c fs r1
    | .stuck => .stuck

/-- an expression with the slots ld lent to it -/
def evL (Ph : Nat → List D → Rs) (ld : List Nat) (e : CE) (r : Ev) : Out :=
  match ev Ph e (lend r ld) with
  | .ok d fr r1 => .ok d fr (if flatF d fr && ownFlat r1 then unlend r r1 ld else r1)
  | .exc c fs r1 => .exc c fs r1
  | .stuck => .stuck
def Out.flow (x : Out) (k : D → Bool → Ev → Fl) : Fl :=
  match x with
  | .ok d fr r => k d fr r
  | .exc c fs r => .exc c fs r
  | .stuck => .stuck
def putV (r : Ev) (i : Nat) (d : D) (fr : Bool) : Ev := if fr then putO r i d else putP r i d

section
variable (Ph : Nat → List D → Rs)
def evS : CS → Ev → Fl
  | .skip, r => .nx r
  | .seq a b, r => match evS a r with
    | .nx r1 => evS b r1
    | f => f
  | .asg i ld e, r => (evL Ph ld e r).flow fun d fr r1 => .nx (putV r1 i d fr)
  | .unp t ld e, r => (evL Ph ld e r).flow fun d _ r1 => match d with
    | .tuple l => (match bindT t (.tuple l) r1 with | some r2 => .nx r2 | none => .stuck)
    | .list l => (match bindT t (.tuple l) r1 with | some r2 => .nx r2 | none => .stuck)
    | _ => .stuck
  | .star t n ld e, r => (evL Ph ld e r).flow fun d _ r1 => match d with
    | .tuple l => if n ≤ l.length then (match bindT t (.tuple (l.take n ++ [.list (l.drop n)])) r1 with
        | some r2 => .nx r2
        | none => .stuck) else .stuck
    | _ => .stuck
  | .par i j ld e e', r => (evL Ph ld (.cons e (.cons e' .nil)) r).flow fun d _ r1 => match d with
    | .tuple [x, y] => .nx (putP (putP r1 i x) j y)
    | _ => .stuck
  | .sto i ld k e, r => (evL Ph ld e r).flow fun d _ r1 => match getO r1 i with
    | some (.list _) => (ev Ph k r1).flow fun kd _ r2 => match getO r2 i, kd with
      | some (.list l), .int n => (match L2.ixN l.length n with
        | some j => .nx (putO r2 i (.list (l.set j d)))
        | none => .stuck)
      | _, _ => .stuck
    | _ => .stuck
  | .mut m i ld e, r => match getO r i with
    | some (.list _) => (evL Ph ld e r).flow fun d _ r1 => match m, getO r1 i, d with
      | .append, some (.list l), .tuple [x] => if l.length < line then .nx (putO r1 i (.list (l ++ [x]))) else .stuck
      | .clear, some (.list _), .tuple [] => .nx (putO r1 i (.list []))
      | .reverse, some (.list l), .tuple [] => .nx (putO r1 i (.list l.reverse))
      | _, _, _ => .stuck
    | _ => .stuck
  | .exp ld e, r => (evL Ph ld e r).flow fun _ _ r1 => .nx r1
  | .ifs ld t a b, r => (evL Ph ld t r).flow fun d _ r1 => match truth d with
    | some true => evS a r1
    | some false => evS b r1
    | none => .stuck
  | .for_ t ld lb it body, r => match ev Ph it (lend r ld) with
    | .ok (.list items) _ r1 => forLoop (fun d r2 => match bindT t d r2 with
        | some r3 => evS body r3
        | none => .stuck) items (if lb then unlend r r1 ld else r1)
    | .exc c fs r1 => .exc c fs r1
    | _ => .stuck
  | .whil n ld t body, r => whileLoop (evL Ph ld t) (evS body) n r
  | .ret ld e, r => (evL Ph ld e r).flow fun d fr r1 => .ret d fr r1
  | .retO i, r => match getO r i with
    | some d => .ret d true (r.set i none)
    | none => .stuck
  | .brk, r => .brk r
  | .cnt, r => .cnt r
  | .fsel _ tab i ld e, r => (evL Ph ld e r).flow fun d _ r1 => match d with
    | .str s => (match tab.lookup s with
      | some f => .nx (r1.set i (some (.f f)))
      | none => .stuck)
    | _ => .stuck
  | .never, _ => .stuck
end

/-- a def: its parameters' number, its slots' number, whether it may change its first argument, its body -/
structure FD where
  nP : Nat
  nS : Nat
  io : Bool
  body : CS
def start (f : FD) (ds : List D) : Ev :=
  (match f.io, ds with
    | true, d :: r => some (.o d) :: r.map fun x => some (.p x)
    | _, l => l.map fun x => some (.p x)) ++ List.replicate (f.nS - f.nP) none
def doneR (io : Bool) (d : D) (fr : Bool) (r : Ev) : Rs :=
  if io then (match getO r 0 with | some c => .ok d fr (some c) | none => .stuck) else .ok d fr none
def runF (Ph : Nat → List D → Rs) (f : FD) (ds : List D) : Rs :=
  if ds.length = f.nP then (match evS Ph f.body (start f ds) with
    | .ret d fr r => doneR f.io d fr r
    | .nx r => doneR f.io .none false r
    | .exc c fs r => if f.io then (match getO r 0 with | some x => .exc c fs (some x) | none => .stuck) else .exc c fs none
    | _ => .stuck) else .stuck
def Phi (T : List FD) : Nat → Nat → List D → Rs
  | 0, _, _ => .stuck
  | n + 1, f, ds => match T[f]? with
    | some fd => runF (Phi T n) fd ds
    | none => .stuck

end TP

set_option Elab.async false
set_option linter.all false
set_option maxRecDepth 100000
/-! TP2: trees in the heap: what a value stands for; slots; how the heap grows. -/
namespace TP
open PySem PySem.Spec PyProof.Rows L2

/-- F within H -/
def Sub (F H : Hp) : Prop := ∀ a o, F a = some o → H a = some o
theorem Sub.refl (H : Hp) : Sub H H := fun _ _ h => h
theorem Sub.trans {F G H : Hp} (a : Sub F G) (b : Sub G H) : Sub F H := fun c o h => b c o (a c o h)
theorem sub_upd {H : Hp} {p : Addr} {o : HO} (h : H p = none) : Sub H (upd H p o) := fun b x e => by
  rw [upd_ne (ne_of_none e h)]
  exact e
theorem sub_upd2 {F H : Hp} {p : Addr} {o : HO} (s : Sub F H) : Sub (upd F p o) (upd H p o) := fun b x e => by
  by_cases h : b = p
  · subst h
    rw [upd_same] at e ⊢
    exact e
  · rw [upd_ne h] at e ⊢
    exact s b x e

def keyD : Key → D
  | .inl i => .int i
  | .inr s => .str s

section
variable (K : PySem.W.Frag) (F : Hp)
mutual
/-- v stands for the tree d, all of it within F -/
inductive Rep : V → D → Prop
  | non : Rep .non .none
  | bl (b : Bool) : Rep (.bl b) (.bool b)
  | int (i : Int) : Rep (.int i) (.int i)
  | str (s : Str) : Rep (.str s) (.str s)
  | lst {a : Addr} {xs : List V} {ds : List D} : SqL K F a xs → RepAll xs ds → Rep (.ref a) (.list ds)
  | tup {a : Addr} {xs : List V} {ds : List D} : SqT K F a xs → RepAll xs ds → Rep (.ref a) (.tuple ds)
  | dct {a : Addr} {kvs : List (Key × V)} {ds : List (D × D)} : F a = some (.dK kvs) → RepKs kvs ds → Rep (.ref a) (.dict ds)
  | dctT {a : Addr} {kvs : List (List Key × V)} {ds : List (D × D)} : F a = some (.dT kvs) → RepTs kvs ds → Rep (.ref a) (.dict ds)
inductive RepAll : List V → List D → Prop
  | nil : RepAll [] []
  | cons {v : V} {vs : List V} {d : D} {ds : List D} : Rep v d → RepAll vs ds → RepAll (v :: vs) (d :: ds)
inductive RepKs : List (Key × V) → List (D × D) → Prop
  | nil : RepKs [] []
  | cons {k : Key} {v : V} {kvs : List (Key × V)} {d : D} {ds : List (D × D)} : Rep v d → RepKs kvs ds → RepKs ((k, v) :: kvs) ((keyD k, d) :: ds)
inductive RepTs : List (List Key × V) → List (D × D) → Prop
  | nil : RepTs [] []
  | cons {k : List Key} {v : V} {kvs : List (List Key × V)} {d : D} {ds : List (D × D)} : Rep v d → RepTs kvs ds → RepTs ((k, v) :: kvs) ((.tuple (k.map keyD), d) :: ds)
end
end

section
variable {K : PySem.W.Frag} {F F' : Hp}
theorem SqL.sub (s : Sub F F') {a : Addr} {xs : List V} (h : SqL K F a xs) : SqL K F' a xs := by
  rcases h with (h | ⟨o, h⟩) | h
  · exact .inl (.inl (s _ _ h))
  · exact .inl (.inr ⟨o, s _ _ h⟩)
  · exact .inr h
theorem SqT.sub (s : Sub F F') {a : Addr} {xs : List V} (h : SqT K F a xs) : SqT K F' a xs := by
  rcases h with (h | ⟨o, h⟩) | h
  · exact .inl (.inl (s _ _ h))
  · exact .inl (.inr ⟨o, s _ _ h⟩)
  · exact .inr h
mutual
theorem Rep.mono (s : Sub F F') : ∀ {v : V} {d : D}, Rep K F v d → Rep K F' v d
  | _, _, .non => .non
  | _, _, .bl b => .bl b
  | _, _, .int i => .int i
  | _, _, .str i => .str i
  | _, _, .lst h t => .lst (SqL.sub s h) (RepAll.mono s t)
  | _, _, .tup h t => .tup (SqT.sub s h) (RepAll.mono s t)
  | _, _, .dct h t => .dct (s _ _ h) (RepKs.mono s t)
  | _, _, .dctT h t => .dctT (s _ _ h) (RepTs.mono s t)
theorem RepAll.mono (s : Sub F F') : ∀ {v : List V} {d : List D}, RepAll K F v d → RepAll K F' v d
  | _, _, .nil => .nil
  | _, _, .cons h t => .cons (Rep.mono s h) (RepAll.mono s t)
theorem RepKs.mono (s : Sub F F') : ∀ {v : List (Key × V)} {d : List (D × D)}, RepKs K F v d → RepKs K F' v d
  | _, _, .nil => .nil
  | _, _, .cons h t => .cons (Rep.mono s h) (RepKs.mono s t)
theorem RepTs.mono (s : Sub F F') : ∀ {v : List (List Key × V)} {d : List (D × D)}, RepTs K F v d → RepTs K F' v d
  | _, _, .nil => .nil
  | _, _, .cons h t => .cons (Rep.mono s h) (RepTs.mono s t)
end
mutual
/-- what the library's data rules read -/
theorem Rep.dp : ∀ {v : V} {d : D}, Rep K F v d → d.canLay0 = true → Dp K F v d
  | _, _, .non, _ => .non
  | _, _, .bl b, _ => .bl b
  | _, _, .int i, _ => .int i
  | _, _, .str i, _ => .str i
  | _, _, .lst h t, c => .lst h (RepAll.dp t (by rw [PyData.canLay0] at c; exact c))
  | _, _, .tup h t, c => .tup h (RepAll.dp t (by rw [PyData.canLay0] at c; exact c))
  | _, _, .dct h t, c => by rw [PyData.canLay0] at c; cases c
  | _, _, .dctT h t, c => by rw [PyData.canLay0] at c; cases c
theorem RepAll.dp : ∀ {v : List V} {d : List D}, RepAll K F v d → PyData.canLayAll0 d = true → DpAll K F v d
  | _, _, .nil, _ => .nil
  | _, _, .cons h t, c => by
    rw [PyData.canLayAll0, Bool.and_eq_true] at c
    exact .cons (Rep.dp h c.1) (RepAll.dp t c.2)
end
mutual
/-- a flat tree leans on no list: a fact of F but a is one of what is left -/
theorem Rep.flat {G : Hp} (hG : ∀ b xs, F b = some (.tup xs) → G b = some (.tup xs)) (hz : ∀ b o xs, F b = some (.frz o (.tup xs)) → G b = some (.frz o (.tup xs))) : ∀ {v : V} {d : D}, Rep K F v d → flat d = true → Rep K G v d
  | _, _, .non, _ => .non
  | _, _, .bl b, _ => .bl b
  | _, _, .int i, _ => .int i
  | _, _, .str i, _ => .str i
  | _, _, .lst h t, c => by simp [TP.flat] at c
  | _, _, .tup h t, c => by
    rw [TP.flat] at c
    refine .tup ?_ (RepAll.flat hG hz t c)
    rcases h with (h | ⟨o, h⟩) | h
    · exact .inl (.inl (hG _ _ h))
    · exact .inl (.inr ⟨o, hz _ _ _ h⟩)
    · exact .inr h
  | _, _, .dct h t, c => by simp [TP.flat] at c
  | _, _, .dctT h t, c => by simp [TP.flat] at c
theorem RepAll.flat {G : Hp} (hG : ∀ b xs, F b = some (.tup xs) → G b = some (.tup xs)) (hz : ∀ b o xs, F b = some (.frz o (.tup xs)) → G b = some (.frz o (.tup xs))) : ∀ {v : List V} {d : List D}, RepAll K F v d → flats d = true → RepAll K G v d
  | _, _, .nil, _ => .nil
  | _, _, .cons h t, c => by
    rw [TP.flats, Bool.and_eq_true] at c
    exact .cons (Rep.flat hG hz h c.1) (RepAll.flat hG hz t c.2)
end
theorem RepAll.length : ∀ {vs : List V} {ds : List D}, RepAll K F vs ds → vs.length = ds.length
  | _, _, .nil => rfl
  | _, _, .cons _ t => congrArg (· + 1) (RepAll.length t)
theorem RepAll.get : ∀ {vs : List V} {ds : List D} {i : Nat} {d : D}, RepAll K F vs ds → ds[i]? = some d → ∃ v, vs[i]? = some v ∧ Rep K F v d
  | _, _, _, _, .nil, h => by simp at h
  | _, _, 0, _, .cons h t, e => by simp at e; subst e; exact ⟨_, rfl, h⟩
  | _, _, i + 1, d, .cons h t, e => by
    obtain ⟨v, e1, r⟩ := RepAll.get (i := i) (d := d) t (by simpa using e)
    exact ⟨v, by simpa using e1, r⟩
theorem RepAll.append : ∀ {vs ws : List V} {ds es : List D}, RepAll K F vs ds → RepAll K F ws es → RepAll K F (vs ++ ws) (ds ++ es)
  | _, _, _, _, .nil, s => s
  | _, _, _, _, .cons h t, s => .cons h (RepAll.append t s)
theorem RepAll.take : ∀ {vs : List V} {ds : List D} (n : Nat), RepAll K F vs ds → RepAll K F (vs.take n) (ds.take n)
  | _, _, 0, _ => .nil
  | _, _, _ + 1, .nil => .nil
  | _, _, n + 1, .cons h t => .cons h (RepAll.take n t)
theorem RepAll.drop : ∀ {vs : List V} {ds : List D} (n : Nat), RepAll K F vs ds → RepAll K F (vs.drop n) (ds.drop n)
  | _, _, 0, h => h
  | _, _, _ + 1, .nil => .nil
  | _, _, n + 1, .cons _ t => RepAll.drop n t
theorem RepAll.reverse : ∀ {vs : List V} {ds : List D}, RepAll K F vs ds → RepAll K F vs.reverse ds.reverse
  | _, _, .nil => .nil
  | _, _, .cons h t => by
    rw [List.reverse_cons, List.reverse_cons]
    exact (RepAll.reverse t).append (.cons h .nil)
theorem RepAll.set : ∀ {vs : List V} {ds : List D} {v : V} {d : D} (i : Nat), RepAll K F vs ds → Rep K F v d → RepAll K F (vs.set i v) (ds.set i d)
  | _, _, _, _, _, .nil, _ => .nil
  | _, _, _, _, 0, .cons _ t, r => .cons r t
  | _, _, _, _, i + 1, .cons h t, r => .cons h (RepAll.set i t r)
theorem RepAll.erase : ∀ {vs : List V} {ds : List D} (i : Nat), RepAll K F vs ds → RepAll K F (vs.eraseIdx i) (ds.eraseIdx i)
  | _, _, _, .nil => .nil
  | _, _, 0, .cons _ t => t
  | _, _, i + 1, .cons h t => .cons h (RepAll.erase i t)
theorem RepAll.rep : ∀ {vs : List V} {ds : List D} (n : Nat), RepAll K F vs ds → RepAll K F (List.replicate n vs).flatten (List.replicate n ds).flatten
  | _, _, 0, _ => .nil
  | _, _, n + 1, h => by
    rw [List.replicate_succ, List.replicate_succ, List.flatten_cons, List.flatten_cons]
    exact h.append (RepAll.rep n h)
theorem Rep.int_inv {v : V} {i : Int} (h : Rep K F v (.int i)) : v = .int i := by cases h; rfl
theorem Rep.str_inv {v : V} {s : Str} (h : Rep K F v (.str s)) : v = .str s := by cases h; rfl
theorem Rep.bl_inv {v : V} {b : Bool} (h : Rep K F v (.bool b)) : v = .bl b := by cases h; rfl
theorem Rep.non_inv {v : V} (h : Rep K F v .none) : v = .non := by cases h; rfl
theorem Rep.lst_inv {v : V} {l : List D} (h : Rep K F v (.list l)) : ∃ a xs, v = .ref a ∧ SqL K F a xs ∧ RepAll K F xs l := by cases h; exact ⟨_, _, rfl, ‹_›, ‹_›⟩
theorem Rep.tup_inv {v : V} {l : List D} (h : Rep K F v (.tuple l)) : ∃ a xs, v = .ref a ∧ SqT K F a xs ∧ RepAll K F xs l := by cases h; exact ⟨_, _, rfl, ‹_›, ‹_›⟩
theorem RepAll.ints : ∀ {vs : List V} {ds : List D} {ns : List Int}, RepAll K F vs ds → intsOf ds = some ns → vs = ns.map V.int ∧ ds = ns.map .int
  | _, _, _, .nil, h => by cases h; exact ⟨rfl, rfl⟩
  | _, _, ns, .cons (d := d) (ds := ds) r t, h => by
    cases r with
    | int i =>
      unfold intsOf at h
      cases e : intsOf ds with
      | none => rw [e] at h; cases h
      | some ms =>
        rw [e] at h
        cases h
        obtain ⟨e1, e2⟩ := RepAll.ints t e
        exact ⟨by rw [e1]; rfl, by rw [e2]; rfl⟩
    | _ => cases h
theorem RepAll.bools : ∀ {vs : List V} {ds : List D} {ns : List Bool}, RepAll K F vs ds → boolsOf ds = some ns → vs = ns.map V.bl
  | _, _, _, .nil, h => by cases h; rfl
  | _, _, ns, .cons (d := d) (ds := ds) r t, h => by
    cases r with
    | bl i =>
      unfold boolsOf at h
      cases e : boolsOf ds with
      | none => rw [e] at h; cases h
      | some ms =>
        rw [e] at h
        cases h
        rw [RepAll.bools t e]
        rfl
    | _ => cases h
theorem RepAll.of_ints : ∀ ns : List Int, RepAll K F (ns.map V.int) (ns.map .int)
  | [] => .nil
  | i :: r => .cons (.int i) (RepAll.of_ints r)
end
end TP

set_option Elab.async false
set_option linter.all false
set_option maxRecDepth 100000
/-! TP3: slots in the heap; how the heap grows; what is new is given away. -/
namespace TP
open PySem PySem.Spec PyProof.Rows L2

theorem getP_set {r : Ev} {i j : Nat} {s : Option Sl} : getP (r.set i s) j = if i = j then (if i < r.length then (match s with | some (.p d) => some d | _ => none) else none) else getP r j := by
  unfold getP
  rw [List.getElem?_set]
  by_cases h : i = j
  · rw [if_pos h, if_pos h]
    by_cases h2 : i < r.length
    · rw [if_pos h2, if_pos h2]
      cases s with
      | none => rfl
      | some s => cases s <;> rfl
    · rw [if_neg h2, if_neg h2]
  · rw [if_neg h, if_neg h]
theorem getO_set {r : Ev} {i j : Nat} {s : Option Sl} : getO (r.set i s) j = if i = j then (if i < r.length then (match s with | some (.o d) => some d | _ => none) else none) else getO r j := by
  unfold getO
  rw [List.getElem?_set]
  by_cases h : i = j
  · rw [if_pos h, if_pos h]
    by_cases h2 : i < r.length
    · rw [if_pos h2, if_pos h2]
      cases s with
      | none => rfl
      | some s => cases s <;> rfl
    · rw [if_neg h2, if_neg h2]
  · rw [if_neg h, if_neg h]
theorem getP_lt {r : Ev} {i : Nat} {d : D} (h : getP r i = some d) : i < r.length := by
  unfold getP at h
  split at h
  · rename_i e
    exact (List.getElem?_eq_some_iff.mp e).1
  · cases h
theorem getO_lt {r : Ev} {i : Nat} {d : D} (h : getO r i = some d) : i < r.length := by
  unfold getO at h
  split at h
  · rename_i e
    exact (List.getElem?_eq_some_iff.mp e).1
  · cases h
theorem getO_at {r : Ev} {i : Nat} {d : D} (h : getO r i = some d) : r[i]? = some (some (.o d)) := by
  unfold getO at h
  split at h
  · rename_i e
    cases h
    exact e
  · cases h
theorem getP_at {r : Ev} {i : Nat} {d : D} (h : getP r i = some d) : r[i]? = some (some (.p d)) := by
  unfold getP at h
  split at h
  · rename_i e
    cases h
    exact e
  · cases h
theorem getO_of {r : Ev} {i : Nat} {d : D} (h : r[i]? = some (some (.o d))) : getO r i = some d := by unfold getO; rw [h]
theorem getP_of {r : Ev} {i : Nat} {d : D} (h : r[i]? = some (some (.p d))) : getP r i = some d := by unfold getP; rw [h]

/-- where a def's body began: what was given away, the heap, the address of the argument that it may change -/
structure Bs where
  K : PySem.W.Frag
  fa : Nat → Option Addr
  F0 : Hp
  H0 : Hp
  io : List Addr

/-- what stands at a is the tree d, its items given away -/
def OwnO (K : PySem.W.Frag) (F : Hp) (x : HO) (d : D) : Prop :=
  match d with
  | .list ds => ∃ xs, x = .lst xs ∧ RepAll K F xs ds
  | .dict ds => (∃ kvs, x = .dK kvs ∧ RepKs K F kvs ds) ∨ (∃ kvs, x = .dT kvs ∧ RepTs K F kvs ds)
  | _ => False
theorem OwnO.mono {K : PySem.W.Frag} {F F' : Hp} {x : HO} {d : D} (s : Sub F F') (h : OwnO K F x d) : OwnO K F' x d := by
  cases d with
  | list ds => obtain ⟨xs, e, r⟩ := h; exact ⟨xs, e, r.mono s⟩
  | dict ds =>
    rcases h with ⟨kvs, e, r⟩ | ⟨kvs, e, r⟩
    · exact .inl ⟨kvs, e, r.mono s⟩
    · exact .inr ⟨kvs, e, r.mono s⟩
  | _ => exact h
theorem OwnO.rep {K : PySem.W.Frag} {F : Hp} {x : HO} {d : D} {a : Addr} (h : OwnO K F x d) (e : F a = some x) : Rep K F (.ref a) d := by
  cases d with
  | list ds => obtain ⟨xs, rfl, r⟩ := h; exact .lst (.inl (.inl e)) r
  | dict ds =>
    rcases h with ⟨kvs, rfl, r⟩ | ⟨kvs, rfl, r⟩
    · exact .dct e r
    · exact .dctT e r
  | _ => exact h.elim

structure EnvOk (B : Bs) (F H : Hp) (σ : L2.St) (r : Ev) : Prop where
  len : σ.length = r.length
  fle : Sub F H
  pv : ∀ i d, getP r i = some d → ∃ v, σ[i]? = some (some v) ∧ Rep B.K F v d
  ow : ∀ i d, getO r i = some d → ∃ a x, σ[i]? = some (some (.ref a)) ∧ F a = none ∧ H a = some x ∧ OwnO B.K F x d ∧ (B.H0 a = none ∨ (a ∈ B.io ∧ i = 0))
  ap : ∀ i j a d e, i ≠ j → getO r i = some d → getO r j = some e → σ[i]? = some (some (.ref a)) → σ[j]? ≠ some (some (.ref a))
  fn : ∀ (i k : Nat), r[i]? = some (some (Sl.f k)) → ∃ a : Addr, B.fa k = some a ∧ σ[i]? = some (some (V.ref a))
  fr : ∀ a o, B.H0 a = some o → a ∉ B.io → H a = some o
  dm : ∀ a, H a = none → B.H0 a = none
  f0 : Sub B.F0 F
  fn0 : ∀ a o, F a = some o → B.F0 a = some o ∨ B.H0 a = none ∨ a ∈ B.io
  is : ∀ a, a ∈ B.io → σ[0]? = some (some (.ref a))

structure Grow (F H : Hp) (σ : L2.St) (r : Ev) (F' H' : Hp) (r' : Ev) : Prop where
  gf : Sub F F'
  gk : ∀ a o, H a = some o → (∀ i d, getO r i = some d → σ[i]? ≠ some (some (.ref a))) → H' a = some o
  gn : ∀ a o, F' a = some o → F a = some o ∨ H a = none
  gd : ∀ a, H' a = none → H a = none
  kd : ∀ i d, getO r' i = some d → ∃ e, getO r i = some e
  kp : ∀ i d, getP r' i = some d → getP r i = some d
  ln : r'.length = r.length
theorem Grow.refl {F H : Hp} {σ : L2.St} {r : Ev} : Grow F H σ r F H r := ⟨Sub.refl _, fun _ _ e _ => e, fun _ _ e => .inl e, fun _ e => e, fun _ d e => ⟨d, e⟩, fun _ _ e => e, rfl⟩
theorem Grow.trans {F H F1 H1 F2 H2 : Hp} {σ : L2.St} {r r1 r2 : Ev} (a : Grow F H σ r F1 H1 r1) (b : Grow F1 H1 σ r1 F2 H2 r2) : Grow F H σ r F2 H2 r2 where
  gf := a.gf.trans b.gf
  gk := fun c o e h => b.gk c o (a.gk c o e h) fun i d g => by
    obtain ⟨e', he⟩ := a.kd i d g
    exact h i e' he
  gn := fun c o e => (b.gn c o e).elim (fun z => a.gn c o z) fun z => .inr (a.gd c z)
  gd := fun c e => a.gd c (b.gd c e)
  kd := fun i d g => by
    obtain ⟨e, he⟩ := b.kd i d g
    exact a.kd i e he
  kp := fun i d g => a.kp i d (b.kp i d g)
  ln := b.ln.trans a.ln

/-- what an expression gave: a tree given away, or a new one -/
def ValOk (K : PySem.W.Frag) (F' H' H : Hp) (v : V) (d : D) (fr : Bool) : Prop :=
  if fr = true then ∃ a x, v = .ref a ∧ H a = none ∧ F' a = none ∧ H' a = some x ∧ OwnO K F' x d else Rep K F' v d

section
variable {B : Bs} {F H F' H' : Hp} {σ : L2.St} {r r' : Ev}
/-- an own slot's object is tracked ahead -/
theorem EnvOk.own_some (E : EnvOk B F H σ r) {i : Nat} {d : D} {a : Addr} (g : getO r i = some d) (e : σ[i]? = some (some (.ref a))) : F a = none ∧ ∃ x, H a = some x ∧ OwnO B.K F x d ∧ (B.H0 a = none ∨ (a ∈ B.io ∧ i = 0)) := by
  obtain ⟨b, x, e1, e2, e3, e4, e5⟩ := E.ow i d g
  rw [e] at e1
  cases e1
  exact ⟨e2, x, e3, e4, e5⟩
/-- F grows by one that is no slot's -/
theorem EnvOk.freeze (E : EnvOk B F' H' σ r') {a : Addr} {x : HO} (hx : H' a = some x) (hn : ∀ i d, getO r' i = some d → σ[i]? ≠ some (some (.ref a))) (h0 : B.H0 a = none ∨ a ∈ B.io) (hf : F' a = none) : EnvOk B (upd F' a x) H' σ r' where
  len := E.len
  fle := fun b o e => by
    by_cases h : b = a
    · subst h; rw [upd_same] at e; cases e; exact hx
    · rw [upd_ne h] at e; exact E.fle b o e
  pv := fun i d g => let ⟨v, e, q⟩ := E.pv i d g; ⟨v, e, q.mono (sub_upd hf)⟩
  ow := fun i d g => by
    obtain ⟨b, y, e1, e2, e3, e4, e5⟩ := E.ow i d g
    have hb : b ≠ a := fun z => hn i d g (z ▸ e1)
    exact ⟨b, y, e1, by rw [upd_ne hb]; exact e2, e3, e4.mono (sub_upd hf), e5⟩
  ap := E.ap
  fn := E.fn
  fr := E.fr
  dm := E.dm
  f0 := E.f0.trans (sub_upd hf)
  fn0 := fun b o e => by
    by_cases h : b = a
    · subst h; exact .inr h0
    · rw [upd_ne h] at e; exact E.fn0 b o e
  is := E.is
/-- a value, given away if it was new -/
theorem ValOk.give (E : EnvOk B F H σ r) (E' : EnvOk B F' H' σ r') (G : Grow F H σ r F' H' r') {v : V} {d : D} {fr : Bool} (h : ValOk B.K F' H' H v d fr) :
    ∃ F2, EnvOk B F2 H' σ r' ∧ Grow F H σ r F2 H' r' ∧ Rep B.K F2 v d := by
  unfold ValOk at h
  cases fr with
  | false =>
    rw [if_neg (by decide)] at h
    exact ⟨F', E', G, h⟩
  | true =>
    rw [if_pos rfl] at h
    obtain ⟨a, x, rfl, h1, h2, h3, h4⟩ := h
    have hn : ∀ i d, getO r' i = some d → σ[i]? ≠ some (some (.ref a)) := fun i d g e => by
      obtain ⟨d', g'⟩ := G.kd i d g
      obtain ⟨_, x, hx, _⟩ := E.own_some g' e
      rw [h1] at hx
      cases hx
    refine ⟨upd F' a x, E'.freeze h3 hn (.inl (E.dm a h1)) h2, ⟨G.gf.trans (sub_upd h2), G.gk, fun b o e => ?_, G.gd, G.kd, G.kp, G.ln⟩, (h4.mono (sub_upd h2)).rep upd_same⟩
    by_cases h : b = a
    · subst h; exact .inr h1
    · rw [upd_ne h] at e; exact G.gn b o e
end

/-- a rule by values, over trees: two operands -/
def GrowV (F H F' H' : Hp) : Prop := Sub F F' ∧ Sub H H' ∧ Sub F' H' ∧ ∀ a o, F' a = some o → F a = some o ∨ H a = none
theorem GrowV.refl {F H : Hp} (s : Sub F H) : GrowV F H F H := ⟨Sub.refl _, Sub.refl _, s, fun _ _ e => .inl e⟩
theorem none_sub {H H' : Hp} (s : Sub H H') {a : Addr} (h : H' a = none) : H a = none := by
  cases e : H a with
  | none => rfl
  | some o => rw [s _ _ e] at h; cases h
/-- the slots stay where the heap but grows -/
theorem EnvOk.grow {B : Bs} {F H F' H' : Hp} {σ : L2.St} {r : Ev} (E : EnvOk B F H σ r) (g : GrowV F H F' H') : EnvOk B F' H' σ r ∧ Grow F H σ r F' H' r := by
  obtain ⟨s1, s2, s3, s4⟩ := g
  refine ⟨⟨E.len, s3, fun i d g => let ⟨v, e, q⟩ := E.pv i d g; ⟨v, e, q.mono s1⟩, fun i d g => ?_, E.ap, E.fn, fun a o e h => s2 _ _ (E.fr a o e h), fun a e => E.dm a (none_sub s2 e), E.f0.trans s1, fun a o e => ?_, E.is⟩,
    s1, fun a o e _ => s2 _ _ e, s4, fun a e => none_sub s2 e, fun i d e => ⟨d, e⟩, fun _ _ e => e, rfl⟩
  · obtain ⟨a, x, e1, e2, e3, e4, e5⟩ := E.ow i d g
    refine ⟨a, x, e1, ?_, s2 _ _ e3, e4.mono s1, e5⟩
    cases q : F' a with
    | none => rfl
    | some o =>
      rcases s4 a o q with z | z
      · rw [e2] at z; cases z
      · rw [e3] at z; cases z
  · rcases s4 a o e with z | z
    · exact E.fn0 a o z
    · exact .inr (.inl (E.dm a z))
end TP

set_option Elab.async false
set_option linter.all false
set_option maxRecDepth 100000
/-! TP4: the operations by values, over trees. -/
namespace TP
open PySem PySem.Spec PyProof.Rows L2

theorem line_eq : line = sizeLine := by decide

/-- what is wanted of an operation that gives the tree dz (new: fr) -/
def Gives (K : PySem.W.Frag) (F H : Hp) (dz : D) (fr : Bool) (Q : VK) : Prop := ∀ v F' H', GrowV F H F' H' → ValOk K F' H' H v dz fr → Q v H'
def RV1 (K : PySem.W.Frag) (f : D → Option (D × Bool)) : V → Hp → VK → Prop := fun x H Q => ∃ F dx dz fr, Sub F H ∧ Rep K F x dx ∧ f dx = some (dz, fr) ∧ Gives K F H dz fr Q
def RV2 (K : PySem.W.Frag) (f : D → D → Option (D × Bool)) : R2 := fun x y H Q => ∃ F dx dy dz fr, Sub F H ∧ Rep K F x dx ∧ Rep K F y dy ∧ f dx dy = some (dz, fr) ∧ Gives K F H dz fr Q
def RVs (K : PySem.W.Frag) (f : List D → Option (D × Bool)) : List V → Hp → VK → Prop := fun xs H Q => ∃ F ds dz fr, Sub F H ∧ RepAll K F xs ds ∧ f ds = some (dz, fr) ∧ Gives K F H dz fr Q

section
variable {K : PySem.W.Frag} {F H : Hp} {Q : VK}
theorem Gives.same (s : Sub F H) {v : V} {d : D} (g : Gives K F H d false Q) (r : Rep K F v d) : Q v H := g v F H (GrowV.refl s) (by unfold ValOk; rw [if_neg (by decide)]; exact r)
theorem sub_none {F H : Hp} (s : Sub F H) {p : Addr} (h : H p = none) : F p = none := none_sub s h
theorem Gives.list (s : Sub F H) {xs : List V} {ds : List D} (g : Gives K F H (.list ds) true Q) (r : RepAll K F xs ds) (p : Addr) (hp : H p = none) : Q (.ref p) (upd H p (.lst xs)) := by
  refine g _ F _ ⟨Sub.refl _, sub_upd hp, s.trans (sub_upd hp), fun _ _ e => .inl e⟩ ?_
  unfold ValOk
  rw [if_pos rfl]
  exact ⟨p, _, rfl, hp, sub_none s hp, upd_same, xs, rfl, r⟩
theorem Gives.tup (s : Sub F H) {xs : List V} {ds : List D} (g : Gives K F H (.tuple ds) false Q) (r : RepAll K F xs ds) (p : Addr) (hp : H p = none) : Q (.ref p) (upd H p (.tup xs)) := by
  have hf := sub_none s hp
  refine g _ (upd F p (.tup xs)) _ ⟨sub_upd hf, sub_upd hp, sub_upd2 s, fun a o e => ?_⟩ ?_
  · by_cases h : a = p
    · subst h; exact .inr hp
    · rw [upd_ne h] at e; exact .inl e
  · unfold ValOk
    rw [if_neg (by decide)]
    exact .tup (.inl (.inl upd_same)) (r.mono (sub_upd hf))
end

theorem cat_any {X : Cx} : OpR X (binaryOp .Add) (fun x y H Q => ∃ l b xs zs, x = .ref l ∧ y = .ref b ∧ SqL X.K H l xs ∧ SqL X.K H b zs ∧ xs.length + zs.length ≤ sizeLine ∧ ∀ p, H p = none → Q (.ref p) (upd H p (.lst (xs ++ zs)))) := by
  intro pins s σ H x y v u Q I rx ry h
  obtain ⟨l, b, xs, zs, rfl, rfl, hH, hB, hz, q⟩ := h
  cases rx
  cases ry
  obtain ⟨its, r, hl, z⟩ := I.list hH
  obtain ⟨its2, r2, hl2, z2⟩ := I.list hB
  obtain ⟨⟨cls, dd, data, sl⟩, ho, hc, n, hd⟩ := hl.isList
  obtain ⟨⟨cls2, dd2, data2, sl2⟩, ho2, hc2, n2, hd2⟩ := hl2.isList
  simp only at hc hd hc2 hd2
  subst hc hd hc2 hd2
  have e1 := r.length
  have e2 := r2.length
  have e : its.toArray ++ its2.toArray = (its ++ its2).toArray := by simp
  refine concat_meets ⟨_, ho, rfl⟩ ⟨_, ho2, rfl⟩ noFill_list_add seq_list_add PySem.F.slot_list_add PySem.F.entry_list_add (PySem.F.args_list_add_2 _ _) (list_addW l b its.toArray its2.toArray n n2 dd dd2 sl sl2 (by simp only [List.size_toArray]; omega)) ⟨ho, ho2, ?_⟩
  rw [e]
  exact ⟨.ref _, _, I.lnew (t' := s.toks) (r.append r2) (by rw [List.length_append]; exact hz), rfl, q _ I.fresh⟩
theorem rep_any {X : Cx} : OpR X (binaryOp .Mult) (fun x y H Q => ∃ l k xs, x = .ref l ∧ y = .int k ∧ SqL X.K H l xs ∧ -(2 ^ 63) ≤ k ∧ k < 2 ^ 63 ∧ xs.length * k.toNat ≤ sizeLine ∧ ∀ p, H p = none → Q (.ref p) (upd H p (.lst (List.replicate k.toNat xs).flatten))) := by
  intro pins s σ H x y v u Q I rx ry h
  obtain ⟨l, k, xs, rfl, rfl, hH, h1, h2, hz, q⟩ := h
  cases rx
  obtain ⟨t, rfl⟩ := ry
  obtain ⟨its, r, hl, z⟩ := I.list hH
  obtain ⟨⟨cls, d, data, sl⟩, ho, hcl, n, hd⟩ := hl.isList
  simp only at hcl hd
  subst hcl hd
  have e1 := r.length
  have hsz' : its.toArray.size * k.toNat ≤ 2 ^ 24 := by
    rw [List.size_toArray, ← e1]
    have := sizeLine_eq
    omega
  refine wpAny_binaryOp_repeat_ref (T := "list") (U := "int") (by decide) ⟨_, ho, rfl⟩ (fun s' => typeIs_int s' k t) noFill_list_mul PySem.F.fills_int_mul PySem.F.slot_int_rmul repeat_list PySem.F.slot_int_index.lookup
    (call_meets PySem.F.slot_int_rmul (typeIs_int s k t) PySem.F.entry_int_rmul (PySem.F.args_int_rmul_2 _ _) (lm_int_rmul_list_any k t l its.toArray n d sl)
      ⟨ho, rfl, ⟨_, ho, rfl⟩, call_meets PySem.F.slot_list_mul ⟨_, ho, rfl⟩ PySem.F.entry_list_mul (PySem.F.args_list_mul_2 _ _)
        (lm_list_mul_any l its.toArray n d sl k t (by simp [Builtin.List.listFitsIndex]; omega) (by omega) (by simp [Builtin.List.listTooLong, sizeLine]; simp only [List.size_toArray] at hsz'; omega))
        ⟨ho, ?_⟩⟩)
  rw [listMul_foldl_if]
  exact ⟨.ref _, _, I.lnew (t' := s.toks) (r.rep k.toNat) (by rw [PyProof.Rows.lm_len_rep_flat, Nat.mul_comm]; exact hz), rfl, q _ I.fresh⟩

def opB : BO → Operator
  | .add => .Add
  | .sub => .Sub
  | .mul => .Mult
  | .fdiv => .FloorDiv
  | .mod => .Mod
  | .pow => .Pow
theorem smallI_ok {i : Int} (h : smallI i = true) : -(2 ^ 64) < i ∧ i < 2 ^ 64 := by
  unfold smallI at h
  rw [Bool.and_eq_true, decide_eq_true_eq, decide_eq_true_eq] at h
  unfold pw64 at h
  omega

section
variable {X : Cx}
theorem or_add : OpR X (binaryOp .Add) (RV2 X.K (dBin .add)) := by
  intro pins s σ H x y v u Q I rx ry h
  obtain ⟨F, dx, dy, dz, fr, sf, hx, hy, e, g⟩ := h
  cases dx <;> cases dy <;> simp only [dBin] at e <;> try (cases e; done)
  case int.int i j =>
    cases e
    cases hx
    cases hy
    exact op_add pins s σ H _ _ v u Q I rx ry ⟨i, j, rfl, rfl, g.same sf (.int _)⟩
  case str.str a b =>
    split at e
    · rename_i hz
      cases e
      cases hx
      cases hy
      exact op_add_str pins s σ H _ _ v u Q I rx ry ⟨a, b, rfl, rfl, by rw [← line_eq]; exact hz, g.same sf (.str _)⟩
    · cases e
  case list.list a b =>
    split at e
    · rename_i hz
      cases e
      obtain ⟨l, xs, rfl, hl, rl⟩ := hx.lst_inv
      obtain ⟨m, ys, rfl, hm, rm⟩ := hy.lst_inv
      exact cat_any pins s σ H _ _ v u Q I rx ry ⟨l, m, xs, ys, rfl, rfl, SqL.sub sf hl, SqL.sub sf hm, by rw [rl.length, rm.length, ← line_eq]; exact hz, fun p hp => g.list sf (rl.append rm) p hp⟩
    · cases e
  case tuple.tuple a b =>
    split at e
    · rename_i hz
      cases e
      obtain ⟨l, xs, rfl, hl, rl⟩ := hx.tup_inv
      obtain ⟨m, ys, rfl, hm, rm⟩ := hy.tup_inv
      refine op_catA pins s σ H _ _ v u Q I rx ry ⟨l, m, xs, ys, rfl, rfl, SqT.sub sf hl, SqT.sub sf hm, by rw [rl.length, rm.length, ← line_eq]; exact hz, fun e0 => ?_, fun _ e0 => ?_, fun _ _ p hp => g.tup sf (rl.append rm) p hp⟩
      · subst e0
        cases rl
        exact g.same sf (.tup hm rm)
      · subst e0
        cases rm
        refine g.same sf ?_
        rw [List.append_nil]
        exact .tup hl rl
    · cases e
theorem or_sub : OpR X (binaryOp .Sub) (RV2 X.K (dBin .sub)) := by
  intro pins s σ H x y v u Q I rx ry h
  obtain ⟨F, dx, dy, dz, fr, sf, hx, hy, e, g⟩ := h
  cases dx <;> cases dy <;> simp only [dBin] at e <;> try (cases e; done)
  cases e
  cases hx
  cases hy
  exact op_sub pins s σ H _ _ v u Q I rx ry ⟨_, _, rfl, rfl, g.same sf (.int _)⟩
theorem or_mul : OpR X (binaryOp .Mult) (RV2 X.K (dBin .mul)) := by
  intro pins s σ H x y v u Q I rx ry h
  obtain ⟨F, dx, dy, dz, fr, sf, hx, hy, e, g⟩ := h
  cases dx <;> cases dy <;> simp only [dBin] at e <;> try (cases e; done)
  case int.int i j =>
    split at e
    · rename_i hz
      cases e
      cases hx
      cases hy
      rw [Bool.or_eq_true] at hz
      exact op_mul pins s σ H _ _ v u Q I rx ry ⟨i, j, rfl, rfl, hz.elim (fun z => .inl (smallI_ok z)) (fun z => .inr (smallI_ok z)), g.same sf (.int _)⟩
    · cases e
  case list.int a k =>
    split at e
    · rename_i hz
      cases e
      cases hy
      obtain ⟨l, xs, rfl, hl, rl⟩ := hx.lst_inv
      rw [Bool.and_eq_true, Bool.and_eq_true, decide_eq_true_eq, decide_eq_true_eq, decide_eq_true_eq] at hz
      exact rep_any pins s σ H _ _ v u Q I rx ry ⟨l, k, xs, rfl, rfl, SqL.sub sf hl, by omega, by omega, by rw [rl.length, ← line_eq]; exact hz.2, fun p hp => g.list sf (rl.rep _) p hp⟩
    · cases e
theorem or_fdiv : OpR X (binaryOp .FloorDiv) (RV2 X.K (dBin .fdiv)) := by
  intro pins s σ H x y v u Q I rx ry h
  obtain ⟨F, dx, dy, dz, fr, sf, hx, hy, e, g⟩ := h
  cases dx <;> cases dy <;> simp only [dBin] at e <;> try (cases e; done)
  split at e
  · rename_i hz
    cases e
    cases hx
    cases hy
    rw [Bool.and_eq_true, decide_eq_true_eq, decide_eq_true_eq] at hz
    exact op_fdivN pins s σ H _ _ v u Q I rx ry ⟨_, _, rfl, rfl, hz, g.same sf (.int _)⟩
  · cases e
theorem or_mod : OpR X (binaryOp .Mod) (RV2 X.K (dBin .mod)) := by
  intro pins s σ H x y v u Q I rx ry h
  obtain ⟨F, dx, dy, dz, fr, sf, hx, hy, e, g⟩ := h
  cases dx <;> cases dy <;> simp only [dBin] at e <;> try (cases e; done)
  split at e
  · rename_i hz
    cases e
    cases hx
    cases hy
    exact op_modN pins s σ H _ _ v u Q I rx ry ⟨_, _, rfl, rfl, hz, g.same sf (.int _)⟩
  · cases e
theorem or_pow : OpR X (binaryOp .Pow) (RV2 X.K (dBin .pow)) := by
  intro pins s σ H x y v u Q I rx ry h
  obtain ⟨F, dx, dy, dz, fr, sf, hx, hy, e, g⟩ := h
  cases dx <;> cases dy <;> simp only [dBin] at e <;> try (cases e; done)
  split at e
  · rename_i hz
    cases e
    cases hx
    cases hy
    rw [Bool.and_eq_true, Bool.and_eq_true, decide_eq_true_eq, decide_eq_true_eq, decide_eq_true_eq] at hz
    exact op_pow pins s σ H _ _ v u Q I rx ry ⟨_, _, rfl, rfl, ⟨hz.1.1, hz.1.2, by omega⟩, g.same sf (.int _)⟩
  · cases e
theorem or_bin : ∀ o : BO, OpR X (binaryOp (opB o)) (RV2 X.K (dBin o))
  | .add => or_add
  | .sub => or_sub
  | .mul => or_mul
  | .fdiv => or_fdiv
  | .mod => or_mod
  | .pow => or_pow
end
end TP

set_option Elab.async false
set_option linter.all false
set_option maxRecDepth 100000
/-! TP5: comparisons, places, slices, built-ins, over trees. -/
namespace TP
open PySem PySem.Spec PyProof.Rows L2

def opC : CO → CmpOp
  | .eq => .Eq
  | .ne => .NotEq
  | .lt => .Lt
  | .le => .LtE
  | .gt => .Gt
  | .ge => .GtE
  | .isin => .In
  | .notin => .NotIn
  | .is => .Is
  | .isnot => .IsNot
def cmpB (o : CO) (x y : D) : Option (D × Bool) := (dCmp o x y).map fun b => (.bool b, false)

theorem Rep.dps {K : PySem.W.Frag} {F H : Hp} {v : V} {d : D} (s : Sub F H) (h : Rep K F v d) (e : shapedD d = true) : Dp K H v d := (h.mono s).dp (SeqAt.canLay_of_shaped e)
theorem atI_map {α β : Type} (f : α → β) (xs : List α) (i : Int) : atI (xs.map f) i = (atI xs i).map f := by
  unfold atI
  rw [List.length_map]
  cases ixN xs.length i with
  | none => rfl
  | some j => simp
theorem RepAll.atI {K : PySem.W.Frag} {F : Hp} {vs : List V} {ds : List D} {i : Int} {d : D} (r : RepAll K F vs ds) (h : atI ds i = some d) : ∃ v, L2.atI vs i = some v ∧ Rep K F v d := by
  unfold L2.atI at h ⊢
  rw [r.length]
  cases e : ixN ds.length i with
  | none => rw [e] at h; cases h
  | some j =>
    rw [e] at h
    exact r.get h
theorem RepAll.cut {K : PySem.W.Frag} {F : Hp} {vs : List V} {ds : List D} (lo hi : Option Int) (r : RepAll K F vs ds) : RepAll K F (cutV vs lo hi) (cutD ds lo hi) := by
  unfold cutV cutD
  rw [r.length]
  exact (r.drop _).take _
section
variable {X : Cx} {k : Nat}
theorem or_cmp (hr : Room k X.A) : ∀ o : CO, OpR X (compareOp (opC o)) (RV2 X.K (cmpB o)) := by
  have hu : X.A.units + 64 < cLine := hr.units
  have hu5 : X.A.units + 65 < cLine := by have := hr.un; omega
  intro o pins s σ H x y v u Q I rx ry h
  obtain ⟨F, dx, dy, dz, fr, sf, hx, hy, e, g⟩ := h
  unfold cmpB at e
  cases o with
  | eq =>
    simp only [dCmp] at e
    split at e
    · rename_i hs
      rw [Bool.and_eq_true] at hs
      cases e
      exact op_eqD hu pins s σ H x y v u Q I rx ry ⟨dx, dy, hx.dps sf hs.1, hy.dps sf hs.2, hs.1, hs.2, g.same sf (.bl _)⟩
    · cases e
  | ne =>
    simp only [dCmp] at e
    split at e
    · rename_i hs
      rw [Bool.and_eq_true] at hs
      cases e
      exact op_neD hu pins s σ H x y v u Q I rx ry ⟨dx, dy, hx.dps sf hs.1, hy.dps sf hs.2, hs.1, hs.2, g.same sf (.bl _)⟩
    · cases e
  | lt =>
    cases dx <;> cases dy <;> simp only [dCmp, Option.map_none, Option.map_some] at e <;> try (cases e; done)
    cases e
    cases hx
    cases hy
    exact op_lt pins s σ H _ _ v u Q I rx ry ⟨_, _, rfl, rfl, g.same sf (.bl _)⟩
  | le =>
    cases dx <;> cases dy <;> simp only [dCmp, Option.map_none, Option.map_some] at e <;> try (cases e; done)
    cases e
    cases hx
    cases hy
    exact op_le pins s σ H _ _ v u Q I rx ry ⟨_, _, rfl, rfl, g.same sf (.bl _)⟩
  | gt =>
    cases dx <;> cases dy <;> simp only [dCmp, Option.map_none, Option.map_some] at e <;> try (cases e; done)
    cases e
    cases hx
    cases hy
    exact op_gt pins s σ H _ _ v u Q I rx ry ⟨_, _, rfl, rfl, g.same sf (.bl _)⟩
  | ge =>
    cases dx <;> cases dy <;> simp only [dCmp, Option.map_none, Option.map_some] at e <;> try (cases e; done)
    cases e
    cases hx
    cases hy
    exact op_ge pins s σ H _ _ v u Q I rx ry ⟨_, _, rfl, rfl, g.same sf (.bl _)⟩
  | isin =>
    cases dy <;> simp only [dCmp, Option.map_none] at e <;> try (cases e; done)
    all_goals
      split at e
      · rename_i l hs
        rw [Bool.and_eq_true] at hs
        cases e
        obtain ⟨as, r1⟩ := Dp.reads I dx x v (hx.dps sf hs.1) rx
        obtain ⟨bs, r2⟩ := Dp.reads I _ y u (hy.dps sf hs.2) ry
        first
          | exact SeqAt.in_list_reads r2 r1 (SeqAt.canLay_of_shaped hs.2) (SeqAt.canLay_of_shaped hs.1) (room_in_shaped hs.1 hu5) ⟨.bl _, H, I, rfl, g.same sf (.bl _)⟩
          | exact SeqAt.in_tuple_reads r2 r1 (SeqAt.canLay_of_shaped hs.2) (SeqAt.canLay_of_shaped hs.1) (room_in_shaped hs.1 hu5) ⟨.bl _, H, I, rfl, g.same sf (.bl _)⟩
      · cases e
  | notin =>
    cases dy <;> simp only [dCmp, Option.map_none] at e <;> try (cases e; done)
    all_goals
      split at e
      · rename_i l hs
        rw [Bool.and_eq_true] at hs
        cases e
        obtain ⟨as, r1⟩ := Dp.reads I dx x v (hx.dps sf hs.1) rx
        obtain ⟨bs, r2⟩ := Dp.reads I _ y u (hy.dps sf hs.2) ry
        first
          | exact SeqAt.notIn_list_reads r2 r1 (SeqAt.canLay_of_shaped hs.2) (SeqAt.canLay_of_shaped hs.1) (room_in_shaped hs.1 hu5) ⟨.bl _, H, I, rfl, g.same sf (.bl _)⟩
          | exact SeqAt.notIn_tuple_reads r2 r1 (SeqAt.canLay_of_shaped hs.2) (SeqAt.canLay_of_shaped hs.1) (room_in_shaped hs.1 hu5) ⟨.bl _, H, I, rfl, g.same sf (.bl _)⟩
      · cases e
  | is =>
    cases dy <;> simp only [dCmp, Option.map_none, Option.map_some] at e <;> try (cases e; done)
    case none =>
      cases e
      cases hy
      refine op_isN pins s σ H x _ v u Q I rx ry ⟨rfl, ?_⟩
      have hq := g.same sf (.bl _)
      cases hx <;> exact hq
    case bool b =>
      cases dx <;> simp only [dCmp, Option.map_none, Option.map_some] at e <;> try (cases e; done)
      cases e
      cases hx
      cases hy
      exact op_isBl pins s σ H _ _ v u Q I rx ry ⟨_, _, rfl, rfl, g.same sf (.bl _)⟩
  | isnot =>
    cases dy <;> simp only [dCmp, Option.map_none, Option.map_some] at e <;> try (cases e; done)
    case none =>
      cases e
      cases hy
      refine op_notN pins s σ H x _ v u Q I rx ry ⟨rfl, ?_⟩
      have hq := g.same sf (.bl _)
      cases hx <;> exact hq
    case bool b =>
      cases dx <;> simp only [dCmp, Option.map_none, Option.map_some] at e <;> try (cases e; done)
      cases e
      cases hx
      cases hy
      exact op_notBl pins s σ H _ _ v u Q I rx ry ⟨_, _, rfl, rfl, g.same sf (.bl _)⟩
def negB (x : D) : Option (D × Bool) := (dNeg x).map fun d => (d, false)
theorem or_neg : UnR X (unaryOp .USub) (RV1 X.K negB) := by
  intro pins s σ H x v Q I rx h
  obtain ⟨F, dx, dz, fr, sf, hx, e, g⟩ := h
  unfold negB at e
  cases dx <;> simp only [dNeg, Option.map_none, Option.map_some] at e <;> try (cases e; done)
  cases e
  cases hx
  exact un_neg pins s σ H _ v Q I rx ⟨_, rfl, g.same sf (.int _)⟩
def idxB (x y : D) : Option (D × Bool) := (dIdx x y).map fun d => (d, false)
theorem or_idx : IxR X (RV2 X.K idxB) := by
  intro value slice pins s σ H x y v u Q I rx ry h hs
  obtain ⟨F, dx, dy, dz, fr, sf, hx, hy, e, g⟩ := h
  unfold idxB at e
  cases dx <;> cases dy <;> simp only [dIdx, Option.map_none, Option.map_some] at e <;> try (cases e; done)
  case list.int l i =>
    cases hy
    obtain ⟨a, xs, rfl, hl, rl⟩ := hx.lst_inv
    cases ea : L2.atI l i with
    | none => rw [ea] at e; cases e
    | some d =>
      rw [ea] at e
      cases e
      obtain ⟨w, e1, e2⟩ := rl.atI ea
      exact ix_list value slice pins s σ H _ _ v u Q I rx ry ⟨a, xs, i, w, rfl, rfl, SqL.sub sf hl, e1, g.same sf e2⟩ hs
  case tuple.int l i =>
    cases hy
    obtain ⟨a, xs, rfl, hl, rl⟩ := hx.tup_inv
    cases ea : L2.atI l i with
    | none => rw [ea] at e; cases e
    | some d =>
      rw [ea] at e
      cases e
      obtain ⟨w, e1, e2⟩ := rl.atI ea
      exact ix_tup value slice pins s σ H _ _ v u Q I rx ry ⟨a, xs, i, w, rfl, rfl, SqT.sub sf hl, e1, g.same sf e2⟩ hs
  case str.int z i =>
    cases hy
    cases hx
    split at e
    · rename_i hz
      cases ea : L2.atI z.cps.toList i with
      | none => rw [ea] at e; cases e
      | some c =>
        rw [ea] at e
        cases e
        exact ix_str value slice pins s σ H _ _ v u Q I rx ry ⟨z, i, c, rfl, rfl, by rw [← line_eq]; exact hz, ea, g.same sf (.str _)⟩ hs
    · cases e
/-- a slice of a list or tuple -/
def RSl (K : PySem.W.Frag) : V → Option Int → Option Int → Hp → VK → Prop := fun x lo hi H Q => ∃ F dx dz fr, Sub F H ∧ Rep K F x dx ∧ dSli dx lo hi = some (dz, fr) ∧ Gives K F H dz fr Q
theorem or_sli : SlR X (RSl X.K) := by
  intro pins s σ H x v vl vu lo hi sl Q I rx hs pl pu h
  obtain ⟨F, dx, dz, fr, sf, hx, e, g⟩ := h
  cases dx <;> simp only [dSli] at e <;> try (cases e; done)
  case list l =>
    cases e
    obtain ⟨a, xs, rfl, hl, rl⟩ := hx.lst_inv
    exact sl_list pins s σ H _ v vl vu lo hi sl Q I rx hs pl pu ⟨a, xs, rfl, SqL.sub sf hl, fun p hp => g.list sf (rl.cut lo hi) p hp⟩
  case tuple l =>
    cases e
    obtain ⟨a, xs, rfl, hl, rl⟩ := hx.tup_inv
    refine sl_tupA pins s σ H _ v vl vu lo hi sl Q I rx hs pl pu ⟨a, xs, rfl, SqT.sub sf hl, fun hw => ?_, fun _ p hp => g.tup sf (rl.cut lo hi) p hp⟩
    have e1 : cutD l lo hi = l := by
      unfold cutD
      rw [← rl.length, hw.1, hw.2]
      simp only [List.drop_zero, Nat.sub_zero]
      rw [rl.length]
      exact List.take_length
    refine g.same sf ?_
    rw [e1]
    exact .tup hl rl
end

theorem maxL_mem : ∀ (r : List Int) (a : Int), maxL a r ∈ a :: r ∧ ∀ y ∈ a :: r, y ≤ maxL a r
  | [], a => ⟨List.mem_singleton.mpr rfl, fun y h => by rw [List.mem_singleton.mp h]; exact Int.le_refl _⟩
  | b :: r, a => by
    by_cases hab : a < b
    · have e : maxL a (b :: r) = maxL b r := by show maxL (if a < b then b else a) r = _; rw [if_pos hab]
      have h := maxL_mem r b
      rw [e]
      refine ⟨List.mem_cons_of_mem _ h.1, fun y hy => ?_⟩
      rcases List.mem_cons.mp hy with z | z
      · have := h.2 b List.mem_cons_self
        omega
      · exact h.2 y z
    · have e : maxL a (b :: r) = maxL a r := by show maxL (if a < b then b else a) r = _; rw [if_neg hab]
      have h := maxL_mem r a
      rw [e]
      refine ⟨?_, fun y hy => ?_⟩
      · rcases List.mem_cons.mp h.1 with z | z
        · rw [z]; exact List.mem_cons_self
        · exact List.mem_cons_of_mem _ (List.mem_cons_of_mem _ z)
      · have ha := h.2 a List.mem_cons_self
        rcases List.mem_cons.mp hy with z | z
        · omega
        · rcases List.mem_cons.mp z with z | z
          · omega
          · exact h.2 y (List.mem_cons_of_mem _ z)
theorem minL_mem : ∀ (r : List Int) (a : Int), minL a r ∈ a :: r ∧ ∀ y ∈ a :: r, minL a r ≤ y
  | [], a => ⟨List.mem_singleton.mpr rfl, fun y h => by rw [List.mem_singleton.mp h]; exact Int.le_refl _⟩
  | b :: r, a => by
    by_cases hab : b < a
    · have e : minL a (b :: r) = minL b r := by show minL (if b < a then b else a) r = _; rw [if_pos hab]
      have h := minL_mem r b
      rw [e]
      refine ⟨List.mem_cons_of_mem _ h.1, fun y hy => ?_⟩
      rcases List.mem_cons.mp hy with z | z
      · have := h.2 b List.mem_cons_self
        omega
      · exact h.2 y z
    · have e : minL a (b :: r) = minL a r := by show minL (if b < a then b else a) r = _; rw [if_neg hab]
      have h := minL_mem r a
      rw [e]
      refine ⟨?_, fun y hy => ?_⟩
      · rcases List.mem_cons.mp h.1 with z | z
        · rw [z]; exact List.mem_cons_self
        · exact List.mem_cons_of_mem _ (List.mem_cons_of_mem _ z)
      · have ha := h.2 a List.mem_cons_self
        rcases List.mem_cons.mp hy with z | z
        · omega
        · rcases List.mem_cons.mp z with z | z
          · omega
          · exact h.2 y (List.mem_cons_of_mem _ z)
theorem ins_perm (x : Int) : ∀ l : List Int, (ins x l).Perm (x :: l)
  | [] => .refl _
  | y :: r => by
    unfold ins
    split
    · exact .refl _
    · exact ((ins_perm x r).cons y).trans (.swap _ _ _)
theorem isort_perm : ∀ l : List Int, (isort l).Perm l
  | [] => .refl _
  | x :: r => (ins_perm x (isort r)).trans ((isort_perm r).cons x)
theorem ins_sorted (x : Int) : ∀ l : List Int, l.Pairwise (· ≤ ·) → (ins x l).Pairwise (· ≤ ·)
  | [], _ => List.pairwise_singleton _ _
  | y :: r, h => by
    unfold ins
    split
    · rename_i hxy
      refine List.pairwise_cons.mpr ⟨fun z hz => ?_, h⟩
      rcases List.mem_cons.mp hz with e | e
      · rw [e]; exact hxy
      · exact Int.le_trans hxy ((List.pairwise_cons.mp h).1 z e)
    · rename_i hxy
      refine List.pairwise_cons.mpr ⟨fun z hz => ?_, ins_sorted x r (List.pairwise_cons.mp h).2⟩
      rcases List.mem_cons.mp ((ins_perm x r).mem_iff.mp hz) with e | e
      · rw [e]; omega
      · exact (List.pairwise_cons.mp h).1 z e
theorem isort_sorted : ∀ l : List Int, (isort l).Pairwise (· ≤ ·)
  | [] => .nil
  | x :: r => ins_sorted x _ (isort_sorted r)
theorem sorted_unique {l m : List Int} (p : l.Perm m) (hl : l.Pairwise (· ≤ ·)) (hm : m.Pairwise (· ≤ ·)) : l = m :=
  List.Perm.eq_of_pairwise (fun a b _ _ h1 h2 => Int.le_antisymm h1 h2) hl hm p

end TP

set_option Elab.async false
set_option linter.all false
set_option maxRecDepth 100000
/-! TP6: built-ins called, isinstance, truth, over trees. -/
namespace TP
open PySem PySem.Spec PyProof.Rows L2

def tyS : TY → String
  | .bool => "bool"
  | .int => "int"
  | .str => "str"
  | .list => "list"
  | .tuple => "tuple"
  | .dict => "dict"
def kindS : D → String
  | .none => "NoneType"
  | .bool _ => "bool"
  | .int _ => "int"
  | .str _ => "str"
  | .list _ => "list"
  | .tuple _ => "tuple"
  | .dict _ => "dict"
theorem kit_all : ∀ (T : TY) (d : D), kitB (kindS d) (tyS T) = some (isiD T d)
  | .bool, .none => by decide +kernel
  | .bool, .bool _ => by show kitB "bool" "bool" = some true; decide +kernel
  | .bool, .int _ => by show kitB "int" "bool" = some false; decide +kernel
  | .bool, .str _ => by show kitB "str" "bool" = some false; decide +kernel
  | .bool, .list _ => by show kitB "list" "bool" = some false; decide +kernel
  | .bool, .tuple _ => by show kitB "tuple" "bool" = some false; decide +kernel
  | .bool, .dict _ => by show kitB "dict" "bool" = some false; decide +kernel
  | .int, .none => by decide +kernel
  | .int, .bool _ => by show kitB "bool" "int" = some true; decide +kernel
  | .int, .int _ => by show kitB "int" "int" = some true; decide +kernel
  | .int, .str _ => by show kitB "str" "int" = some false; decide +kernel
  | .int, .list _ => by show kitB "list" "int" = some false; decide +kernel
  | .int, .tuple _ => by show kitB "tuple" "int" = some false; decide +kernel
  | .int, .dict _ => by show kitB "dict" "int" = some false; decide +kernel
  | .str, .none => by decide +kernel
  | .str, .bool _ => by show kitB "bool" "str" = some false; decide +kernel
  | .str, .int _ => by show kitB "int" "str" = some false; decide +kernel
  | .str, .str _ => by show kitB "str" "str" = some true; decide +kernel
  | .str, .list _ => by show kitB "list" "str" = some false; decide +kernel
  | .str, .tuple _ => by show kitB "tuple" "str" = some false; decide +kernel
  | .str, .dict _ => by show kitB "dict" "str" = some false; decide +kernel
  | .list, .none => by decide +kernel
  | .list, .bool _ => by show kitB "bool" "list" = some false; decide +kernel
  | .list, .int _ => by show kitB "int" "list" = some false; decide +kernel
  | .list, .str _ => by show kitB "str" "list" = some false; decide +kernel
  | .list, .list _ => by show kitB "list" "list" = some true; decide +kernel
  | .list, .tuple _ => by show kitB "tuple" "list" = some false; decide +kernel
  | .list, .dict _ => by show kitB "dict" "list" = some false; decide +kernel
  | .tuple, .none => by decide +kernel
  | .tuple, .bool _ => by show kitB "bool" "tuple" = some false; decide +kernel
  | .tuple, .int _ => by show kitB "int" "tuple" = some false; decide +kernel
  | .tuple, .str _ => by show kitB "str" "tuple" = some false; decide +kernel
  | .tuple, .list _ => by show kitB "list" "tuple" = some false; decide +kernel
  | .tuple, .tuple _ => by show kitB "tuple" "tuple" = some true; decide +kernel
  | .tuple, .dict _ => by show kitB "dict" "tuple" = some false; decide +kernel
  | .dict, .none => by decide +kernel
  | .dict, .bool _ => by show kitB "bool" "dict" = some false; decide +kernel
  | .dict, .int _ => by show kitB "int" "dict" = some false; decide +kernel
  | .dict, .str _ => by show kitB "str" "dict" = some false; decide +kernel
  | .dict, .list _ => by show kitB "list" "dict" = some false; decide +kernel
  | .dict, .tuple _ => by show kitB "tuple" "dict" = some false; decide +kernel
  | .dict, .dict _ => by show kitB "dict" "dict" = some true; decide +kernel

section
variable {K : PySem.W.Frag} {F H : Hp}
theorem Rep.tyX (s : Sub F H) {v : V} {d : D} (h : Rep K F v d) : TyX K H v (.type (kindS d)) := by
  cases h with
  | non => exact .base .non
  | bl b => exact .base (.bl b)
  | int i => exact .base (.int i)
  | str i => exact .base (.str i)
  | lst h t =>
    rcases h with (h | ⟨o, h⟩) | ⟨o, its, n, hk, hc, _⟩
    · exact .base (.lst (s _ _ h))
    · exact .base (.frz (s _ _ h))
    · exact .kList hk hc
  | tup h t =>
    rcases h with (h | ⟨o, h⟩) | ⟨o, its, n, hk, hc, _⟩
    · exact .base (.tup (s _ _ h))
    · exact .fTuple (s _ _ h)
    · exact .kTuple hk hc
  | dct h t => exact .base (.dK (s _ _ h))
  | dctT h t => exact .base (.dT (s _ _ h))
theorem Rep.tru (s : Sub F H) {v : V} {d : D} {b : Bool} (h : Rep K F v d) (e : truth d = some b) : TruV K v H b := by
  cases h with
  | non => cases e; rfl
  | bl _ => cases e; rfl
  | int i => cases e; rfl
  | str x =>
    have e : (if x.length ≤ line then some (x.length != 0) else none) = some b := e
    by_cases hz : x.length ≤ line
    · rw [if_pos hz] at e
      cases e
      refine ⟨by rw [← line_eq]; exact hz, ?_⟩
      by_cases h0 : x.length = 0
      · rw [h0]; rfl
      · have h1 : (x.length : Int) ≠ 0 := by omega
        rw [bne_iff_ne.mpr h0, bne_iff_ne.mpr h1]
    · rw [if_neg hz] at e
      cases e
  | lst h t =>
    cases e
    refine .inl ⟨_, SqL.sub s h, ?_⟩
    cases t <;> rfl
  | tup h t =>
    cases e
    refine .inr (.inl ⟨_, SqT.sub s h, ?_⟩)
    cases t <;> rfl
  | dct h t => cases e
  | dctT h t => cases e
end

inductive BK where
  | fn (id : String) | ty (T : String)
def bkOf : BI → BK × Str
  | .len => (.fn "len", "len")
  | .max => (.fn "max", "max")
  | .min => (.fn "min", "min")
  | .sum => (.fn "sum", "sum")
  | .all => (.fn "all", "all")
  | .any => (.fn "any", "any")
  | .list => (.ty "list", "list")
  | .tuple => (.ty "tuple", "tuple")
  | .sorted => (.fn "sorted", "sorted")
  | .int => (.ty "int", "int")
  | .repr => (.fn "repr", "repr")
  | .abs => (.fn "abs", "abs")
def BK.val : BK → Value
  | .fn id => .builtin id
  | .ty T => .type T
theorem bk_boot : ∀ f : BI, bootBuiltins (bkOf f).2 = some (bkOf f).1.val
  | .len => by decide +kernel
  | .max => by decide +kernel
  | .min => by decide +kernel
  | .sum => by decide +kernel
  | .all => by decide +kernel
  | .any => by decide +kernel
  | .list => by decide +kernel
  | .tuple => by decide +kernel
  | .sorted => by decide +kernel
  | .int => by decide +kernel
  | .repr => by decide +kernel
  | .abs => by decide +kernel

theorem RepAll.one {K : PySem.W.Frag} {F : Hp} {vs : List V} {d : D} (h : RepAll K F vs [d]) : ∃ v, vs = [v] ∧ Rep K F v d := by
  cases h with
  | cons h t => cases t; exact ⟨_, rfl, h⟩
theorem RepAll.two {K : PySem.W.Frag} {F : Hp} {vs : List V} {d e : D} (h : RepAll K F vs [d, e]) : ∃ v w, vs = [v, w] ∧ Rep K F v d ∧ Rep K F w e := by
  cases h with
  | cons h t =>
    obtain ⟨w, rfl, hw⟩ := RepAll.one t
    exact ⟨_, w, rfl, h, hw⟩

section
variable {X : Cx}
theorem cr_len : CallR X (.builtin "len") (RVs X.K (dBi .len)) := by
  intro pins s σ H xs us Q I r h
  obtain ⟨F, ds, dz, fr, sf, hx, e0, g⟩ := h
  have e : dLen ds = some (dz, fr) := e0
  clear e0
  unfold dLen at e
  split at e <;> first | (cases e; done) | skip
  all_goals obtain ⟨v, rfl, hv⟩ := hx.one
  · cases e
    obtain ⟨a, ys, rfl, hl, rl⟩ := hv.lst_inv
    exact call_len_seq pins s σ H _ us Q I r ⟨a, ys, rfl, .inl (SqL.sub sf hl), by rw [rl.length]; exact g.same sf (.int _)⟩
  · cases e
    obtain ⟨a, ys, rfl, hl, rl⟩ := hv.tup_inv
    exact call_len_seq pins s σ H _ us Q I r ⟨a, ys, rfl, .inr (SqT.sub sf hl), by rw [rl.length]; exact g.same sf (.int _)⟩
  · split at e
    · rename_i hz
      cases e
      cases hv
      exact call_len_str pins s σ H _ us Q I r ⟨_, rfl, by rw [← line_eq]; exact hz, g.same sf (.int _)⟩
    · cases e
theorem cr_maxD (hc : X.calm = true) : CallR X (.builtin "max") (RVs X.K (dBi .max)) := by
  intro pins s σ H xs us Q I r h
  obtain ⟨F, ds, dz, fr, sf, hx, e0, g⟩ := h
  have e : dMax ds = some (dz, fr) := e0
  clear e0
  unfold dMax at e
  split at e <;> first | (cases e; done) | skip
  · cases e
    obtain ⟨v, w, rfl, hv, hw⟩ := hx.two
    cases hv
    cases hw
    exact call_max2 hc pins s σ H _ us Q I r ⟨_, _, rfl, g.same sf (.int _)⟩
  · rename_i l
    obtain ⟨v, rfl, hv⟩ := hx.one
    obtain ⟨a, ys, rfl, hl, rl⟩ := hv.lst_inv
    cases en : intsOf l with
    | none => rw [en] at e; cases e
    | some ns =>
      rw [en] at e
      obtain ⟨rfl, -⟩ := rl.ints en
      cases ns with
      | nil => cases e
      | cons b t =>
        cases e
        refine cr_max hc pins s σ H _ us Q I r ⟨a, b :: t, rfl, SqL.sub sf hl, by simp, fun m hm hle => ?_⟩
        have h2 := maxL_mem t b
        have : m = maxL b t := Int.le_antisymm (h2.2 m hm) (hle _ h2.1)
        rw [this]
        exact g.same sf (.int _)
theorem cr_minD (hc : X.calm = true) : CallR X (.builtin "min") (RVs X.K (dBi .min)) := by
  intro pins s σ H xs us Q I r h
  obtain ⟨F, ds, dz, fr, sf, hx, e0, g⟩ := h
  have e : dMin ds = some (dz, fr) := e0
  clear e0
  unfold dMin at e
  split at e <;> first | (cases e; done) | skip
  · cases e
    obtain ⟨v, w, rfl, hv, hw⟩ := hx.two
    cases hv
    cases hw
    exact call_min2 hc pins s σ H _ us Q I r ⟨_, _, rfl, g.same sf (.int _)⟩
  · rename_i l
    obtain ⟨v, rfl, hv⟩ := hx.one
    obtain ⟨a, ys, rfl, hl, rl⟩ := hv.lst_inv
    cases en : intsOf l with
    | none => rw [en] at e; cases e
    | some ns =>
      rw [en] at e
      obtain ⟨rfl, -⟩ := rl.ints en
      cases ns with
      | nil => cases e
      | cons b t =>
        cases e
        refine cr_min hc pins s σ H _ us Q I r ⟨a, b :: t, rfl, SqL.sub sf hl, by simp, fun m hm hle => ?_⟩
        have h2 := minL_mem t b
        have : m = minL b t := Int.le_antisymm (hle _ h2.1) (h2.2 m hm)
        rw [this]
        exact g.same sf (.int _)
theorem cr_sumD (hc : X.calm = true) : CallR X (.builtin "sum") (RVs X.K (dBi .sum)) := by
  intro pins s σ H xs us Q I r h
  obtain ⟨F, ds, dz, fr, sf, hx, e0, g⟩ := h
  have e : dSum ds = some (dz, fr) := e0
  clear e0
  unfold dSum at e
  split at e <;> first | (cases e; done) | skip
  rename_i l
  obtain ⟨v, rfl, hv⟩ := hx.one
  obtain ⟨a, ys, rfl, hl, rl⟩ := hv.lst_inv
  cases en : intsOf l with
  | none => rw [en] at e; cases e
  | some ns =>
    rw [en] at e
    obtain ⟨rfl, -⟩ := rl.ints en
    cases e
    exact cr_sum hc pins s σ H _ us Q I r ⟨a, ns, rfl, SqL.sub sf hl, g.same sf (.int _)⟩
theorem cr_allD (hc : X.calm = true) : CallR X (.builtin "all") (RVs X.K (dBi .all)) := by
  intro pins s σ H xs us Q I r h
  obtain ⟨F, ds, dz, fr, sf, hx, e0, g⟩ := h
  have e : dAll ds = some (dz, fr) := e0
  clear e0
  unfold dAll at e
  split at e <;> first | (cases e; done) | skip
  rename_i l
  obtain ⟨v, rfl, hv⟩ := hx.one
  obtain ⟨a, ys, rfl, hl, rl⟩ := hv.lst_inv
  cases en : boolsOf l with
  | none => rw [en] at e; cases e
  | some ns =>
    rw [en] at e
    obtain rfl := rl.bools en
    cases e
    exact cr_all hc pins s σ H _ us Q I r ⟨a, ns, rfl, SqL.sub sf hl, g.same sf (.bl _)⟩
theorem cr_anyD (hc : X.calm = true) : CallR X (.builtin "any") (RVs X.K (dBi .any)) := by
  intro pins s σ H xs us Q I r h
  obtain ⟨F, ds, dz, fr, sf, hx, e0, g⟩ := h
  have e : dAny ds = some (dz, fr) := e0
  clear e0
  unfold dAny at e
  split at e <;> first | (cases e; done) | skip
  rename_i l
  obtain ⟨v, rfl, hv⟩ := hx.one
  obtain ⟨a, ys, rfl, hl, rl⟩ := hv.lst_inv
  cases en : boolsOf l with
  | none => rw [en] at e; cases e
  | some ns =>
    rw [en] at e
    obtain rfl := rl.bools en
    cases e
    exact cr_any hc pins s σ H _ us Q I r ⟨a, ns, rfl, SqL.sub sf hl, g.same sf (.bl _)⟩
theorem cr_listD : CallR X (.type "list") (RVs X.K (dBi .list)) := by
  intro pins s σ H xs us Q I r h
  obtain ⟨F, ds, dz, fr, sf, hx, e0, g⟩ := h
  have e : dList ds = some (dz, fr) := e0
  clear e0
  unfold dList at e
  split at e <;> first | (cases e; done) | skip
  all_goals obtain ⟨v, rfl, hv⟩ := hx.one
  · cases e
    obtain ⟨a, ys, rfl, hl, rl⟩ := hv.lst_inv
    exact call_list_of pins s σ H _ us Q I r ⟨a, ys, rfl, .inl (SqL.sub sf hl), fun p hp => g.list sf rl p hp⟩
  · cases e
    obtain ⟨a, ys, rfl, hl, rl⟩ := hv.tup_inv
    exact call_list_of pins s σ H _ us Q I r ⟨a, ys, rfl, .inr (SqT.sub sf hl), fun p hp => g.list sf rl p hp⟩
theorem cr_tupleD : CallR X (.type "tuple") (RVs X.K (dBi .tuple)) := by
  intro pins s σ H xs us Q I r h
  obtain ⟨F, ds, dz, fr, sf, hx, e0, g⟩ := h
  have e : dTuple ds = some (dz, fr) := e0
  clear e0
  unfold dTuple at e
  split at e <;> first | (cases e; done) | skip
  all_goals obtain ⟨v, rfl, hv⟩ := hx.one
  · cases e
    obtain ⟨a, ys, rfl, hl, rl⟩ := hv.lst_inv
    exact call_tuple_of pins s σ H _ us Q I r ⟨a, ys, rfl, .inl ⟨SqL.sub sf hl, fun p hp => g.tup sf rl p hp⟩⟩
  · cases e
    obtain ⟨a, ys, rfl, hl, rl⟩ := hv.tup_inv
    exact call_tuple_of pins s σ H _ us Q I r ⟨a, ys, rfl, .inr ⟨SqT.sub sf hl, g.same sf (.tup hl rl)⟩⟩
theorem cr_sortedD : CallR X (.builtin "sorted") (RVs X.K (dBi .sorted)) := by
  intro pins s σ H xs us Q I r h
  obtain ⟨F, ds, dz, fr, sf, hx, e0, g⟩ := h
  have e : dSorted ds = some (dz, fr) := e0
  clear e0
  unfold dSorted at e
  split at e <;> first | (cases e; done) | skip
  rename_i l
  obtain ⟨v, rfl, hv⟩ := hx.one
  obtain ⟨a, ys, rfl, hl, rl⟩ := hv.lst_inv
  cases en : intsOf l with
  | none => rw [en] at e; cases e
  | some ns =>
    rw [en] at e
    obtain ⟨rfl, -⟩ := rl.ints en
    cases e
    refine cr_sortedI pins s σ H _ us Q I r ⟨a, ns, rfl, SqL.sub sf hl, fun ns' p h1 h2 hp => ?_⟩
    have e1 : ns' = isort ns := sorted_unique (h1.trans (isort_perm ns).symm) h2 (isort_sorted ns)
    rw [e1]
    exact g.list sf (RepAll.of_ints _) p hp
theorem cr_intD : CallR X (.type "int") (RVs X.K (dBi .int)) := by
  intro pins s σ H xs us Q I r h
  obtain ⟨F, ds, dz, fr, sf, hx, e0, g⟩ := h
  have e : dInt ds = some (dz, fr) := e0
  clear e0
  unfold dInt at e
  split at e <;> first | (cases e; done) | skip
  all_goals obtain ⟨v, rfl, hv⟩ := hx.one
  · cases e
    cases hv
    exact call_int1 pins s σ H _ us Q I r (.inl ⟨_, rfl, g.same sf (.int _)⟩)
  · cases e
    cases hv
    exact call_int1 pins s σ H _ us Q I r (.inr ⟨_, rfl, g.same sf (.int _)⟩)
theorem cr_absD : CallR X (.builtin "abs") (RVs X.K (dBi .abs)) := by
  intro pins s σ H xs us Q I r h
  obtain ⟨F, ds, dz, fr, sf, hx, e0, g⟩ := h
  have e : dAbs ds = some (dz, fr) := e0
  clear e0
  unfold dAbs at e
  split at e <;> first | (cases e; done) | skip
  obtain ⟨v, rfl, hv⟩ := hx.one
  cases e
  cases hv
  exact call_abs pins s σ H _ us Q I r ⟨_, rfl, g.same sf (.int _)⟩
end
end TP

set_option Elab.async false
set_option linter.all false
set_option maxRecDepth 100000
/-! TP7: readings of expressions by trees. -/
namespace TP
open PySem PySem.Spec PyProof.Rows L2

section
variable (B : Bs) (Ph : Nat → List D → Rs)
def tEv (c : CE) : TE := fun σ H Q => ∃ F r, EnvOk B F H σ r ∧ ∃ d fr r', ev Ph c r = .ok d fr r' ∧ ∀ v F' H', EnvOk B F' H' σ r' → Grow F H σ r F' H' r' → ValOk B.K F' H' H v d fr → Q v H'
def tEp (c : CE) : TE := fun σ H Q => ∃ F r, EnvOk B F H σ r ∧ ∃ d fr r', ev Ph c r = .ok d fr r' ∧ ∀ v F' H', EnvOk B F' H' σ r' → Grow F H σ r F' H' r' → Rep B.K F' v d → Q v H'
def tTr (c : CE) : TT := fun σ H Q => ∃ F r, EnvOk B F H σ r ∧ ∃ d fr r' b, ev Ph c r = .ok d fr r' ∧ truth d = some b ∧ ∀ F' H', EnvOk B F' H' σ r' → Grow F H σ r F' H' r' → Q b H'
def tAs (c : CE) : TA := fun σ H Q => ∃ F r, EnvOk B F H σ r ∧ ∃ l fr r', ev Ph c r = .ok (.tuple l) fr r' ∧ ∀ vs F' H', EnvOk B F' H' σ r' → Grow F H σ r F' H' r' → RepAll B.K F' vs l → Q vs H'
/-- what an iterator gives: the trees l, one by one -/
def ItOk (K : PySem.W.Frag) (F : Hp) (J : It) (l : List D) : Prop :=
  (∀ i H, Sub F H → l.length ≤ i → J.stop i H) ∧ ∀ i H, Sub F H → i < l.length → J.go i H ∧ ∀ x H', J.yld i H x H' → ∃ d, l[i]? = some d ∧
    ((H' = H ∧ Rep K F x d) ∨ ∃ T xs ds, x = .ref T ∧ H T = none ∧ H' = upd H T (.tup xs) ∧ d = .tuple ds ∧ RepAll K F xs ds)
def tIt (c : CE) : TI := fun σ H R => ∃ F r, EnvOk B F H σ r ∧ ∃ l fr r', ev Ph c r = .ok (.list l) fr r' ∧ ∀ J F' H', EnvOk B F' H' σ r' → Grow F H σ r F' H' r' → l.length ≤ sizeLine → ItOk B.K F' J l → R J H'
end

theorem pe_mono {X : Cx} {e : Expr} {t t' : TE} (h : PE X e t) (m : ∀ σ H Q, t' σ H Q → t σ H Q) : PE X e t' := ⟨fun pins s σ H Q I q => h.run pins s σ H Q I (m σ H Q q)⟩
theorem pt_mono {X : Cx} {e : Expr} {t t' : TT} (h : PT X e t) (m : ∀ σ H Q, t' σ H Q → t σ H Q) : PT X e t' := ⟨fun pins s σ H Q I q => h.run pins s σ H Q I (m σ H Q q)⟩
theorem pa_mono {X : Cx} {e : List Expr} {t t' : TA} (h : PA X e t) (m : ∀ σ H Q, t' σ H Q → t σ H Q) : PA X e t' := ⟨fun pos pins s σ H Q I q => h.run pos pins s σ H Q I (m σ H Q q)⟩
theorem pi_mono {X : Cx} {tg e : Expr} {t t' : TI} (h : PI X tg e t) (m : ∀ σ H Q, t' σ H Q → t σ H Q) : PI X tg e t' := ⟨fun pins s σ H Q I q => h.run pins s σ H Q I (m σ H Q q)⟩

theorem Out.bind_ok {x : Out} {k : D → Ev → Out} {d : D} {fr : Bool} {r : Ev} (h : x.bind k = .ok d fr r) : ∃ d1 f1 r1, x = .ok d1 f1 r1 ∧ k d1 r1 = .ok d fr r := by
  cases x with
  | ok d1 f1 r1 => exact ⟨d1, f1, r1, rfl, h⟩
  | exc c fs r => cases h
  | stuck => cases h
theorem okO_ok {x : Option (D × Bool)} {r r' : Ev} {d : D} {fr : Bool} (h : okO x r = .ok d fr r') : x = some (d, fr) ∧ r' = r := by
  cases x with
  | none => cases h
  | some p => cases h; exact ⟨rfl, rfl⟩
theorem okD_ok {x : Option D} {r r' : Ev} {d : D} {fr : Bool} (h : okD x r = .ok d fr r') : x = some d ∧ fr = false ∧ r' = r := by
  cases x with
  | none => cases h
  | some p => cases h; exact ⟨rfl, rfl, rfl⟩
theorem okB_ok {x : Option Bool} {r r' : Ev} {d : D} {fr : Bool} (h : okB x r = .ok d fr r') : ∃ b, x = some b ∧ d = .bool b ∧ fr = false ∧ r' = r := by
  cases x with
  | none => cases h
  | some p => cases h; exact ⟨p, rfl, rfl, rfl, rfl⟩

section
variable {B : Bs} {Ph : Nat → List D → Rs} {X : Cx}
theorem ValOk.rep0 {K : PySem.W.Frag} {F' H' H : Hp} {v : V} {d : D} (r : Rep K F' v d) : ValOk K F' H' H v d false := by unfold ValOk; rw [if_neg (by decide)]; exact r
theorem ValOk.back {K : PySem.W.Frag} {F' H' H H0 : Hp} {v : V} {d : D} {fr : Bool} (h : ValOk K F' H' H v d fr) (n : ∀ a, H a = none → H0 a = none) : ValOk K F' H' H0 v d fr := by
  unfold ValOk at h ⊢
  cases fr with
  | false => rw [if_neg (by decide)] at h ⊢; exact h
  | true =>
    rw [if_pos rfl] at h ⊢
    obtain ⟨a, x, e1, e2, e3⟩ := h
    exact ⟨a, x, e1, n a e2, e3⟩
/-- what was made is given away -/
theorem pe_p {c : CE} {e : Expr} (h : PE X e (tEv B Ph c)) : PE X e (tEp B Ph c) := pe_mono h fun σ H Q ⟨F, r, E, d, fr, r', ee, q⟩ =>
  ⟨F, r, E, d, fr, r', ee, fun v F' H' E' G hv => by
    obtain ⟨F2, E2, G2, rv⟩ := hv.give E E' G
    exact q v F2 H' E2 G2 rv⟩
/-- an operation that gives a tree, behind what was reckoned -/
theorem Gives.of {F H F1 H1 : Hp} {σ : L2.St} {r r1 : Ev} {d : D} {fr : Bool} {Q : VK} (E : EnvOk B F1 H1 σ r1) (G : Grow F H σ r F1 H1 r1) (q : ∀ v F' H', EnvOk B F' H' σ r1 → Grow F H σ r F' H' r1 → ValOk B.K F' H' H v d fr → Q v H') :
    Gives B.K F1 H1 d fr Q := fun v F' H' gv hv => by
  obtain ⟨E2, G2⟩ := E.grow gv
  exact q v F' H' E2 (G.trans G2) (hv.back G.gd)

theorem pe_varT {i : Nat} {x : Str} {pos : Pos} (hN : X.N[i]? = some x) (hv : Vis X.env.scope x) (hd : (x == ("__debug__" : Str)) = false) (hcd : (x == ("__classdict__" : Str)) = false) : PE X (.Name x pos) (tEv B Ph (.var i)) :=
  pe_mono (pe_var hN hv hd hcd) fun σ H Q ⟨F, r, E, d, fr, r', ee, q⟩ => by
    simp only [ev] at ee
    obtain ⟨e1, rfl, rfl⟩ := okD_ok ee
    obtain ⟨v, ev', rv⟩ := E.pv i d e1
    exact ⟨v, ev', q v F H E Grow.refl (ValOk.rep0 rv)⟩
theorem pe_constT {v : V} {d : D} {e : Expr} (h : PE X e (tC v)) (hr : ∀ F, Rep B.K F v d) {c : CE} (hc : ∀ r, ev Ph c r = .ok d false r) : PE X e (tEv B Ph c) :=
  pe_mono h fun σ H Q ⟨F, r, E, d', fr, r', ee, q⟩ => by
    rw [hc] at ee
    cases ee
    exact q v F H E Grow.refl (ValOk.rep0 (hr F))
theorem pe_binT {o : BO} {a b : CE} {x y : Expr} {pos : Pos} (hK : B.K = X.K) (ha : PE X x (tEv B Ph a)) (hb : PE X y (tEv B Ph b)) : PE X (.BinOp x (opB o) y pos) (tEv B Ph (.bin o a b)) :=
  pe_mono (pe_op (or_bin o) (pe_p ha) (pe_p hb)) fun σ H Q ⟨F, r, E, d, fr, r', ee, q⟩ => by
    simp only [ev] at ee
    obtain ⟨d1, f1, r1, e1, ee⟩ := Out.bind_ok ee
    obtain ⟨d2, f2, r2, e2, ee⟩ := Out.bind_ok ee
    obtain ⟨e3, rfl⟩ := okO_ok ee
    refine ⟨F, r, E, d1, f1, r1, e1, fun v1 F1 H1 E1 G1 rv1 => ⟨F1, r1, E1, d2, f2, r', e2, fun v2 F2 H2 E2 G2 rv2 => ?_⟩⟩
    rw [← hK]
    exact ⟨F2, d1, d2, d, fr, E2.fle, rv1.mono G2.gf, rv2, e3, Gives.of E2 (G1.trans G2) q⟩
theorem pe_negT {a : CE} {x : Expr} {pos : Pos} (hK : B.K = X.K) (ha : PE X x (tEv B Ph a)) : PE X (.UnaryOp .USub x pos) (tEv B Ph (.neg a)) :=
  pe_mono (pe_un or_neg (pe_p ha)) fun σ H Q ⟨F, r, E, d, fr, r', ee, q⟩ => by
    simp only [ev] at ee
    obtain ⟨d1, f1, r1, e1, ee⟩ := Out.bind_ok ee
    obtain ⟨e3, rfl, rfl⟩ := okD_ok ee
    refine ⟨F, r, E, d1, f1, r', e1, fun v1 F1 H1 E1 G1 rv1 => ?_⟩
    rw [← hK]
    exact ⟨F1, d1, d, false, E1.fle, rv1, by unfold negB; rw [e3]; rfl, Gives.of E1 G1 q⟩
theorem pe_cmpT {k : Nat} {o : CO} {a b : CE} {x y : Expr} {pos : Pos} (hr : Room k X.A) (hK : B.K = X.K) (ha : PE X x (tEv B Ph a)) (hb : PE X y (tEv B Ph b)) (hm : behindInMarks (opC o) y = false) : PE X (.Compare x [opC o] [y] pos) (tEv B Ph (.cmp o a b)) :=
  pe_mono (pe_cmpR (or_cmp hr o) (pe_p ha) (pe_p hb) hm) fun σ H Q ⟨F, r, E, d, fr, r', ee, q⟩ => by
    simp only [ev] at ee
    obtain ⟨d1, f1, r1, e1, ee⟩ := Out.bind_ok ee
    obtain ⟨d2, f2, r2, e2, ee⟩ := Out.bind_ok ee
    obtain ⟨c, e3, rfl, rfl, rfl⟩ := okB_ok ee
    refine ⟨F, r, E, d1, f1, r1, e1, fun v1 F1 H1 E1 G1 rv1 => ⟨F1, r1, E1, d2, f2, r', e2, fun v2 F2 H2 E2 G2 rv2 => ?_⟩⟩
    rw [← hK]
    exact ⟨F2, d1, d2, _, false, E2.fle, rv1.mono G2.gf, rv2, by unfold cmpB; rw [e3]; rfl, Gives.of E2 (G1.trans G2) q⟩
theorem pe_idxT {a b : CE} {x y : Expr} {pos : Pos} (hK : B.K = X.K) (ha : PE X x (tEv B Ph a)) (hb : PE X y (tEv B Ph b)) (hs : PlainIx y) : PE X (.Subscript x y pos) (tEv B Ph (.idx a b)) :=
  pe_mono (pe_ix or_idx (pe_p ha) (pe_p hb) hs) fun σ H Q ⟨F, r, E, d, fr, r', ee, q⟩ => by
    simp only [ev] at ee
    obtain ⟨d1, f1, r1, e1, ee⟩ := Out.bind_ok ee
    obtain ⟨d2, f2, r2, e2, ee⟩ := Out.bind_ok ee
    obtain ⟨e3, rfl, rfl⟩ := okD_ok ee
    refine ⟨F, r, E, d1, f1, r1, e1, fun v1 F1 H1 E1 G1 rv1 => ⟨F1, r1, E1, d2, f2, r', e2, fun v2 F2 H2 E2 G2 rv2 => ?_⟩⟩
    rw [← hK]
    exact ⟨F2, d1, d2, _, false, E2.fle, rv1.mono G2.gf, rv2, by unfold idxB; rw [e3]; rfl, Gives.of E2 (G1.trans G2) q⟩
/-! ### argument lists and displays -/
theorem pa_nilT : PA X [] (tAs B Ph .nil) := pa_mono pa_nil fun σ H Q ⟨F, r, E, l, fr, r', ee, q⟩ => by
  simp only [ev] at ee
  cases ee
  exact q [] F H E Grow.refl .nil
theorem pa_consT {a b : CE} {x : Expr} {xs : List Expr} (ha : PE X x (tEv B Ph a)) (hb : PA X xs (tAs B Ph b)) (hs : starEach (x :: xs) X.env = (false, eval x X.env) :: starEach xs X.env) : PA X (x :: xs) (tAs B Ph (.cons a b)) :=
  pa_mono (pa_cons (pe_p ha) hb hs) fun σ H Q ⟨F, r, E, l, fr, r', ee, q⟩ => by
    simp only [ev] at ee
    obtain ⟨d1, f1, r1, e1, ee⟩ := Out.bind_ok ee
    obtain ⟨d2, f2, r2, e2, ee⟩ := Out.bind_ok ee
    split at ee
    · rename_i m
      cases ee
      exact ⟨F, r, E, d1, f1, r1, e1, fun v1 F1 H1 E1 G1 rv1 => ⟨F1, r1, E1, m, f2, r', e2, fun vs F2 H2 E2 G2 rv2 => q (v1 :: vs) F2 H2 E2 (G1.trans G2) (.cons (rv1.mono G2.gf) rv2)⟩⟩
    · cases ee
theorem pe_tupT {a : CE} {xs : List Expr} {k : Nat} {pos : Pos} (ha : PA X xs (tAs B Ph a)) : PE X (.Tuple xs k pos) (tEv B Ph (.tup a)) :=
  pe_mono (pe_tup ha) fun σ H Q ⟨F, r, E, d, fr, r', ee, q⟩ => by
    simp only [ev] at ee
    obtain ⟨d1, f1, r1, e1, ee⟩ := Out.bind_ok ee
    split at ee
    · rename_i l
      split at ee
      · rename_i hz
        cases ee
        refine ⟨F, r, E, l, f1, r', e1, fun vs F1 H1 E1 G1 rv1 => ⟨by rw [rv1.length, ← line_eq]; exact hz, fun p hp => ?_⟩⟩
        exact (Gives.of E1 G1 q).tup E1.fle rv1 p hp
      · cases ee
    · cases ee
theorem pe_lstT {a : CE} {xs : List Expr} {pos : Pos} (ha : PA X xs (tAs B Ph a)) : PE X (.List xs pos) (tEv B Ph (.lst a)) :=
  pe_mono (pe_lst ha) fun σ H Q ⟨F, r, E, d, fr, r', ee, q⟩ => by
    simp only [ev] at ee
    obtain ⟨d1, f1, r1, e1, ee⟩ := Out.bind_ok ee
    split at ee
    · rename_i l
      split at ee
      · rename_i hz
        cases ee
        refine ⟨F, r, E, l, f1, r', e1, fun vs F1 H1 E1 G1 rv1 => ⟨by rw [rv1.length, ← line_eq]; exact hz, fun p hp => ?_⟩⟩
        exact (Gives.of E1 G1 q).list E1.fle rv1 p hp
      · cases ee
    · cases ee
/-! ### and, or, not, a if t else b -/
theorem pt_of {c : CE} {e : Expr} (hK : B.K = X.K) (h : PE X e (tEv B Ph c)) (he : ∀ whole, isTrue e X.env whole = (do let v ← whole; standAt e.pos; holding [v] (truthy v))) : PT X e (tTr B Ph c) :=
  pt_mono (pt_truth (pe_p h) he) fun σ H Q ⟨F, r, E, d, fr, r', b, ee, et, q⟩ =>
    ⟨F, r, E, d, fr, r', ee, fun v F' H' E' G rv => ⟨b, by rw [← hK]; exact rv.tru E'.fle et, q F' H' E' G⟩⟩
theorem pe_notT' {a : CE} {x : Expr} {pos : Pos} (hK : B.K = X.K) (ha : PE X x (tEv B Ph a)) : PE X (.UnaryOp .Not x pos) (tEv B Ph (.not a)) :=
  pe_mono (pe_notT (pe_p ha)) fun σ H Q ⟨F, r, E, d, fr, r', ee, q⟩ => by
    simp only [ev] at ee
    obtain ⟨d1, f1, r1, e1, ee⟩ := Out.bind_ok ee
    obtain ⟨c, e3, rfl, rfl, rfl⟩ := okB_ok ee
    cases et : truth d1 with
    | none => rw [et] at e3; cases e3
    | some b =>
      rw [et] at e3
      cases e3
      exact ⟨F, r, E, d1, f1, r', e1, fun v1 F1 H1 E1 G1 rv1 => ⟨b, by rw [← hK]; exact rv1.tru E1.fle et, q _ F1 H1 E1 G1 (ValOk.rep0 (.bl _))⟩⟩
theorem pt_notT {a : CE} {x : Expr} {pos : Pos} (ha : PT X x (tTr B Ph a)) : PT X (.UnaryOp .Not x pos) (tTr B Ph (.not a)) :=
  pt_mono (pt_not ha) fun σ H Q ⟨F, r, E, d, fr, r', b, ee, et, q⟩ => by
    simp only [ev] at ee
    obtain ⟨d1, f1, r1, e1, ee⟩ := Out.bind_ok ee
    obtain ⟨c, e3, rfl, rfl, rfl⟩ := okB_ok ee
    cases et1 : truth d1 with
    | none => rw [et1] at e3; cases e3
    | some b1 =>
      rw [et1] at e3
      cases e3
      cases et
      exact ⟨F, r, E, d1, f1, r', b1, e1, et1, fun F1 H1 E1 G1 => q F1 H1 E1 G1⟩
theorem pe_andT' {a b : CE} {x y : Expr} {rest : List Expr} {pos : Pos} (hK : B.K = X.K) (ha : PE X x (tEv B Ph a)) (hb : PE X (.BoolOp .And (y :: rest) pos) (tEv B Ph b)) : PE X (.BoolOp .And (x :: y :: rest) pos) (tEv B Ph (.and a b)) :=
  pe_mono (pe_andT (pe_p ha) hb) fun σ H Q ⟨F, r, E, d, fr, r', ee, q⟩ => by
    simp only [ev] at ee
    obtain ⟨d1, f1, r1, e1, ee⟩ := Out.bind_ok ee
    refine ⟨F, r, E, d1, f1, r1, e1, fun v1 F1 H1 E1 G1 rv1 => ?_⟩
    rw [← hK]
    split at ee
    · rename_i et
      refine ⟨true, rv1.tru E1.fle et, ?_⟩
      refine iteT ?_
      exact ⟨F1, r1, E1, d, fr, r', ee, fun v F' H' E' G' hv => q v F' H' E' (G1.trans G') (hv.back G1.gd)⟩
    · rename_i et
      cases ee
      refine ⟨false, rv1.tru E1.fle et, ?_⟩
      refine iteF ?_
      exact q v1 F1 H1 E1 G1 (ValOk.rep0 rv1)
    · cases ee
theorem pe_orT' {a b : CE} {x y : Expr} {rest : List Expr} {pos : Pos} (hK : B.K = X.K) (ha : PE X x (tEv B Ph a)) (hb : PE X (.BoolOp .Or (y :: rest) pos) (tEv B Ph b)) : PE X (.BoolOp .Or (x :: y :: rest) pos) (tEv B Ph (.or a b)) :=
  pe_mono (pe_orT (pe_p ha) hb) fun σ H Q ⟨F, r, E, d, fr, r', ee, q⟩ => by
    simp only [ev] at ee
    obtain ⟨d1, f1, r1, e1, ee⟩ := Out.bind_ok ee
    refine ⟨F, r, E, d1, f1, r1, e1, fun v1 F1 H1 E1 G1 rv1 => ?_⟩
    rw [← hK]
    split at ee
    · rename_i et
      refine ⟨false, rv1.tru E1.fle et, ?_⟩
      refine iteF ?_
      exact ⟨F1, r1, E1, d, fr, r', ee, fun v F' H' E' G' hv => q v F' H' E' (G1.trans G') (hv.back G1.gd)⟩
    · rename_i et
      cases ee
      refine ⟨true, rv1.tru E1.fle et, ?_⟩
      refine iteT ?_
      exact q v1 F1 H1 E1 G1 (ValOk.rep0 rv1)
    · cases ee
theorem pw_andT {a b : CE} {x y : Expr} {rest : List Expr} {pos : Pos} (ha : PT X x (tTr B Ph a)) (hb : PW X (.BoolOp .And (y :: rest) pos) (tTr B Ph b)) : PW X (.BoolOp .And (x :: y :: rest) pos) (tTr B Ph (.and a b)) :=
  ⟨fun wh pins s σ H Q I h => (pw_and ha hb).run wh pins s σ H Q I (by
    obtain ⟨F, r, E, d, fr, r', bb, ee, et, q⟩ := h
    simp only [ev] at ee
    obtain ⟨d1, f1, r1, e1, ee⟩ := Out.bind_ok ee
    split at ee
    · rename_i et1
      refine ⟨F, r, E, d1, f1, r1, true, e1, et1, fun F1 H1 E1 G1 => ?_⟩
      refine iteT ?_
      exact ⟨F1, r1, E1, d, fr, r', bb, ee, et, fun F2 H2 E2 G2 => q F2 H2 E2 (G1.trans G2)⟩
    · rename_i et1
      cases ee
      refine ⟨F, r, E, d, f1, r', false, e1, et1, fun F1 H1 E1 G1 => ?_⟩
      refine iteF ?_
      rw [et1] at et
      cases et
      exact q F1 H1 E1 G1
    · cases ee)⟩
theorem pw_orT {a b : CE} {x y : Expr} {rest : List Expr} {pos : Pos} (ha : PT X x (tTr B Ph a)) (hb : PW X (.BoolOp .Or (y :: rest) pos) (tTr B Ph b)) : PW X (.BoolOp .Or (x :: y :: rest) pos) (tTr B Ph (.or a b)) :=
  ⟨fun wh pins s σ H Q I h => (pw_or ha hb).run wh pins s σ H Q I (by
    obtain ⟨F, r, E, d, fr, r', bb, ee, et, q⟩ := h
    simp only [ev] at ee
    obtain ⟨d1, f1, r1, e1, ee⟩ := Out.bind_ok ee
    split at ee
    · rename_i et1
      refine ⟨F, r, E, d1, f1, r1, false, e1, et1, fun F1 H1 E1 G1 => ?_⟩
      refine iteF ?_
      exact ⟨F1, r1, E1, d, fr, r', bb, ee, et, fun F2 H2 E2 G2 => q F2 H2 E2 (G1.trans G2)⟩
    · rename_i et1
      cases ee
      refine ⟨F, r, E, d, f1, r', true, e1, et1, fun F1 H1 E1 G1 => ?_⟩
      refine iteT ?_
      rw [et1] at et
      cases et
      exact q F1 H1 E1 G1
    · cases ee)⟩
theorem pw_lastA {a : CE} {x : Expr} {pos : Pos} (ha : PT X x (tTr B Ph a)) : PW X (.BoolOp .And [x] pos) (tTr B Ph a) := pw_and1 ha
theorem pw_lastO {a : CE} {x : Expr} {pos : Pos} (ha : PT X x (tTr B Ph a)) : PW X (.BoolOp .Or [x] pos) (tTr B Ph a) := pw_or1 ha
theorem pe_iteT {t a b : CE} {x y z : Expr} {pos : Pos} (ht : PT X z (tTr B Ph t)) (ha : PE X x (tEv B Ph a)) (hb : PE X y (tEv B Ph b)) : PE X (.IfExp z x y pos) (tEv B Ph (.ite t a b)) :=
  pe_mono (pe_ifExp ht ha hb) fun σ H Q ⟨F, r, E, d, fr, r', ee, q⟩ => by
    simp only [ev] at ee
    obtain ⟨d1, f1, r1, e1, ee⟩ := Out.bind_ok ee
    split at ee
    · rename_i et1
      refine ⟨F, r, E, d1, f1, r1, true, e1, et1, fun F1 H1 E1 G1 => ?_⟩
      refine iteT ?_
      exact ⟨F1, r1, E1, d, fr, r', ee, fun v F2 H2 E2 G2 hv => q v F2 H2 E2 (G1.trans G2) (hv.back G1.gd)⟩
    · rename_i et1
      refine ⟨F, r, E, d1, f1, r1, false, e1, et1, fun F1 H1 E1 G1 => ?_⟩
      refine iteF ?_
      exact ⟨F1, r1, E1, d, fr, r', ee, fun v F2 H2 E2 G2 hv => q v F2 H2 E2 (G1.trans G2) (hv.back G1.gd)⟩
    · cases ee
end
end TP

set_option Elab.async false
set_option linter.all false
set_option maxRecDepth 100000
/-! TP8a: defs' promises where the guards around are known (repr asks that). -/
namespace TP
open PySem PySem.Spec PyProof.Rows L2

/-- a def's promise, asked for where no guard runs -/
structure FnG (P : Program) (w : World) (K : PySem.W.Frag) (mg : Str → Option Value) (base : Heap) (Xt : CXT) (k : Nat) (f : Addr) (fd : FuncData) (ps : List Str) (sp : Sp) : Prop where
  len : ∀ vs H Q E, sp vs H Q E → vs.length = ps.length
  run : ∀ (A : Around) (outer : List Env) (s : Shared) (H : Hp) (args : Args) (us : List Value) (vs : List V) (Q : VK) (E : XK), A.guards = some [] → Room k A → Env0 P w K mg base A outer s H → BindsTo s fd args (ps.zip us) → Vals vs us → sp vs H Q E →
    codeAny (model P w) A (.call (.ref f) args) (CR Xt outer P w H s Q E) s
section
variable {X : Cx} {Xt : CXT} {k : Nat} {f : Addr} {fd : FuncData} {ps : List Str} {sp : Sp} {dvs : List V} {ds : List Value} {E : XK} {x : Str} {p pos : Pos} {e : Expr} {es : List Expr} {t : TA}
theorem runG {pins : List (Addr × Obj)} {σ : L2.St} {H : Hp} {s : Shared} {Q : VK} {us : List Value} {vs : List V} (F : FnG X.prog X.w X.K X.mg X.base Xt k f fd ps sp) (hg : X.A.guards = some []) (hr : Room k X.A) (hb : Binds X.K fd ps ds) (hd : Vals dvs ds) (hx : Passes Xt X E)
    (I : Inv X pins σ H s) (r : Vals vs us) (h : sp (vs ++ dvs) H Q E) : wpAny (model X.prog X.w) X.A (call (.ref f) us) (EP X pins σ Q) X.xe s := by
  have rr := r.append hd
  have hl := (rr.length.symm.trans (F.len _ _ _ _ h))
  refine wpAny_call (codeAny_mono (F.run X.A X.stack s H _ _ _ Q E hg hr I.env0 (hb s us I.kIn hl) rr h) fun res s' hq => ?_)
  rcases res with e | fl
  · exact hx pins σ H s e s' I hq
  · cases fl with
    | ret u => exact I.after hq
    | next => exact hq.elim
    | brk => exact hq.elim
    | cont => exact hq.elim
theorem pe_callG (F : FnG X.prog X.w X.K X.mg X.base Xt k f fd ps sp) (hA : X.A.guards = some []) (hr : Room k X.A) (hg : Gl X x) (hm : X.mg x = some (.ref f)) (hk : PySem.W.keepIn X.K (.ref f) = true) (hb : Binds X.K fd ps ds) (hd : Vals dvs ds) (hx : Passes Xt X E)
    (ha : PA X (e :: es) t) (hdb : (x == ("__debug__" : Str)) = false) (he : starEach (e :: es) X.env = (false, eval e X.env) :: starEach es X.env) (hpl : (backTo pos (starEach es X.env)).any (·.1) = false) :
    PE X (.Call (.Name x p) (e :: es) [] pos) (tCall sp dvs E t) :=
  ⟨fun pins s σ H Q I h => wpAny_Call_Name_kw (ld_glob I hg hm (PySem.W.callWith_K (h₀ := X.base) I.ok.mod.kin hk (thn (ha.run pos pins s σ H _ I h) fun us s1 ⟨vs, H1, I1, r, q⟩ => ⟨I1.kIn, runG F hA hr hb hd hx I1 r q⟩) he hpl) hdb)⟩
theorem pe_callG0 (F : FnG X.prog X.w X.K X.mg X.base Xt k f fd ps sp) (hA : X.A.guards = some []) (hr : Room k X.A) (hg : Gl X x) (hm : X.mg x = some (.ref f)) (hk : PySem.W.keepIn X.K (.ref f) = true) (hb : Binds X.K fd ps ds) (hd : Vals dvs ds) (hx : Passes Xt X E)
    (hdb : (x == ("__debug__" : Str)) = false) : PE X (.Call (.Name x p) [] [] pos) (tCall sp dvs E tNil) :=
  ⟨fun pins s σ H Q I h => wpAny_Call_Name_kw (ld_glob I hg hm (PySem.W.callWith_K0 I.kIn hk (runG (us := []) F hA hr hb hd hx I .nil h)) hdb)⟩
theorem pe_callGL {i : Nat} (F : FnG X.prog X.w X.K X.mg X.base Xt k f fd ps sp) (hA : X.A.guards = some []) (hr : Room k X.A) (hN : X.N[i]? = some x) (hv : Vis X.env.scope x) (hk : PySem.W.keepIn X.K (.ref f) = true) (hb : Binds X.K fd ps ds) (hd : Vals dvs ds) (hx : Passes Xt X E) (ha : PA X (e :: es) t)
    (hdb : (x == ("__debug__" : Str)) = false) (hcd : (x == ("__classdict__" : Str)) = false)
    (he : starEach (e :: es) X.env = (false, eval e X.env) :: starEach es X.env) (hpl : (backTo pos (starEach es X.env)).any (·.1) = false) : PE X (.Call (.Name x p) (e :: es) [] pos) (tCallL i f sp dvs E t) := by
  refine ⟨fun pins s σ H Q I ⟨hs, ht⟩ => ?_⟩
  refine wpAny_Call_Name_kw (thn ((pe_var (pos := p) hN hv hdb hcd).run pins s σ H (fun v H1 => v = .ref f ∧ H1 = H) I ⟨.ref f, hs, rfl, rfl⟩) fun u s1 ⟨v, H1, I1, r1, ev, eH⟩ => ?_)
  subst ev eH
  obtain rfl : u = Value.ref f := r1
  exact PySem.W.callWith_K (h₀ := X.base) I.ok.mod.kin hk (thn (ha.run pos pins s1 σ _ _ I1 ht) fun us s2 ⟨vs, H2, I2, r, q⟩ => ⟨I2.kIn, runG F hA hr hb hd hx I2 r q⟩) he hpl
end
/-- a def by its body -/
theorem okG {P : Program} {w : World} {K : PySem.W.Frag} {mg : Str → Option Value} {base : Heap} {x qual : Str} {params : Arguments} {body : List Stmt} {scope : Scope} {dvs : List V} {kws : List (Str × V)} {f : Addr} {fd : FuncData}
    {Xt : CXT} {N ps : List Str} {k : Nat} {sp : Sp} (F : FunD K x qual params body scope dvs kws f fd) (S : FnScope N ps scope) (len : ∀ vs H Q E, sp vs H Q E → vs.length = ps.length)
    (hbody : ∀ (cdv : Value) (A : Around) (outer : List Env) (s : Shared) (H : Hp) (vs : List V) (Q : VK) (E : XK), A.guards = some [] → Room k (A.deeper (envOfC qual scope s.heap.objs.size f cdv)) → sp vs H Q E →
      ∃ t, PSs (cxOf Xt P w K mg base N qual scope f cdv A outer s H E) body t ∧ t { nx := fun _ H' => Q .non H', rt := Q } (L2.start N vs) H) : FnG P w K mg base Xt (k + 1) f fd ps sp := by
  obtain ⟨oc, od, dV, kV, doc, pm, an, cdv, ct, osl, rfl, lk, hcd, _, _⟩ := F.ex
  refine ⟨len, fun A outer s H args us vs Q E hA hr e0 hb r hsp => ?_⟩
  have frag : K.In s.heap := e0.mod.kin.keeps fun b o e => (e0.bs b o e).1
  have limit : s.heap.NoLimit := e0.mod.nolimit.keeps fun b o e => (e0.bs b o e).1
  refine codeAny_call_function hr.depth (frag _ _ lk) rfl S.co S.gen rfl (PySem.W.codeRec_of frag hcd) (hb _ _ _ _ (wpAny_newFunctionEnv_cells S.kind (fun y hy => ?_) fun env he s1 x => ?_))
  · obtain ⟨n, v⟩ := y
    exact (S.par n (List.of_mem_zip hy).1).imp id fun q => ⟨q, PySem.W.cellsFrom_some _ _ _ (.inl q)⟩
  · subst he
    refine ⟨limit.keeps x.toInCall.keep, codeAny_func ?_⟩
    obtain ⟨t, ht, hq⟩ := hbody cdv A outer s H vs Q E hA (hr.deeper _) hsp
    refine wpAny_mono (ht.run [] s1 (L2.start N vs) H _ (inv_start S hr.hd e0 (len _ _ _ _ hsp) r x) hq) (fun fl s' hs => ?_) fun e s' hs => hs
    cases fl with
    | ret u =>
      obtain ⟨v, σ', H', J, rv, q⟩ := hs
      exact ⟨v, H', J.os, J.bare, J.base, J.hok, rv, q⟩
    | next =>
      obtain ⟨σ', H', J, q⟩ := hs
      exact ⟨V.non, H', J.os, J.bare, J.base, J.hok, rfl, q⟩
    | brk =>
      obtain ⟨_, _, _, q⟩ := hs
      exact q.elim
    | cont =>
      obtain ⟨_, _, _, q⟩ := hs
      exact q.elim
end TP

set_option Elab.async false
set_option linter.all false
set_option maxRecDepth 100000
/-! TP8b: the law's own call, by such a promise. -/
namespace TP
open PySem PySem.Spec PyProof.Rows L2
section
variable {P : Program} {w : World} {K : PySem.W.Frag} {mg mb : Str → Option Value} {k : Nat} {fa a : Addr} {fd : FuncData} {x : Str} {sp : Sp} {s₁ : Shared} {vs : List Value} {ns : List Int}
/-- with an abstract heap that holds nothing, or the script alone, as it is -/
theorem lawCore (KX : K.In s₁.heap) (hns : s₁.heap.Ns mainGlobals mg) (hb : s₁.heap.Ns builtinsNs mb) (hbb : ∀ x : Str, x ≠ "__name__" → mb x = bootBuiltins x) (hlim : s₁.heap.NoLimit) (hg : s₁.gens = #[])
    (ha : s₁.heap.get? a = some { cls := .type "list", data := .seq vs.toArray }) (hi : IntsAre vs ns) (hr : Room k callerA)
    (F : ∀ base : Heap, K.In base → base.Ns mainGlobals mg → FnG P w K mg base CX0 k fa fd [x] sp) (hbind : ∀ (s : Shared) (u : Value), BindsTo s fd ⟨[u], []⟩ [(x, u)])
    (hsp : ∀ H : Hp, Only H → SqL K H a (ns.map V.int) → sp [.ref a] H (fun v _ => v = .bl true) fun _ _ _ => False)
    {H : Hp} (hO : Only H) (hS : SqL K H a (ns.map V.int)) (hok : HOk P w H s₁.heap) (only : ∀ b, H b ≠ none → b = a) (outK : H a ≠ none → K.lookup a = none) :
    codeAny (model P w) callerA (.call (.ref fa) ⟨[.ref a], []⟩) (fun r s' => r = .ok (.ret (.bool true)) ∧ OldK s₁.heap s'.heap ∧ s'.os = s₁.os ∧ AllBare s'.gens) s₁ := by
  have free : ∀ {b : Addr}, b ≠ a → H b = none := fun {b} hne => Classical.byContradiction fun z => hne (only b z)
  have dictNe : ∀ {b : Addr} {o : Obj} {es : Array DictEntry} {ep : Nat}, s₁.heap.get? b = some o → o.data = .dict es ep → b ≠ a := fun {b o es ep} e d z => by
    subst z
    rw [ha] at e
    cases e
    exact nomatch (show Data.seq vs.toArray _ = Data.dict es ep from d)
  have ns' : ∀ {b : Addr} {m : Str → Option Value}, s₁.heap.Ns b m → (hidT s₁.heap H).Ns b m := fun {b m} ⟨o, es, ep, e, d, r⟩ => ⟨o, es, ep, hidT_get e (free (dictNe e d)), d, r⟩
  have inK : K.In (hidT s₁.heap H) := fun b o e => by
    refine hidT_get (KX b o e) (Classical.byContradiction fun z => ?_)
    have hba := only b z
    subst hba
    rw [outK z] at e
    cases e
  obtain ⟨mc, l1, l2⟩ := hlim
  have e0 : Env0 P w K mg (hidT s₁.heap H) callerA [] s₁ H :=
    ⟨rfl, ⟨inK, ns' hns, ⟨mb, ns' hb, hbb⟩, mc, ns' l1, l2⟩, fun b o e => of_hidT e, Nat.le_of_eq (hidT_size _ _), trivial, fun b z => absurd (show b ∈ ([] : List Addr) from z) (by simp), hok, .of_eq hg⟩
  refine codeAny_mono ((F _ inK (ns' hns)).run callerA [] s₁ H ⟨[.ref a], []⟩ [.ref a] [.ref a] _ _ rfl hr e0 (hbind s₁ (.ref a)) (.cons rfl .nil) (hsp H hO hS)) fun r s' h => ?_
  rcases r with e | fl
  · exact h.elim
  · cases fl with
    | next => exact h.elim
    | brk => exact h.elim
    | cont => exact h.elim
    | ret u =>
      obtain ⟨v, H', os, bare, un, hok', r', q⟩ := h
      obtain rfl : v = .bl true := q
      obtain rfl : u = Value.bool true := r'
      refine ⟨rfl, OldK.of_keep fun b o e => ?_, os, bare⟩
      rcases hO b with z | ⟨ob, xs, z⟩
      · exact un.keep b o e z (fun y => nomatch y) (fun y => nomatch y)
      · obtain ⟨e1, _⟩ := hok b _ z
        obtain ⟨e2, _⟩ := hok' b _ (un.frzs b ob _ z)
        rw [e1] at e
        cases e
        exact e2
theorem lawCallG (KX : K.In s₁.heap) (hns : s₁.heap.Ns mainGlobals mg) (hb : s₁.heap.Ns builtinsNs mb) (hbb : ∀ x : Str, x ≠ "__name__" → mb x = bootBuiltins x) (hlim : s₁.heap.NoLimit) (hg : s₁.gens = #[])
    (ha : s₁.heap.get? a = some { cls := .type "list", data := .seq vs.toArray }) (hi : IntsAre vs ns) (hl : ns.length ≤ sizeLine) (hr : Room k callerA)
    (F : ∀ base : Heap, K.In base → base.Ns mainGlobals mg → FnG P w K mg base CX0 k fa fd [x] sp) (hbind : ∀ (s : Shared) (u : Value), BindsTo s fd ⟨[u], []⟩ [(x, u)])
    (hsp : ∀ H : Hp, Only H → SqL K H a (ns.map V.int) → sp [.ref a] H (fun v _ => v = .bl true) fun _ _ _ => False) :
    codeAny (model P w) callerA (.call (.ref fa) ⟨[.ref a], []⟩) (fun r s' => r = .ok (.ret (.bool true)) ∧ OldK s₁.heap s'.heap ∧ s'.os = s₁.os ∧ AllBare s'.gens) s₁ := by
  have hv := vals_ints hi
  have hz : vs.toArray.size ≤ sizeLine := by rw [List.size_toArray, hi.length]; exact hl
  cases hk : K.lookup a with
  | some o =>
    have e := KX a o hk
    rw [ha] at e
    cases e
    refine lawCore (H := fun _ => none) KX hns hb hbb hlim hg ha hi hr F hbind hsp (fun _ => .inl rfl) (.inr ⟨_, vs.toArray, _, hk, rfl, rfl, rfl, hz, by simpa using hv⟩) (fun b u z => nomatch (show (none : Option HO) = some u from z)) (fun b z => absurd rfl z) fun z => absurd rfl z
  | none =>
    have at_ : ∀ b, (upd (fun _ => none) a (.frz { cls := .type "list", data := .seq vs.toArray } (.lst (ns.map V.int))) : Hp) b ≠ none → b = a := fun b z => Classical.byContradiction fun y => z (by rw [upd_ne y])
    refine lawCore (H := upd (fun _ => none) a (.frz { cls := .type "list", data := .seq vs.toArray } (.lst (ns.map V.int)))) KX hns hb hbb hlim hg ha hi hr F hbind hsp (fun b => ?_) (.inl (.inr ⟨_, upd_same⟩)) (fun b u z => ?_) at_ fun _ => hk
    · by_cases h : b = a
      · subst h; exact .inr ⟨_, _, upd_same⟩
      · exact .inl (by rw [upd_ne h])
    · have hba := at_ b (by rw [z]; exact Option.some_ne_none _)
      subst hba
      rw [upd_same] at z
      cases z
      exact ⟨ha, by rw [List.length_map]; exact hl, vs, _, hv, ha⟩
end
/-- the walk of a law's row, by such a promise -/
theorem walkG {l : PySem.W.OpenLaw} {n k : Nat} {q : Program} {loose : List Str} {XP : (Str → Option Value) → Heap → Prop} {YP : World → Heap → Prop} {d : DefRec} {x : Str}
    (hn : l.most = some n) (hn2 : n ≤ sizeLine) (hdf : d.params.defaults = []) (hr : Room k callerA)
    (F : ∀ (w : World) (mg : Str → Option Value) (fa : Addr) (h : Heap), YP w h → h.Ns mainGlobals mg → mg d.name = some (.ref fa) →
      ∃ (K : PySem.W.Frag) (fd : FuncData) (sp : Sp), K.In h ∧ (∀ (s : Shared) (u : Value), BindsTo s fd ⟨[u], []⟩ [(x, u)]) ∧
        (∀ (H : Hp) (a : Addr) (ns : List Int), ns.length ≤ n → Only H → SqL K H a (ns.map V.int) → sp [.ref a] H (fun v _ => v = .bl true) fun _ _ _ => False) ∧
        ∀ base : Heap, K.In base → base.Ns mainGlobals mg → FnG l.prog w K mg base CX0 k fa fd [x] sp) :
    PySem.W.WalkO q loose XP YP l.row.toRowW d [] (fun f vs => PySem.call f vs) := by
  refine Att.attach_call hn hdf fun w s₀ s₁ mg mb fa o pm cd doc a vs ns G Y ho hd hcd hmg hobj hints hlen hg => ?_
  obtain ⟨K, fd, sp, KX, hb, hsp, hF⟩ := F w mg fa _ Y G.T.g hmg
  exact lawCallG KX G.T.g G.T.b G.T.builtins G.T.nolimit hg hobj hints (Nat.le_trans hlen hn2) hr hF hb fun H hO hS => hsp H a ns hlen hO hS
end TP

set_option Elab.async false
set_option linter.all false
set_option maxRecDepth 100000
/-! TP8: calls, slices, iterators. -/
namespace TP
open PySem PySem.Spec PyProof.Rows L2

/-- the promise of the f-th def: what Ph tells -/
def spD (K : PySem.W.Frag) (Ph : Nat → List D → Rs) (f nP : Nat) (io : Bool) : Sp := fun vs H Q _ =>
  if io = true then ∃ (F : Hp) (a : Addr) (x : HO) (d0 : D) (vr : List V) (dr : List D) (d : D) (fr : Bool) (c : D), vs = .ref a :: vr ∧ Sub F H ∧ F a = none ∧ H a = some x ∧ OwnO K F x d0 ∧ RepAll K F vr dr ∧ dr.length + 1 = nP ∧ Ph f (d0 :: dr) = .ok d fr (some c) ∧
    ∀ v F' H' x', Sub F F' → Sub F' H' → (∀ b o, H b = some o → b ≠ a → H' b = some o) → (∀ b o, F' b = some o → F b = some o ∨ H b = none) → F' a = none → H' a = some x' → OwnO K F' x' c → ValOk K F' H' H v d fr → Q v H'
  else ∃ (F : Hp) (ds : List D) (d : D) (fr : Bool), Sub F H ∧ RepAll K F vs ds ∧ ds.length = nP ∧ Ph f ds = .ok d fr none ∧ Gives K F H d fr Q

/-- a def by its place in the table -/
structure FT where
  name : Str
  fd : FD
/-- what is known where a body runs -/
structure Ctx (X : Cx) (B : Bs) (Ph : Nat → List D → Rs) (T : List FT) (k : Nat) : Prop where
  xe : X.xe = fun _ _ => False
  calm : X.calm = true
  nd : X.N.Nodup
  room : Room k X.A
  gu : X.A.guards = some []
  hK : B.K = X.K
  bn : ∀ x : Str, x ∈ (["len", "max", "min", "sum", "all", "any", "list", "tuple", "sorted", "int", "abs", "isinstance", "range", "enumerate", "zip", "str", "bool", "dict", "set", "repr"] : List Str) → X.mg x = none
  fn : ∀ (f : Nat) (t : FT), T[f]? = some t → ∃ (a : Addr) (fdt : FuncData) (ps : List Str), X.mg t.name = some (.ref a) ∧ B.fa f = some a ∧ PySem.W.keepIn X.K (.ref a) = true ∧ Binds X.K fdt ps [] ∧
    FnG X.prog X.w X.K X.mg X.base CX0 k a fdt ps (spD X.K Ph f t.fd.nP t.fd.io)

section
variable {B : Bs} {Ph : Nat → List D → Rs} {X : Cx} {T : List FT} {k : Nat}
theorem pe_biT {f : BI} {es : CE} {x : Str} {p pos : Pos} {e : Expr} {l : List Expr} (hf : f ≠ .repr) (C : Ctx X B Ph T k) (hx : x = (bkOf f).2) (hg : Gl X x) (ha : PA X (e :: l) (tAs B Ph es))
    (he : starEach (e :: l) X.env = (false, eval e X.env) :: starEach l X.env) (hpl : (backTo pos (starEach l X.env)).any (·.1) = false) : PE X (.Call (.Name x p) (e :: l) [] pos) (tEv B Ph (.bi f es)) := by
  subst hx
  have step : PE X (.Call (.Name (bkOf f).2 p) (e :: l) [] pos) (tCB (RVs X.K (dBi f)) (tAs B Ph es)) := by
    cases f with
    | len => exact pe_callB cr_len hg (C.bn _ (by decide)) (bk_boot .len) ha (by decide) (by decide) he hpl
    | max => exact pe_callB (cr_maxD C.calm) hg (C.bn _ (by decide)) (bk_boot .max) ha (by decide) (by decide) he hpl
    | min => exact pe_callB (cr_minD C.calm) hg (C.bn _ (by decide)) (bk_boot .min) ha (by decide) (by decide) he hpl
    | sum => exact pe_callB (cr_sumD C.calm) hg (C.bn _ (by decide)) (bk_boot .sum) ha (by decide) (by decide) he hpl
    | all => exact pe_callB (cr_allD C.calm) hg (C.bn _ (by decide)) (bk_boot .all) ha (by decide) (by decide) he hpl
    | any => exact pe_callB (cr_anyD C.calm) hg (C.bn _ (by decide)) (bk_boot .any) ha (by decide) (by decide) he hpl
    | list => exact pe_callTy cr_listD hg (C.bn _ (by decide)) (bk_boot .list) ha (by decide) (by decide) he hpl
    | tuple => exact pe_callTy cr_tupleD hg (C.bn _ (by decide)) (bk_boot .tuple) ha (by decide) (by decide) he hpl
    | sorted => exact pe_callB cr_sortedD hg (C.bn _ (by decide)) (bk_boot .sorted) ha (by decide) (by decide) he hpl
    | int => exact pe_callTy cr_intD hg (C.bn _ (by decide)) (bk_boot .int) ha (by decide) (by decide) he hpl
    | abs => exact pe_callB cr_absD hg (C.bn _ (by decide)) (bk_boot .abs) ha (by decide) (by decide) he hpl
    | repr => exact absurd rfl hf
  refine pe_mono step fun σ H Q ⟨F, r, E, d, fr, r', ee, q⟩ => ?_
  simp only [ev] at ee
  obtain ⟨d1, f1, r1, e1, ee⟩ := Out.bind_ok ee
  split at ee
  · rename_i m
    obtain ⟨e3, rfl⟩ := okO_ok ee
    refine ⟨F, r, E, m, f1, r', e1, fun vs F1 H1 E1 G1 rv1 => ?_⟩
    rw [← C.hK]
    exact ⟨F1, m, d, fr, E1.fle, rv1, e3, Gives.of E1 G1 q⟩
  · cases ee
theorem ty_boot : ∀ T : TY, bootBuiltins (tyS T) = some (.type (tyS T))
  | .bool => by decide +kernel
  | .int => by decide +kernel
  | .str => by decide +kernel
  | .list => by decide +kernel
  | .tuple => by decide +kernel
  | .dict => by decide +kernel
theorem pe_isiT {T' : TY} {a : CE} {e : Expr} {x : Str} {p p2 pos : Pos} (C : Ctx X B Ph T k) (hx : x = tyS T') (hg : Gl X "isinstance") (hg2 : Gl X x) (ha : PE X e (tEv B Ph a))
    (he : starEach [e, .Name x p2] X.env = (false, eval e X.env) :: starEach [.Name x p2] X.env) : PE X (.Call (.Name "isinstance" p) [e, .Name x p2] [] pos) (tEv B Ph (.isi T' a)) := by
  subst hx
  have hT : PE X (.Name (tyS T') p2) (tC (.ty (tyS T'))) := by
    refine pe_bltn hg2 (C.bn _ (by cases T' <;> decide)) (ty_boot T') rfl ?_ ?_
    · cases T' <;> decide
    · cases T' <;> decide
  have step := pe_callB (p := p) (pos := pos) call_isi hg (C.bn _ (by decide)) (by decide +kernel) (pa_cons (pe_p ha) (pa_cons hT pa_nil rfl) he) (by decide) (by decide) he rfl
  refine pe_mono step fun σ H Q ⟨F, r, E, d, fr, r', ee, q⟩ => ?_
  simp only [ev] at ee
  obtain ⟨d1, f1, r1, e1, ee⟩ := Out.bind_ok ee
  cases ee
  refine ⟨F, r, E, d1, f1, r', e1, fun v F1 H1 E1 G1 rv1 => ?_⟩
  rw [← C.hK]
  exact ⟨v, .ty (tyS T'), _, _, isiD T' d1, rfl, .ty _, rv1.tyX E1.fle, kit_ty (kit_all T' d1), (Gives.of E1 G1 q).same E1.fle (.bl _)⟩
/-! ### calls of the program's defs -/
theorem pe_callT {f : Nat} {t : FT} {es : CE} {x : Str} {p pos : Pos} {e : Expr} {l : List Expr} (C : Ctx X B Ph T k) (ht : T[f]? = some t) (hx : x = t.name) (hio : t.fd.io = false) (hg : Gl X x) (ha : PA X (e :: l) (tAs B Ph es))
    (hdb : (x == ("__debug__" : Str)) = false) (hlen : ∀ r d fr r', ev Ph es r = .ok (.tuple d) fr r' → d.length = t.fd.nP)
    (he : starEach (e :: l) X.env = (false, eval e X.env) :: starEach l X.env) (hpl : (backTo pos (starEach l X.env)).any (·.1) = false) : PE X (.Call (.Name x p) (e :: l) [] pos) (tEv B Ph (.call f es)) := by
  subst hx
  obtain ⟨a, fdt, ps, h1, _, h3, h4, h5⟩ := C.fn f t ht
  refine pe_mono (pe_callG h5 C.gu C.room hg h1 h3 h4 .nil pass0 ha hdb he hpl) fun σ H Q ⟨F, r, E, d, fr, r', ee, q⟩ => ?_
  simp only [ev] at ee
  obtain ⟨d1, f1, r1, e1, ee⟩ := Out.bind_ok ee
  split at ee
  · rename_i m
    split at ee
    · rename_i d2 fr2 hp
      cases ee
      refine ⟨F, r, E, m, f1, r', e1, fun vs F1 H1 E1 G1 rv1 => ?_⟩
      show spD X.K Ph f t.fd.nP t.fd.io (vs ++ []) H1 Q E0
      unfold spD
      rw [hio, if_neg (by decide), List.append_nil, ← C.hK]
      exact ⟨F1, m, d, fr, E1.fle, rv1, hlen _ _ _ _ e1, hp, Gives.of E1 G1 q⟩
    · cases ee
    · cases ee
  · cases ee
theorem pe_call0T {f : Nat} {t : FT} {x : Str} {p pos : Pos} (C : Ctx X B Ph T k) (ht : T[f]? = some t) (hx : x = t.name) (hio : t.fd.io = false) (hnp : t.fd.nP = 0) (hg : Gl X x)
    (hdb : (x == ("__debug__" : Str)) = false) : PE X (.Call (.Name x p) [] [] pos) (tEv B Ph (.call f .nil)) := by
  subst hx
  obtain ⟨a, fdt, ps, h1, _, h3, h4, h5⟩ := C.fn f t ht
  refine pe_mono (pe_callG0 h5 C.gu C.room hg h1 h3 h4 .nil pass0 hdb) fun σ H Q ⟨F, r, E, d, fr, r', ee, q⟩ => ?_
  simp only [ev, Out.bind] at ee
  split at ee
  · rename_i d2 fr2 hp
    cases ee
    show spD X.K Ph f t.fd.nP t.fd.io ([] ++ []) H Q E0
    unfold spD
    rw [hio, if_neg (by decide), List.append_nil, ← C.hK]
    exact ⟨F, [], d, fr, E.fle, .nil, hnp.symm, hp, Gives.of E Grow.refl q⟩
  · cases ee
  · cases ee
/-- an own slot's object is another one -/
theorem EnvOk.putOwn {F H F' H' : Hp} {σ : L2.St} {r : Ev} {i : Nat} {d0 c : D} {a : Addr} {x' : HO} (E : EnvOk B F H σ r) (g : getO r i = some d0) (ea : σ[i]? = some (some (.ref a)))
    (s1 : Sub F F') (s2 : Sub F' H') (kp : ∀ b o, H b = some o → b ≠ a → H' b = some o) (fn : ∀ b o, F' b = some o → F b = some o ∨ H b = none) (fa : F' a = none) (hx : H' a = some x') (ow : OwnO B.K F' x' c) :
    EnvOk B F' H' σ (putO r i c) ∧ Grow F H σ r F' H' (putO r i c) := by
  have hi := getO_lt g
  obtain ⟨q1, x, q2, q3, q4⟩ := E.own_some g ea
  have hd : ∀ b, H' b = none → H b = none := fun b e => by
    cases z : H b with
    | none => rfl
    | some o =>
      by_cases h : b = a
      · subst h; rw [hx] at e; cases e
      · rw [kp b o z h] at e; cases e
  refine ⟨⟨by unfold putO; rw [List.length_set]; exact E.len, s2, fun j d gj => ?_, fun j d gj => ?_, fun j l b d e hne gj gl ej => ?_, fun j n ej => ?_, fun b o e nb => ?_, fun b e => E.dm b (hd b e), E.f0.trans s1, fun b o e => ?_, E.is⟩,
    ⟨s1, fun b o e nb => kp b o e fun z => nb i d0 g (z ▸ ea), fn, hd, fun j d gj => ?_, fun j d gj => ?_, by unfold putO; rw [List.length_set]⟩⟩
  · unfold putO at gj
    rw [getP_set] at gj
    split at gj
    · first | (cases gj; done) | (rw [if_pos hi] at gj; cases gj)
    · obtain ⟨v, e1, e2⟩ := E.pv j d gj
      exact ⟨v, e1, e2.mono s1⟩
  · unfold putO at gj
    rw [getO_set] at gj
    split at gj
    · rename_i hij
      subst hij
      first | cases gj | (rw [if_pos hi] at gj; cases gj)
      exact ⟨a, x', ea, fa, hx, ow, q4⟩
    · rename_i hij
      obtain ⟨b, y, e1, e2, e3, e4, e5⟩ := E.ow j d gj
      have hb : b ≠ a := fun z => E.ap i j a d0 d (fun w => hij w) g gj ea (z ▸ e1)
      refine ⟨b, y, e1, ?_, kp b y e3 hb, e4.mono s1, e5⟩
      cases z : F' b with
      | none => rfl
      | some o =>
        rcases fn b o z with w | w
        · rw [e2] at w; cases w
        · rw [e3] at w; cases w
  · have k1 : ∃ d', getO r j = some d' := by
      unfold putO at gj
      rw [getO_set] at gj
      split at gj
      · rename_i hij; subst hij; exact ⟨_, g⟩
      · exact ⟨_, gj⟩
    have k2 : ∃ d', getO r l = some d' := by
      unfold putO at gl
      rw [getO_set] at gl
      split at gl
      · rename_i hij; subst hij; exact ⟨_, g⟩
      · exact ⟨_, gl⟩
    obtain ⟨_, k1⟩ := k1
    obtain ⟨_, k2⟩ := k2
    exact E.ap j l b _ _ hne k1 k2 ej
  · unfold putO at ej
    by_cases hij : i = j
    · subst hij
      rw [List.getElem?_set_self hi] at ej
      cases ej
    · rw [List.getElem?_set_ne hij] at ej
      exact E.fn j n ej
  · have := E.fr b o e nb
    by_cases h : b = a
    · subst h
      rcases q4 with z | z
      · rw [z] at e; cases e
      · exact absurd z.1 nb
    · exact kp b o this h
  · rcases fn b o e with z | z
    · exact E.fn0 b o z
    · exact .inr (.inl (E.dm b z))
  · unfold putO at gj
    rw [getO_set] at gj
    split at gj
    · rename_i hij; subst hij; exact ⟨_, g⟩
    · exact ⟨_, gj⟩
  · unfold putO at gj
    rw [getP_set] at gj
    split at gj
    · first | (cases gj; done) | (rw [if_pos hi] at gj; cases gj)
    · exact gj
theorem pe_callMT {f i : Nat} {t : FT} {es : CE} {x n : Str} {p p2 pos : Pos} {l : List Expr} (C : Ctx X B Ph T k) (ht : T[f]? = some t) (hx : x = t.name) (hio : t.fd.io = true) (hg : Gl X x) (hN : X.N[i]? = some n) (hv : Vis X.env.scope n)
    (hd1 : (n == ("__debug__" : Str)) = false) (hcd : (n == ("__classdict__" : Str)) = false) (ha : PA X l (tAs B Ph es))
    (hdb : (x == ("__debug__" : Str)) = false) (hlen : ∀ r d fr r', ev Ph es r = .ok (.tuple d) fr r' → d.length + 1 = t.fd.nP)
    (hpl : (backTo pos (starEach l X.env)).any (·.1) = false) : PE X (.Call (.Name x p) (.Name n p2 :: l) [] pos) (tEv B Ph (.callM f i es)) := by
  subst hx
  obtain ⟨a, fdt, ps, h1, _, h3, h4, h5⟩ := C.fn f t ht
  refine pe_mono (pe_callG h5 C.gu C.room hg h1 h3 h4 .nil pass0 (pa_cons (pe_var hN hv hd1 hcd) ha rfl) hdb rfl hpl) fun σ H Q ⟨F, r, E, d, fr, r', ee, q⟩ => ?_
  simp only [ev] at ee
  split at ee
  · cases ee
  · rename_i c0 g0
    obtain ⟨d1, f1, r1, e1, ee⟩ := Out.bind_ok ee
    split at ee
    · rename_i m c gc
      split at ee
      · rename_i d2 fr2 c' hp
        cases ee
        obtain ⟨b, x, z1, z2, z3, z4, z5⟩ := E.ow i c0 g0
        refine ⟨.ref b, z1, F, r, E, m, f1, r1, e1, fun vs F1 H1 E1 G1 rv1 => ?_⟩
        obtain ⟨y2, y, y3, y4, _⟩ := E1.own_some gc z1
        show spD X.K Ph f t.fd.nP t.fd.io (V.ref b :: vs ++ []) H1 Q E0
        unfold spD
        rw [hio, if_pos rfl, List.append_nil, ← C.hK]
        refine ⟨F1, b, y, c, vs, m, d, fr, c', rfl, E1.fle, y2, y3, y4, rv1, hlen _ _ _ _ e1, hp, fun v F2 H2 x' w1 w2 w3 w4 w5 w6 w7 w8 => ?_⟩
        obtain ⟨E2, G2⟩ := E1.putOwn gc z1 w1 w2 w3 w4 w5 w6 w7
        exact q v F2 H2 E2 (G1.trans G2) (w8.back G1.gd)
      · cases ee
      · cases ee
    · cases ee
theorem pe_lenOT {i : Nat} {x n : Str} {p p2 pos : Pos} (C : Ctx X B Ph T k) (hx : x = "len") (hg : Gl X x) (hN : X.N[i]? = some n) (hv : Vis X.env.scope n)
    (hd1 : (n == ("__debug__" : Str)) = false) (hcd : (n == ("__classdict__" : Str)) = false) : PE X (.Call (.Name x p) [.Name n p2] [] pos) (tEv B Ph (.lenO i)) := by
  subst hx
  refine pe_mono (pe_callB call_len_seq hg (C.bn _ (by decide)) PySem.boot_len (pa_cons (pe_var hN hv hd1 hcd) pa_nil rfl) (by decide) (by decide) rfl rfl) fun σ H Q ⟨F, r, E, d, fr, r', ee, q⟩ => ?_
  simp only [ev] at ee
  split at ee
  · rename_i l g
    cases ee
    obtain ⟨a, x, z1, z2, z3, ⟨xs, rfl, rl⟩, z5⟩ := E.ow i _ g
    exact ⟨.ref a, z1, a, xs, rfl, .inl (.inl (.inl z3)), by rw [rl.length]; exact q _ F H E Grow.refl (ValOk.rep0 (.int _))⟩
  · cases ee
theorem pe_popT {i : Nat} {e : CE} {x : Expr} {n m : Str} {p p2 pos : Pos} (C : Ctx X B Ph T k) (hm : m = "pop") (hN : X.N[i]? = some n) (hv : Vis X.env.scope n)
    (hd1 : (n == ("__debug__" : Str)) = false) (hcd : (n == ("__classdict__" : Str)) = false) (ha : PE X x (tEv B Ph e)) (hs : starEach [x] X.env = (false, eval x X.env) :: starEach [] X.env) (hl : (p.endLine == pos.line) = true)
    (hfew : ((backTo pos (starEach [x] X.env)).all (fun x => !x.1) && (backToKw pos (keywordEach [] X.env)).all (fun x => x.1.isSome)
      && decide (([x] : List Expr).length + ([] : List Keyword).length + (if ([] : List Keyword).isEmpty then 0 else 1) < 30)) = true) : PE X (.Call (.Attribute (.Name n p2) m p) [x] [] pos) (tEv B Ph (.popO i e)) := by
  subst hm
  refine pe_mono (pe_bm PySem.F.plainAttrs_list PySem.F.slot_list_pop PySem.F.type_list_pop mt_popAt (pe_var hN hv hd1 hcd) (pa_cons (pe_p ha) pa_nil hs) rfl hfew hl hs rfl) fun σ H Q ⟨F, r, E, d, fr, r', ee, q⟩ => ?_
  simp only [ev] at ee
  split at ee
  · rename_i c0 g0
    obtain ⟨d1, f1, r1, e1, ee⟩ := Out.bind_ok ee
    split at ee
    · rename_i kk l gc
      split at ee
      · rename_i j hj
        split at ee
        · rename_i d2 hd2
          split at ee
          · rename_i hb
            cases ee
            obtain ⟨b, x, z1, z2, z3, ⟨xs0, rfl, _⟩, z5⟩ := E.ow i _ g0
            refine ⟨.ref b, z1, .inl ⟨rfl, xs0, .inl (.inl z3)⟩, F, r, E, _, f1, r1, e1, fun v F1 H1 E1 G1 rv1 => ?_⟩
            obtain ⟨y2, y, y3, y4, _⟩ := E1.own_some gc z1
            obtain ⟨xs, rfl, rl⟩ := y4
            cases rv1
            obtain ⟨w, hw, rw'⟩ := rl.get hd2
            obtain ⟨q1, q2, q3, q4⟩ := ixN_seq hj
            refine ⟨b, xs, kk, j, w, rfl, rfl, y3, by omega, by omega, by rw [rl.length]; exact q1, hw, ?_⟩
            obtain ⟨E2, G2⟩ := E1.putOwn gc z1 (Sub.refl _) (F' := F1) (H' := upd H1 b (.lst (xs.eraseIdx j))) (fun a o e => by
              by_cases h : a = b
              · subst h; rw [y2] at e; cases e
              · rw [upd_ne h]; exact E1.fle a o e) (fun a o e h => by rw [upd_ne h]; exact e) (fun a o e => .inl e) y2 upd_same (c := .list (l.eraseIdx j)) ⟨_, rfl, rl.erase j⟩
            exact q w F1 _ E2 (G1.trans G2) (ValOk.rep0 rw')
          · cases ee
        · cases ee
      · cases ee
    · cases ee
  · cases ee
/-! ### slices -/
def tPt (B : Bs) (Ph : Nat → List D → Rs) (c : CE) : TO := fun σ H Q => ∃ F r, EnvOk B F H σ r ∧ ∃ d fr r' p, ev Ph c r = .ok d fr r' ∧ dPart d = some p ∧ ∀ F' H', EnvOk B F' H' σ r' → Grow F H σ r F' H' r' → Q p H'
theorem po_mono {e : Option Expr} {t t' : TO} (h : PO X e t) (m : ∀ σ H Q, t' σ H Q → t σ H Q) : PO X e t' := ⟨fun pins s σ H Q I q => h.run pins s σ H Q I (m σ H Q q)⟩
theorem po_noneT : PO X none (tPt B Ph .none) := po_mono po_none fun σ H Q ⟨F, r, E, d, fr, r', p, ee, ep, q⟩ => by
  simp only [ev] at ee
  cases ee
  cases ep
  exact q F H E Grow.refl
theorem po_someT {c : CE} {e : Expr} (h : PE X e (tEv B Ph c)) (hn : ∀ r r' fr, ev Ph c r ≠ .ok .none fr r') : PO X (some e) (tPt B Ph c) := po_mono (po_some (pe_p h)) fun σ H Q ⟨F, r, E, d, fr, r', p, ee, ep, q⟩ => by
  refine ⟨F, r, E, d, fr, r', ee, fun v F' H' E' G rv => ?_⟩
  cases d <;> simp only [dPart] at ep <;> try (cases ep; done)
  · exact absurd ee (hn _ _ _)
  · cases ep
    cases rv
    exact ⟨_, rfl, q F' H' E' G⟩
theorem pe_sliT {a lo hi : CE} {x : Expr} {l h : Option Expr} {p2 pos : Pos} (hK : B.K = X.K) (ha : PE X x (tEv B Ph a)) (hl : PO X l (tPt B Ph lo)) (hh : PO X h (tPt B Ph hi)) : PE X (.Subscript x (.Slice l h none p2) pos) (tEv B Ph (.sli a lo hi)) :=
  pe_mono (pe_slice or_sli (pe_p ha) hl hh) fun σ H Q ⟨F, r, E, d, fr, r', ee, q⟩ => by
    simp only [ev] at ee
    obtain ⟨d1, f1, r1, e1, ee⟩ := Out.bind_ok ee
    obtain ⟨d2, f2, r2, e2, ee⟩ := Out.bind_ok ee
    obtain ⟨d3, f3, r3, e3, ee⟩ := Out.bind_ok ee
    split at ee
    · rename_i pl ph hl2 hh2
      obtain ⟨e4, rfl⟩ := okO_ok ee
      refine ⟨F, r, E, d1, f1, r1, e1, fun v1 F1 H1 E1 G1 rv1 => ⟨F1, r1, E1, d2, f2, r2, pl, e2, hl2, fun F2 H2 E2 G2 => ⟨F2, r2, E2, d3, f3, r', ph, e3, hh2, fun F3 H3 E3 G3 => ?_⟩⟩⟩
      rw [← hK]
      exact ⟨F3, d1, d, fr, E3.fle, rv1.mono (G2.gf.trans G3.gf), e4, Gives.of E3 ((G1.trans G2).trans G3) q⟩
    · cases ee
theorem pe_revT {a : CE} {x : Expr} {k : Nat} {p1 p2 p3 pos : Pos} (hK : B.K = X.K) (ha : PE X x (tEv B Ph a)) : PE X (.Subscript x (.Slice none none (some (.UnaryOp .USub (.Constant (.int 1) k p1) p2)) p3) pos) (tEv B Ph (.rev a)) :=
  pe_mono (pe_revL (pe_p ha)) fun σ H Q ⟨F, r, E, d, fr, r', ee, q⟩ => by
    simp only [ev] at ee
    obtain ⟨d1, f1, r1, e1, ee⟩ := Out.bind_ok ee
    obtain ⟨e3, rfl⟩ := okO_ok ee
    cases d1 <;> simp only [dRev] at e3 <;> try (cases e3; done)
    cases e3
    refine ⟨F, r, E, _, f1, r', e1, fun v1 F1 H1 E1 G1 rv1 => ?_⟩
    rw [← hK]
    obtain ⟨a, xs, rfl, hl, rl⟩ := rv1.lst_inv
    exact ⟨a, xs, rfl, SqL.sub E1.fle hl, fun p hp => (Gives.of E1 G1 q).list E1.fle rl.reverse p hp⟩
/-! ### a < b < c -/
theorem chain_core {o o' : CO} {a b c : CE} (hK : B.K = X.K) {σ : L2.St} {H : Hp} {Q : VK} (h : tEv B Ph (.chain o o' a b c) σ H Q) : tChain (RV2 X.K (cmpB o)) (RV2 X.K (cmpB o')) (tEp B Ph a) (tEp B Ph b) (tEp B Ph c) σ H Q := by
  obtain ⟨F, r, E, d, fr, r', ee, q⟩ := h
  simp only [ev] at ee
  obtain ⟨d1, f1, r1, e1, ee⟩ := Out.bind_ok ee
  obtain ⟨d2, f2, r2, e2, ee⟩ := Out.bind_ok ee
  refine ⟨F, r, E, d1, f1, r1, e1, fun v1 F1 H1 E1 G1 rv1 => ⟨F1, r1, E1, d2, f2, r2, e2, fun v2 F2 H2 E2 G2 rv2 => ?_⟩⟩
  rw [← hK]
  split at ee
  · rename_i hc
    obtain ⟨d3, f3, r3, e3, ee⟩ := Out.bind_ok ee
    obtain ⟨z, e4, rfl, rfl, rfl⟩ := okB_ok ee
    refine ⟨F2, d1, d2, .bool true, false, E2.fle, rv1.mono G2.gf, rv2, by unfold cmpB; rw [hc]; rfl, fun v F' H' gv hv => ?_⟩
    unfold ValOk at hv
    rw [if_neg (by decide)] at hv
    cases hv
    obtain ⟨E2', G2'⟩ := E2.grow gv
    refine ⟨true, rfl, ?_⟩
    refine iteT ?_
    refine ⟨F', r2, E2', d3, f3, r', e3, fun v3 F3 H3 E3 G3 rv3 => ?_⟩
    exact ⟨F3, d2, d3, .bool z, false, E3.fle, rv2.mono (gv.1.trans G3.gf), rv3, by unfold cmpB; rw [e4]; rfl, Gives.of E3 (((G1.trans G2).trans G2').trans G3) q⟩
  · rename_i hc
    cases ee
    refine ⟨F2, d1, d2, .bool false, false, E2.fle, rv1.mono G2.gf, rv2, by unfold cmpB; rw [hc]; rfl, fun v F' H' gv hv => ?_⟩
    unfold ValOk at hv
    rw [if_neg (by decide)] at hv
    cases hv
    obtain ⟨E2', G2'⟩ := E2.grow gv
    refine ⟨false, rfl, ?_⟩
    refine iteF ?_
    exact q (.bl false) F' H' E2' ((G1.trans G2).trans G2') (ValOk.rep0 (.bl _))
  · cases ee
theorem pe_chainT {o o' : CO} {a b c : CE} {x y z : Expr} {pos : Pos} (hr : Room k X.A) (hK : B.K = X.K) (ha : PE X x (tEv B Ph a)) (hb : PE X y (tEv B Ph b)) (hc : PE X z (tEv B Ph c)) (hm : lastMarks [opC o, opC o'] [y, z] = false) :
    PE X (.Compare x [opC o, opC o'] [y, z] pos) (tEv B Ph (.chain o o' a b c)) :=
  pe_mono (pe_chain (or_cmp hr o) (or_cmp hr o') (pe_p ha) (pe_p hb) (pe_p hc) hm) fun σ H Q h => chain_core hK h
theorem cmpB_bool {o : CO} {x y d : D} {fr : Bool} (h : cmpB o x y = some (d, fr)) : ∃ b, d = .bool b ∧ fr = false := by
  unfold cmpB at h
  cases e : dCmp o x y with
  | none => rw [e] at h; cases h
  | some b => rw [e] at h; cases h; exact ⟨b, rfl, rfl⟩
theorem chain_bool {o o' : CO} {a b c : CE} {r r' : Ev} {d : D} {fr : Bool} (h : ev Ph (.chain o o' a b c) r = .ok d fr r') : ∃ z, d = .bool z ∧ fr = false := by
  simp only [ev] at h
  obtain ⟨d1, f1, r1, e1, h⟩ := Out.bind_ok h
  obtain ⟨d2, f2, r2, e2, h⟩ := Out.bind_ok h
  split at h
  · obtain ⟨d3, f3, r3, e3, h⟩ := Out.bind_ok h
    obtain ⟨z, e4, rfl, rfl, rfl⟩ := okB_ok h
    exact ⟨z, rfl, rfl⟩
  · cases h; exact ⟨_, rfl, rfl⟩
  · cases h
theorem pt_chainT {o o' : CO} {a b c : CE} {x y z : Expr} {pos : Pos} (hr : Room k X.A) (hK : B.K = X.K) (ha : PE X x (tEv B Ph a)) (hb : PE X y (tEv B Ph b)) (hc : PE X z (tEv B Ph c)) (hm : lastMarks [opC o, opC o'] [y, z] = false) :
    PT X (.Compare x [opC o, opC o'] [y, z] pos) (tTr B Ph (.chain o o' a b c)) :=
  pt_mono (pt_chain (or_cmp hr o) (or_cmp hr o') (pe_p ha) (pe_p hb) (pe_p hc) hm) fun σ H Q ⟨F, r, E, d, fr, r', b, ee, et, q⟩ => by
    obtain ⟨z, rfl, rfl⟩ := chain_bool ee
    cases et
    show tChain _ _ _ _ _ σ H _
    refine chain_core hK ⟨F, r, E, _, _, r', ee, fun v F' H' E' G hv => ?_⟩
    unfold ValOk at hv
    rw [if_neg (by decide)] at hv
    cases hv
    exact ⟨_, rfl, q F' H' E' G⟩
theorem pt_cmpT {o : CO} {a b : CE} {x y : Expr} {pos : Pos} (hr : Room k X.A) (hK : B.K = X.K) (ha : PE X x (tEv B Ph a)) (hb : PE X y (tEv B Ph b)) (hm : behindInMarks (opC o) y = false) : PT X (.Compare x [opC o] [y] pos) (tTr B Ph (.cmp o a b)) :=
  pt_mono (pt_cmpR (or_cmp hr o) (pe_p ha) (pe_p hb) hm) fun σ H Q ⟨F, r, E, d, fr, r', bb, ee, et, q⟩ => by
    simp only [ev] at ee
    obtain ⟨d1, f1, r1, e1, ee⟩ := Out.bind_ok ee
    obtain ⟨d2, f2, r2, e2, ee⟩ := Out.bind_ok ee
    obtain ⟨c, e3, rfl, rfl, rfl⟩ := okB_ok ee
    cases et
    refine ⟨F, r, E, d1, f1, r1, e1, fun v1 F1 H1 E1 G1 rv1 => ⟨F1, r1, E1, d2, f2, r', e2, fun v2 F2 H2 E2 G2 rv2 => ?_⟩⟩
    rw [← hK]
    refine ⟨F2, d1, d2, _, false, E2.fle, rv1.mono G2.gf, rv2, by unfold cmpB; rw [e3]; rfl, Gives.of E2 (G1.trans G2) fun v F' H' E' G' hv => ?_⟩
    unfold ValOk at hv
    rw [if_neg (by decide)] at hv
    cases hv
    exact ⟨_, rfl, q F' H' E' G'⟩
end
end TP

set_option Elab.async false
set_option linter.all false
set_option maxRecDepth 100000
/-! TP9: what is walked. -/
namespace TP
open PySem PySem.Spec PyProof.Rows L2

/-- the list or tuple that x is isn't too long -/
def LenOk (K : PySem.W.Frag) (x : V) (H : Hp) : Prop := ∀ a xs, x = .ref a → (SqL K H a xs ∨ SqT K H a xs) → xs.length ≤ sizeLine
/-- .. nor two -/
def Inj (K : PySem.W.Frag) (x : V) (H : Hp) : Prop := ∀ a xs ys, x = .ref a → ((SqL K H a xs ∧ SqL K H a ys) ∨ (SqT K H a xs ∧ SqT K H a ys)) → xs = ys
theorem pe_len {X : Cx} {e : Expr} {t : TE} (h : PE X e t) : PE X e (fun σ H Q => t σ H fun x H1 => LenOk X.K x H1 → Q x H1) :=
  ⟨fun pins s σ H Q I q => thn (h.run pins s σ H _ I q) fun u s1 ⟨x, H1, I1, r1, q1⟩ => ⟨x, H1, I1, r1, q1 fun a xs _ z => z.elim (fun z => let ⟨_, _, _, n⟩ := I1.list z; n) fun z => let ⟨_, _, _, n⟩ := I1.tuple z; n⟩⟩

section
variable {K : PySem.W.Frag} {F : Hp}
theorem rngD_len (a b : Int) : (rangeD a b).length = (b - a).toNat := by unfold rangeD; rw [List.length_map, List.length_range]
theorem rngD_get {a b : Int} {i : Nat} (h : i < (rangeD a b).length) : (rangeD a b)[i]? = some (.int (a + (i : Nat))) := by
  rw [rngD_len] at h
  unfold rangeD
  rw [List.getElem?_map, List.getElem?_range h]
  rfl
theorem itok_list {a : Addr} {xs : List V} {l : List D} (h : SqL K F a xs) (r : RepAll K F xs l) : ItOk K F (Itl K a) l :=
  ⟨fun i H s hi => ⟨xs, SqL.sub s h, by rw [r.length]; exact hi⟩, fun i H s hi => by
    obtain ⟨d, hd⟩ : ∃ d, l[i]? = some d := ⟨_, List.getElem?_eq_getElem hi⟩
    obtain ⟨v, hv, rv⟩ := r.get hd
    refine ⟨⟨xs, v, SqL.sub s h, hv⟩, fun x H' hy => ⟨d, hd, .inl ⟨hy.1, ?_⟩⟩⟩
    have := hy.2 xs (SqL.sub s h)
    rw [hv] at this
    cases this
    exact rv⟩
theorem itok_tup {a : Addr} {xs : List V} {l : List D} (h : SqT K F a xs) (r : RepAll K F xs l) : ItOk K F (Itt K a) l :=
  ⟨fun i H s hi => ⟨xs, SqT.sub s h, by rw [r.length]; exact hi⟩, fun i H s hi => by
    obtain ⟨d, hd⟩ : ∃ d, l[i]? = some d := ⟨_, List.getElem?_eq_getElem hi⟩
    obtain ⟨v, hv, rv⟩ := r.get hd
    refine ⟨⟨xs, v, SqT.sub s h, hv⟩, fun x H' hy => ⟨d, hd, .inl ⟨hy.1, ?_⟩⟩⟩
    have := hy.2 xs (SqT.sub s h)
    rw [hv] at this
    cases this
    exact rv⟩
theorem itok_rng {a b : Int} : ItOk K F (Itr a (b - a).toNat) (rangeD a b) :=
  ⟨fun i H s hi => by rw [rngD_len] at hi; exact hi, fun i H s hi => by
    have hd := rngD_get hi
    rw [rngD_len] at hi
    refine ⟨hi, fun x H' hy => ⟨_, hd, .inl ⟨hy.1, ?_⟩⟩⟩
    rw [hy.2]
    exact .int _⟩
theorem enumD_len : ∀ (i : Nat) (l : List D), (enumD i l).length = l.length
  | _, [] => rfl
  | i, d :: r => congrArg (· + 1) (enumD_len (i + 1) r)
theorem enumD_get : ∀ (l : List D) (i j : Nat) {d : D}, l[j]? = some d → (enumD i l)[j]? = some (.tuple [.int ((i + j : Nat) : Int), d])
  | [], _, _, _, h => by simp at h
  | x :: r, i, 0, d, h => by simp at h; subst h; rfl
  | x :: r, i, j + 1, d, h => by
    have := enumD_get r (i + 1) j (d := d) (by simpa using h)
    show (enumD (i + 1) r)[j]? = _
    rw [this, show i + 1 + j = i + (j + 1) by omega]
theorem itok_enum {a : Addr} {xs : List V} {l : List D} (h : SqL K F a xs) (r : RepAll K F xs l) : ItOk K F (Ite K a) (enumD 0 l) :=
  ⟨fun i H s hi => ⟨xs, SqL.sub s h, by rw [r.length, ← enumD_len 0 l]; exact hi⟩, fun i H s hi => by
    rw [enumD_len] at hi
    obtain ⟨d, hd⟩ : ∃ d, l[i]? = some d := ⟨_, List.getElem?_eq_getElem hi⟩
    obtain ⟨v, hv, rv⟩ := r.get hd
    refine ⟨⟨xs, v, SqL.sub s h, hv⟩, fun x H' ⟨T, y, e1, e2, e3, e4⟩ => ⟨_, enumD_get l 0 i hd, .inr ⟨T, _, _, e1, e2, e3, rfl, ?_⟩⟩⟩
    have := e4 xs (SqL.sub s h)
    rw [hv] at this
    cases this
    rw [Nat.zero_add]
    exact .cons (.int _) (.cons rv .nil)⟩
theorem zipD_len : ∀ l m : List D, (zipD l m).length = min l.length m.length
  | [], _ => by simp [zipD]
  | _ :: _, [] => by simp [zipD]
  | a :: r, b :: t => by
    show (zipD r t).length + 1 = _
    rw [zipD_len r t, List.length_cons, List.length_cons]
    omega
theorem zipD_get : ∀ (l m : List D) (j : Nat) {d e : D}, l[j]? = some d → m[j]? = some e → (zipD l m)[j]? = some (.tuple [d, e])
  | [], _, _, _, _, h, _ => by simp at h
  | _ :: _, [], _, _, _, _, h => by simp at h
  | x :: r, y :: t, 0, d, e, h, h2 => by simp at h h2; subst h; subst h2; rfl
  | x :: r, y :: t, j + 1, d, e, h, h2 => zipD_get r t j (by simpa using h) (by simpa using h2)
theorem itok_zipL {a b : Addr} {xs ys : List V} {l m : List D} (h : SqL K F a xs) (r : RepAll K F xs l) (h2 : SqL K F b ys) (r2 : RepAll K F ys m) : ItOk K F (Itz K a b) (zipD l m) :=
  ⟨fun i H s hi => ⟨xs, ys, SqL.sub s h, SqL.sub s h2, by rw [zipD_len] at hi; rw [r.length, r2.length]; omega⟩, fun i H s hi => by
    rw [zipD_len] at hi
    obtain ⟨d, hd⟩ : ∃ d, l[i]? = some d := ⟨_, List.getElem?_eq_getElem (by omega)⟩
    obtain ⟨e, he⟩ : ∃ d, m[i]? = some d := ⟨_, List.getElem?_eq_getElem (by omega)⟩
    obtain ⟨v, hv, rv⟩ := r.get hd
    obtain ⟨w, hw, rw'⟩ := r2.get he
    refine ⟨⟨xs, ys, v, w, SqL.sub s h, SqL.sub s h2, hv, hw⟩, fun x H' ⟨T, y, z, e1, e2, e3, e4, e5⟩ => ⟨_, zipD_get l m i hd he, .inr ⟨T, _, _, e1, e2, e3, rfl, ?_⟩⟩⟩
    have q1 := e4 xs (SqL.sub s h)
    have q2 := e5 ys (SqL.sub s h2)
    rw [hv] at q1
    rw [hw] at q2
    cases q1
    cases q2
    exact .cons rv (.cons rw' .nil)⟩
theorem itok_zipT {a b : Addr} {xs ys : List V} {l m : List D} (h : SqT K F a xs) (r : RepAll K F xs l) (h2 : SqT K F b ys) (r2 : RepAll K F ys m) : ItOk K F (RZ.ItzT K a b) (zipD l m) :=
  ⟨fun i H s hi => ⟨xs, ys, SqT.sub s h, SqT.sub s h2, by rw [zipD_len] at hi; rw [r.length, r2.length]; omega⟩, fun i H s hi => by
    rw [zipD_len] at hi
    obtain ⟨d, hd⟩ : ∃ d, l[i]? = some d := ⟨_, List.getElem?_eq_getElem (by omega)⟩
    obtain ⟨e, he⟩ : ∃ d, m[i]? = some d := ⟨_, List.getElem?_eq_getElem (by omega)⟩
    obtain ⟨v, hv, rv⟩ := r.get hd
    obtain ⟨w, hw, rw'⟩ := r2.get he
    refine ⟨⟨xs, ys, v, w, SqT.sub s h, SqT.sub s h2, hv, hw⟩, fun x H' ⟨T, y, z, e1, e2, e3, e4, e5⟩ => ⟨_, zipD_get l m i hd he, .inr ⟨T, _, _, e1, e2, e3, rfl, ?_⟩⟩⟩
    have q1 := e4 xs (SqT.sub s h)
    have q2 := e5 ys (SqT.sub s h2)
    rw [hv] at q1
    rw [hw] at q2
    cases q1
    cases q2
    exact .cons rv (.cons rw' .nil)⟩
end

section
variable {B : Bs} {Ph : Nat → List D → Rs} {X : Cx} {T : List FT} {k : Nat} {tg : Expr}
theorem pi_seqT {c : CE} {e : Expr} (hK : B.K = X.K) (h : PE X e (tEv B Ph c)) : PI X tg e (tIt B Ph (.seq c)) := by
  refine ⟨fun pins s σ H R I hr => ?_⟩
  obtain ⟨F, r, E, l, fr, r', ee, q⟩ := hr
  simp only [ev] at ee
  obtain ⟨d1, f1, r1, e1, ee⟩ := Out.bind_ok ee
  split at ee
  · rename_i m hm
    cases ee
    cases d1 <;> simp only [seqD] at hm <;> try (cases hm; done)
    · cases hm
      refine (pi_list (pe_len (pe_p h))).run pins s σ H R I ?_
      refine ⟨F, r, E, _, f1, r', e1, fun v F1 H1 E1 G1 rv hl => ?_⟩
      rw [← hK] at hl ⊢
      obtain ⟨a, xs, rfl, hs, rs⟩ := rv.lst_inv
      have hs1 := SqL.sub E1.fle hs
      exact ⟨a, rfl, ⟨xs, hs1⟩, q _ F1 H1 E1 G1 (by rw [← rs.length]; exact hl a xs rfl (.inl hs1)) (itok_list hs rs)⟩
    · cases hm
      refine (pi_tup (pe_len (pe_p h))).run pins s σ H R I ?_
      refine ⟨F, r, E, _, f1, r', e1, fun v F1 H1 E1 G1 rv hl => ?_⟩
      rw [← hK] at hl ⊢
      obtain ⟨a, xs, rfl, hs, rs⟩ := rv.tup_inv
      have hs1 := SqT.sub E1.fle hs
      exact ⟨a, rfl, ⟨xs, hs1⟩, q _ F1 H1 E1 G1 (by rw [← rs.length]; exact hl a xs rfl (.inr hs1)) (itok_tup hs rs)⟩
  · cases ee
theorem pi_rng2T {a b : CE} {x : Str} {y z : Expr} {p pos : Pos} (C : Ctx X B Ph T k) (hx : x = "range") (hg : Gl X x) (ha : PE X y (tEv B Ph a)) (hb : PE X z (tEv B Ph b)) (hs : starEach [y, z] X.env = [(false, eval y X.env), (false, eval z X.env)]) (hs2 : starEach [z] X.env = [(false, eval z X.env)]) :
    PI X tg (.Call (.Name x p) [y, z] [] pos) (tIt B Ph (.rng a b)) := by
  subst hx
  refine pi_mono (pi_range2 hg (C.bn _ (by decide)) (pa_cons (pe_p ha) (pa_cons (pe_p hb) pa_nil (by rw [hs2]; rfl)) (by rw [hs, hs2])) hs hs2) fun σ H R ⟨F, r, E, l, fr, r', ee, q⟩ => ?_
  simp only [ev] at ee
  obtain ⟨d1, f1, r1, e1, ea⟩ := Out.bind_ok ee
  clear ee
  obtain ⟨d2, f2, r2, e2, ee⟩ := Out.bind_ok ea
  clear ea
  split at ee
  · split at ee
    · rename_i i j hb2
      cases ee
      simp only [Bool.and_eq_true, decide_eq_true_eq] at hb2
      refine ⟨F, r, E, _, f1, r1, e1, fun v1 F1 H1 E1 G1 rv1 => ⟨F1, r1, E1, _, f2, r', e2, fun v2 F2 H2 E2 G2 rv2 => ?_⟩⟩
      cases rv1
      cases rv2
      exact ⟨i, j, rfl, by omega, q _ F2 H2 E2 (G1.trans G2) (by rw [rngD_len, ← line_eq]; exact hb2.2) itok_rng⟩
    · cases ee
  · cases ee
theorem pi_rng1T {b : CE} {x : Str} {z : Expr} {p pos : Pos} (C : Ctx X B Ph T k) (hx : x = "range") (hg : Gl X x) (hb : PE X z (tEv B Ph b)) (hs2 : starEach [z] X.env = [(false, eval z X.env)]) :
    PI X tg (.Call (.Name x p) [z] [] pos) (tIt B Ph (.rng (.cst (.int 0)) b)) := by
  subst hx
  refine pi_mono (pi_range1 hg (C.bn _ (by decide)) (pa_cons (pe_p hb) pa_nil (by rw [hs2]; rfl)) hs2) fun σ H R ⟨F, r, E, l, fr, r', ee, q⟩ => ?_
  simp only [ev] at ee
  obtain ⟨d1, f1, r1, e1, ea⟩ := Out.bind_ok ee
  clear ee
  cases e1
  obtain ⟨d2, f2, r2, e2, ee⟩ := Out.bind_ok ea
  clear ea
  cases d2 <;> try (cases ee; done)
  rename_i i
  simp only at ee
  split at ee
  · rename_i hb2
    cases ee
    simp only [Bool.and_eq_true, decide_eq_true_eq] at hb2
    refine ⟨F, r, E, _, f2, r', e2, fun v2 F2 H2 E2 G2 rv2 => ?_⟩
    cases rv2
    have e3 : i.toNat = (i - 0).toNat := by rw [Int.sub_zero]
    refine ⟨i, rfl, by omega, by omega, ?_⟩
    rw [e3]
    exact q _ F2 H2 E2 G2 (by rw [rngD_len, ← line_eq]; exact hb2.2) itok_rng
  · cases ee
theorem pi_enumT {c : CE} {x : Str} {e : Expr} {elts : List Expr} {kk : Nat} {tpos p pos : Pos} (C : Ctx X B Ph T k) (hx : x = "enumerate") (hg : Gl X x) (h : PE X e (tEv B Ph c)) (hs : starEach [e] X.env = [(false, eval e X.env)]) :
    PI X (.Tuple elts kk tpos) (.Call (.Name x p) [e] [] pos) (tIt B Ph (.enum c)) := by
  subst hx
  refine pi_mono (pi_enum hg (C.bn _ (by decide)) (pa_cons (pe_len (pe_p h)) pa_nil (by rw [hs]; rfl)) hs) fun σ H R ⟨F, r, E, l, fr, r', ee, q⟩ => ?_
  simp only [ev] at ee
  obtain ⟨d1, f1, r1, e1, ee⟩ := Out.bind_ok ee
  split at ee
  · rename_i m
    cases ee
    refine ⟨F, r, E, _, f1, r', e1, fun v F1 H1 E1 G1 rv hl => ?_⟩
    rw [← C.hK] at hl ⊢
    obtain ⟨a, xs, rfl, hs, rs⟩ := rv.lst_inv
    have hs1 := SqL.sub E1.fle hs
    exact ⟨a, xs, rfl, hs1, q _ F1 H1 E1 G1 (by rw [enumD_len, ← rs.length]; exact hl a xs rfl (.inl hs1)) (itok_enum hs rs)⟩
  · cases ee
theorem pi_zipT {a b : CE} {x : Str} {y z : Expr} {elts : List Expr} {kk : Nat} {tpos p pos : Pos} (C : Ctx X B Ph T k) (hx : x = "zip") (hg : Gl X x) (ha : PE X y (tEv B Ph a)) (hb : PE X z (tEv B Ph b)) (hs : starEach [y, z] X.env = (false, eval y X.env) :: starEach [z] X.env) (hs2 : starEach [z] X.env = [(false, eval z X.env)]) :
    PI X (.Tuple elts kk tpos) (.Call (.Name x p) [y, z] [] pos) (tIt B Ph (.zip a b)) := by
  subst hx
  refine pi_mono (RZ.pi_zipA hg (C.bn _ (by decide)) (pa_cons (pe_len (pe_p ha)) (pa_cons (pe_len (pe_p hb)) pa_nil (by rw [hs2]; rfl)) hs) hs (by rw [hs2]; rfl)) fun σ H R ⟨F, r, E, l, fr, r', ee, q⟩ => ?_
  simp only [ev] at ee
  obtain ⟨d1, f1, r1, e1, ea⟩ := Out.bind_ok ee
  clear ee
  obtain ⟨d2, f2, r2, e2, ee⟩ := Out.bind_ok ea
  clear ea
  split at ee
  · rename_i l m
    cases ee
    refine ⟨F, r, E, _, f1, r1, e1, fun v F1 H1 E1 G1 rv hl => ⟨F1, r1, E1, _, f2, r', e2, fun w F2 H2 E2 G2 rw' hm => ?_⟩⟩
    rw [← C.hK] at hl hm ⊢
    obtain ⟨a, xs, rfl, ha, ra⟩ := rv.lst_inv
    obtain ⟨b, ys, rfl, hb, rb⟩ := rw'.lst_inv
    have ha2 := SqL.sub G2.gf ha
    exact ⟨a, b, xs, ys, rfl, .inl ⟨SqL.sub E2.fle ha2, SqL.sub E2.fle hb, q _ F2 H2 E2 (G1.trans G2) (by
      have := hl a xs rfl (.inl (SqL.sub E1.fle ha))
      rw [zipD_len, ← ra.length]
      omega) (itok_zipL ha2 (ra.mono G2.gf) hb rb)⟩⟩
  · rename_i l m
    cases ee
    refine ⟨F, r, E, _, f1, r1, e1, fun v F1 H1 E1 G1 rv hl => ⟨F1, r1, E1, _, f2, r', e2, fun w F2 H2 E2 G2 rw' hm => ?_⟩⟩
    rw [← C.hK] at hl hm ⊢
    obtain ⟨a, xs, rfl, ha, ra⟩ := rv.tup_inv
    obtain ⟨b, ys, rfl, hb, rb⟩ := rw'.tup_inv
    have ha2 := SqT.sub G2.gf ha
    exact ⟨a, b, xs, ys, rfl, .inr ⟨SqT.sub E2.fle ha2, SqT.sub E2.fle hb, q _ F2 H2 E2 (G1.trans G2) (by
      have := hl a xs rfl (.inr (SqT.sub E1.fle ha))
      rw [zipD_len, ← ra.length]
      omega) (itok_zipT ha2 (ra.mono G2.gf) hb rb)⟩⟩
  · cases ee
/-- list(range(a, b)) -/
theorem rgV_rep {K : PySem.W.Frag} {F : Hp} (a b : Int) : RepAll K F (rgV a b) (rangeD a b) := by
  unfold rgV rangeD
  generalize List.range (b - a).toNat = l
  induction l with
  | nil => exact .nil
  | cons x r ih => exact .cons (.int _) ih
theorem pe_lrng2T {a b : CE} {x x2 : Str} {y z : Expr} {p p2 pos pos2 : Pos} (C : Ctx X B Ph T k) (hx : x = "list") (hx2 : x2 = "range") (hg : Gl X x) (hg2 : Gl X x2) (ha : PE X y (tEv B Ph a)) (hb : PE X z (tEv B Ph b))
    (na : starEach [y, z] X.env = (false, eval y X.env) :: starEach [z] X.env) (nb : starEach [z] X.env = (false, eval z X.env) :: starEach [] X.env) :
    PE X (.Call (.Name x p) [.Call (.Name x2 p2) [y, z] [] pos2] [] pos) (tEv B Ph (.lrng a b)) := by
  subst hx
  subst hx2
  refine pe_mono (pe_listRg C.calm hg (C.bn _ (by decide)) (prg_2 hg2 (C.bn _ (by decide)) (pe_p ha) (pe_p hb) na nb (by rw [nb]; rfl)) rfl) fun σ H Q ⟨F, r, E, d, fr, r', ee, q⟩ => ?_
  simp only [ev] at ee
  obtain ⟨d1, f1, r1, e1, ea⟩ := Out.bind_ok ee
  clear ee
  obtain ⟨d2, f2, r2, e2, ee⟩ := Out.bind_ok ea
  clear ea
  split at ee
  · split at ee
    · rename_i i j hb2
      cases ee
      simp only [Bool.and_eq_true, decide_eq_true_eq] at hb2
      refine ⟨F, r, E, _, f1, r1, e1, fun v1 F1 H1 E1 G1 rv1 => ⟨F1, r1, E1, _, f2, r', e2, fun v2 F2 H2 E2 G2 rv2 => ?_⟩⟩
      cases rv1
      cases rv2
      have hl : (j - i).toNat ≤ 16777216 := hb2.2
      exact ⟨i, j, rfl, rfl, ⟨by omega, by omega, by omega, by omega, by omega⟩, fun p hp => (Gives.of E2 (G1.trans G2) q).list E2.fle (rgV_rep i j) p hp⟩
    · cases ee
  · cases ee
theorem pe_lrng1T {b : CE} {x x2 : Str} {z : Expr} {p p2 pos pos2 : Pos} (C : Ctx X B Ph T k) (hx : x = "list") (hx2 : x2 = "range") (hg : Gl X x) (hg2 : Gl X x2) (hb : PE X z (tEv B Ph b))
    (nb : starEach [z] X.env = (false, eval z X.env) :: starEach [] X.env) :
    PE X (.Call (.Name x p) [.Call (.Name x2 p2) [z] [] pos2] [] pos) (tEv B Ph (.lrng (.cst (.int 0)) b)) := by
  subst hx
  subst hx2
  refine pe_mono (pe_listRg C.calm hg (C.bn _ (by decide)) (prg_1 hg2 (C.bn _ (by decide)) (pe_p hb) nb) rfl) fun σ H Q ⟨F, r, E, d, fr, r', ee, q⟩ => ?_
  simp only [ev] at ee
  obtain ⟨d1, f1, r1, e1, ea⟩ := Out.bind_ok ee
  clear ee
  cases e1
  obtain ⟨d2, f2, r2, e2, ee⟩ := Out.bind_ok ea
  clear ea
  cases d2 <;> try (cases ee; done)
  rename_i i
  simp only at ee
  split at ee
  · rename_i hb2
    cases ee
    simp only [Bool.and_eq_true, decide_eq_true_eq] at hb2
    refine ⟨F, r, E, _, f2, r', e2, fun v2 F2 H2 E2 G2 rv2 => ?_⟩
    cases rv2
    have hl : (i - 0).toNat ≤ 16777216 := hb2.2
    exact ⟨i, rfl, ⟨by omega, by omega, by omega, by omega, by omega⟩, fun p hp => (Gives.of E2 G2 q).list E2.fle (rgV_rep 0 i) p hp⟩
  · cases ee
end
end TP

set_option Elab.async false
set_option linter.all false
set_option maxRecDepth 100000
/-! TP10: targets, comprehensions. -/
namespace TP
open PySem PySem.Spec PyProof.Rows L2

/-- the slots that a target sets -/
def CT.slots : CT → List Nat
  | .nm i => [i]
  | .nil => []
  | .cons t r => t.slots ++ r.slots
def Off (ss : List Nat) (σ σ' : L2.St) : Prop := σ'.length = σ.length ∧ ∀ j, j ∉ ss → σ'[j]? = σ[j]?
section
variable {B : Bs} {F H : Hp} {σ : L2.St} {r : Ev}
/-- a slot is set to a tree -/
theorem EnvOk.setP (E : EnvOk B F H σ r) {i : Nat} {v : V} {d : D} (rv : Rep B.K F v d) (hio : B.io = [] ∨ i ≠ 0) : EnvOk B F H (σ.set i (some v)) (putP r i d) where
  len := by unfold putP; rw [List.length_set, List.length_set]; exact E.len
  fle := E.fle
  pv := fun j e g => by
    unfold putP at g
    rw [getP_set] at g
    by_cases hij : i = j
    · subst hij
      rw [if_pos rfl] at g
      by_cases hi : i < r.length
      · rw [if_pos hi] at g
        cases g
        exact ⟨v, List.getElem?_set_self (by rw [E.len]; exact hi), rv⟩
      · rw [if_neg hi] at g
        cases g
    · rw [if_neg hij] at g
      rw [List.getElem?_set_ne hij]
      exact E.pv j e g
  ow := fun j e g => by
    unfold putP at g
    rw [getO_set] at g
    by_cases hij : i = j
    · subst hij
      rw [if_pos rfl] at g
      by_cases hi : i < r.length
      · rw [if_pos hi] at g
        cases g
      · rw [if_neg hi] at g
        cases g
    · rw [if_neg hij] at g
      rw [List.getElem?_set_ne hij]
      exact E.ow j e g
  ap := fun j l a e f hne gj gl ej => by
    unfold putP at gj gl
    rw [getO_set] at gj gl
    by_cases hij : i = j
    · subst hij
      rw [if_pos rfl] at gj
      by_cases hi : i < r.length
      · rw [if_pos hi] at gj
        cases gj
      · rw [if_neg hi] at gj
        cases gj
    · by_cases hil : i = l
      · subst hil
        rw [if_pos rfl] at gl
        by_cases hi : i < r.length
        · rw [if_pos hi] at gl
          cases gl
        · rw [if_neg hi] at gl
          cases gl
      · rw [if_neg hij] at gj
        rw [if_neg hil] at gl
        rw [List.getElem?_set_ne hij] at ej
        rw [List.getElem?_set_ne hil]
        exact E.ap j l a e f hne gj gl ej
  fn := fun j n e => by
    unfold putP at e
    by_cases hij : i = j
    · subst hij
      by_cases hi : i < r.length
      · rw [List.getElem?_set_self hi] at e
        cases e
      · rw [List.getElem?_eq_none (by rw [List.length_set]; omega)] at e
        cases e
    · rw [List.getElem?_set_ne hij] at e ⊢
      exact E.fn j n e
  fr := E.fr
  dm := E.dm
  f0 := E.f0
  fn0 := E.fn0
  is := fun a ha => by
    rcases hio with h | h
    · rw [h] at ha; cases ha
    · rw [List.getElem?_set_ne h]
      exact E.is a ha
end

/-- a target is set -/
def gT (B : Bs) (t : CT) : TG := fun v σ H Q => ∃ F r d r', EnvOk B F H σ r ∧ Rep B.K F v d ∧ bindT t d r = some r' ∧ ∀ σ', EnvOk B F H σ' r' → Off t.slots σ σ' → Q σ' H
def gTs (B : Bs) (t : CT) : TGs := fun vs σ H Q => ∃ F r ds r', EnvOk B F H σ r ∧ RepAll B.K F vs ds ∧ bindT t (.tuple ds) r = some r' ∧ ∀ σ', EnvOk B F H σ' r' → Off t.slots σ σ' → Q σ' H
theorem pg_mono {X : Cx} {e : Expr} {t t' : TG} (h : PG X e t) (m : ∀ v σ H Q, t' v σ H Q → t v σ H Q) : PG X e t' := ⟨fun pins s σ H v u Q I r q => h.run pins s σ H v u Q I r (m v σ H Q q)⟩
theorem pgs_mono {X : Cx} {e : List Expr} {t t' : TGs} (h : PGs X e t) (m : ∀ v σ H Q, t' v σ H Q → t v σ H Q) : PGs X e t' := ⟨fun pins s σ H v u Q I r q => h.run pins s σ H v u Q I r (m v σ H Q q)⟩
theorem Off.refl {ss : List Nat} {σ : L2.St} : Off ss σ σ := ⟨rfl, fun _ _ => rfl⟩
theorem Off.set {σ : L2.St} {i : Nat} {v : V} : Off [i] σ (σ.set i (some v)) := ⟨List.length_set, fun j h => List.getElem?_set_ne fun e => h (by simp [e])⟩
theorem Off.trans {a b : List Nat} {σ σ1 σ2 : L2.St} (h : Off a σ σ1) (k : Off b σ1 σ2) : Off (a ++ b) σ σ2 := ⟨k.1.trans h.1, fun j n => (k.2 j fun z => n (by simp [z])).trans (h.2 j fun z => n (by simp [z]))⟩
section
variable {B : Bs} {X : Cx}
theorem pg_nmT {i : Nat} {x : Str} {pos : Pos} (hio : B.io = [] ∨ i ≠ 0) (hN : X.N.Nodup) (hi : X.N[i]? = some x) (hx : Loc X.env.scope x) (hf : X.fn x = true ∨ X.env.scope.names.lookup x = some .local) : PG X (.Name x pos) (gT B (.nm i)) :=
  pg_mono (pg_name hN hi hx hf) fun v σ H Q ⟨F, r, d, r', E, rv, eb, q⟩ => by
    simp only [bindT] at eb
    split at eb
    · cases eb
      exact q _ (E.setP rv hio) Off.set
    · cases eb
theorem pgs_nilT : PGs X [] (gTs B .nil) := pgs_mono pgs_nil fun vs σ H Q ⟨F, r, ds, r', E, rv, eb, q⟩ => by
  cases ds with
  | nil =>
    simp only [bindT] at eb
    cases eb
    cases rv
    exact ⟨rfl, q σ E Off.refl⟩
  | cons _ _ => simp only [bindT] at eb; cases eb
theorem pgs_consT {t r : CT} {e : Expr} {es : List Expr} (h1 : PG X e (gT B t)) (h2 : PGs X es (gTs B r)) (hs : (assignEach (e :: es) X.env).map (·.2) = assign e X.env :: (assignEach es X.env).map (·.2)) : PGs X (e :: es) (gTs B (.cons t r)) :=
  pgs_mono (pgs_cons h1 h2 hs) fun vs σ H Q ⟨F, rr, ds, r', E, rv, eb, q⟩ => by
    cases ds with
    | nil => simp only [bindT] at eb; cases eb
    | cons d ds =>
      simp only [bindT] at eb
      cases e1 : bindT t d rr with
      | none => rw [e1] at eb; cases eb
      | some r1 =>
        rw [e1] at eb
        cases rv with
        | cons rv1 rv2 =>
          exact ⟨_, _, rfl, F, rr, d, r1, E, rv1, e1, fun σ1 E1 o1 => ⟨F, r1, ds, r', E1, rv2, eb, fun σ2 E2 o2 => q σ2 E2 (o1.trans o2)⟩⟩
theorem pg_tupT {t : CT} {es : List Expr} {k n : Nat} {pos : Pos} (hK : B.K = X.K) (ht : ∀ i, t ≠ .nm i) (hc : X.calm = true) (h : PGs X es (gTs B t)) (hn : (assignEach es X.env).length = n) (hl : ∀ d r r', bindT t (.tuple d) r = some r' → d.length = n)
    (hst : (assignEach es X.env).findIdx? (·.1) = none) : PG X (.Tuple es k pos) (gT B t) :=
  pg_mono (pg_tup hc h hn hst) fun v σ H Q ⟨F, r, d, r', E, rv, eb, q⟩ => by
    have hd : ∃ ds, d = .tuple ds := by
      cases t with
      | nm i => exact absurd rfl (ht i)
      | nil => cases d <;> first | exact ⟨_, rfl⟩ | exact absurd eb (by simp [bindT])
      | cons _ _ => cases d <;> first | exact ⟨_, rfl⟩ | exact absurd eb (by simp [bindT])
    obtain ⟨ds, rfl⟩ := hd
    obtain ⟨a, xs, rfl, hs, rs⟩ := rv.tup_inv
    rw [← hK]
    exact ⟨a, xs, rfl, SqT.sub E.fle hs, by rw [rs.length]; exact hl ds r r' eb, F, r, ds, r', E, rs, eb, q⟩
end

/-! ### what a block leaves -/
theorem wipe_get {σ : L2.St} : ∀ (vs : List Nat) (j : Nat), (wipe σ vs)[j]? = if j ∈ vs then (if j < σ.length then some none else none) else σ[j]?
  | [], j => by simp [wipe]
  | v :: vs, j => by
    unfold wipe
    by_cases h : v = j
    · subst h
      rw [if_pos List.mem_cons_self]
      by_cases hv : v < σ.length
      · rw [if_pos hv, List.getElem?_set_self (by rw [wipe_length]; exact hv)]
      · rw [if_neg hv, List.getElem?_eq_none (by rw [List.length_set, wipe_length]; omega)]
    · rw [List.getElem?_set_ne h, wipe_get vs j]
      by_cases hj : j ∈ vs
      · rw [if_pos hj, if_pos (List.mem_cons_of_mem _ hj)]
      · rw [if_neg hj, if_neg (by simp only [List.mem_cons, not_or]; exact ⟨fun e => h e.symm, hj⟩)]
theorem wipeE_len (r : Ev) : ∀ vs, (wipeE r vs).length = r.length
  | [] => rfl
  | v :: vs => by unfold wipeE; rw [List.length_set, wipeE_len r vs]
theorem wipeE_get {r : Ev} : ∀ (vs : List Nat) (j : Nat), (wipeE r vs)[j]? = if j ∈ vs then (if j < r.length then some none else none) else r[j]?
  | [], j => by simp [wipeE]
  | v :: vs, j => by
    unfold wipeE
    by_cases h : v = j
    · subst h
      rw [if_pos List.mem_cons_self]
      by_cases hv : v < r.length
      · rw [if_pos hv, List.getElem?_set_self (by rw [wipeE_len]; exact hv)]
      · rw [if_neg hv, List.getElem?_eq_none (by rw [List.length_set, wipeE_len]; omega)]
    · rw [List.getElem?_set_ne h, wipeE_get vs j]
      by_cases hj : j ∈ vs
      · rw [if_pos hj, if_pos (List.mem_cons_of_mem _ hj)]
      · rw [if_neg hj, if_neg (by simp only [List.mem_cons, not_or]; exact ⟨fun e => h e.symm, hj⟩)]
theorem backE_len (r0 r : Ev) : ∀ vs, (backE r0 r vs).length = r.length
  | [] => rfl
  | v :: vs => by unfold backE; rw [List.length_set, backE_len r0 r vs]
theorem backE_get {r0 r : Ev} (hl : r.length = r0.length) : ∀ (vs : List Nat) (j : Nat), (backE r0 r vs)[j]? = if j ∈ vs then r0[j]? else r[j]?
  | [], j => by simp [backE]
  | v :: vs, j => by
    unfold backE
    by_cases h : v = j
    · subst h
      rw [if_pos List.mem_cons_self]
      by_cases hv : v < r.length
      · rw [List.getElem?_set_self (by rw [backE_len]; exact hv)]
        rw [List.getElem?_eq_getElem (by omega)]
        rfl
      · rw [List.getElem?_eq_none (by rw [List.length_set, backE_len]; omega), List.getElem?_eq_none (by omega)]
    · rw [List.getElem?_set_ne h, backE_get hl vs j]
      by_cases hj : j ∈ vs
      · rw [if_pos hj, if_pos (List.mem_cons_of_mem _ hj)]
      · rw [if_neg hj, if_neg (by simp only [List.mem_cons, not_or]; exact ⟨fun e => h e.symm, hj⟩)]
theorem wipe_off {σ σ2 : L2.St} {vs ss : List Nat} (h : Off ss (wipe σ vs) σ2) (hs : ∀ j ∈ ss, j ∈ vs) : wipe σ2 vs = wipe σ vs := by
  apply List.ext_getElem?
  intro j
  rw [wipe_get, wipe_get]
  have hl : σ2.length = σ.length := by rw [h.1, wipe_length]
  rw [hl]
  by_cases hj : j ∈ vs
  · rw [if_pos hj, if_pos hj]
  · rw [if_neg hj, if_neg hj, h.2 j fun z => hj (hs j z), wipe_get, if_neg hj]

section
variable {B : Bs} {F H F' H' : Hp} {σ : L2.St} {r r' : Ev}
theorem getP_wipe {vs : List Nat} {j : Nat} {d : D} (h : getP (wipeE r vs) j = some d) : j ∉ vs ∧ getP r j = some d := by
  have e := getP_at h
  rw [wipeE_get] at e
  by_cases hj : j ∈ vs
  · rw [if_pos hj] at e
    split at e <;> cases e
  · rw [if_neg hj] at e
    exact ⟨hj, getP_of e⟩
theorem getO_wipe {vs : List Nat} {j : Nat} {d : D} (h : getO (wipeE r vs) j = some d) : j ∉ vs ∧ getO r j = some d := by
  have e := getO_at h
  rw [wipeE_get] at e
  by_cases hj : j ∈ vs
  · rw [if_pos hj] at e
    split at e <;> cases e
  · rw [if_neg hj] at e
    exact ⟨hj, getO_of e⟩
theorem EnvOk.wiped {vs : List Nat} (hio : B.io = [] ∨ 0 ∉ vs) (E : EnvOk B F H σ r) : EnvOk B F H (wipe σ vs) (wipeE r vs) where
  len := by rw [wipe_length, wipeE_len]; exact E.len
  fle := E.fle
  pv := fun j d g => by
    obtain ⟨h1, h2⟩ := getP_wipe g
    rw [wipe_get, if_neg h1]
    exact E.pv j d h2
  ow := fun j d g => by
    obtain ⟨h1, h2⟩ := getO_wipe g
    rw [wipe_get, if_neg h1]
    exact E.ow j d h2
  ap := fun i j a d e hne gi gj ei => by
    obtain ⟨h1, h2⟩ := getO_wipe gi
    obtain ⟨h3, h4⟩ := getO_wipe gj
    rw [wipe_get, if_neg h1] at ei
    rw [wipe_get, if_neg h3]
    exact E.ap i j a d e hne h2 h4 ei
  fn := fun j n e => by
    rw [wipeE_get] at e
    by_cases hj : j ∈ vs
    · rw [if_pos hj] at e
      split at e <;> cases e
    · rw [if_neg hj] at e
      rw [wipe_get, if_neg hj]
      exact E.fn j n e
  fr := E.fr
  dm := E.dm
  f0 := E.f0
  fn0 := E.fn0
  is := fun a ha => by
    rcases hio with h | h
    · rw [h] at ha; cases ha
    · rw [wipe_get, if_neg h]
      exact E.is a ha
/-- the block is left: its slots are as they were -/
theorem EnvOk.restored {vs : List Nat} (E : EnvOk B F H σ r) (E' : EnvOk B F' H' (wipe σ vs) r') (G : Grow F H (wipe σ vs) (wipeE r vs) F' H' r') :
    EnvOk B F' H' σ (backE r r' vs) ∧ Grow F H σ r F' H' (backE r r' vs) := by
  have hl : r'.length = r.length := by rw [G.ln, wipeE_len]
  -- an own slot of the block's names
  have ownv : ∀ j d a, j ∈ vs → getO r j = some d → σ[j]? = some (some (.ref a)) → ∃ x, F' a = none ∧ H' a = some x ∧ OwnO B.K F' x d ∧ (B.H0 a = none ∨ (a ∈ B.io ∧ j = 0)) := fun j d a hj g e => by
    obtain ⟨q1, x, q2, q3, q4⟩ := E.own_some g e
    refine ⟨x, ?_, G.gk a x q2 fun l e' gl el => ?_, q3.mono G.gf, q4⟩
    · cases z : F' a with
      | none => rfl
      | some o =>
        rcases G.gn a o z with w | w
        · rw [q1] at w; cases w
        · rw [q2] at w; cases w
    · obtain ⟨h1, h2⟩ := getO_wipe gl
      rw [wipe_get, if_neg h1] at el
      exact E.ap j l a d e' (fun w => h1 (w ▸ hj)) g h2 e el
  have ownn : ∀ j d, j ∉ vs → getO r' j = some d → ∃ d', getO r j = some d' := fun j d hj g => by
    obtain ⟨d', g'⟩ := G.kd j d g
    exact ⟨d', (getO_wipe g').2⟩
  have at_ : ∀ j, (backE r r' vs)[j]? = if j ∈ vs then r[j]? else r'[j]? := backE_get hl vs
  have gO : ∀ j d, getO (backE r r' vs) j = some d → (j ∈ vs ∧ getO r j = some d) ∨ (j ∉ vs ∧ getO r' j = some d) := fun j d g => by
    have e := getO_at g
    rw [at_] at e
    by_cases hj : j ∈ vs
    · rw [if_pos hj] at e; exact .inl ⟨hj, getO_of e⟩
    · rw [if_neg hj] at e; exact .inr ⟨hj, getO_of e⟩
  have kd : ∀ j d, getO (backE r r' vs) j = some d → ∃ d', getO r j = some d' := fun j d g => by
    rcases gO j d g with ⟨_, g⟩ | ⟨hj, g⟩
    · exact ⟨_, g⟩
    · exact ownn j d hj g
  refine ⟨⟨by rw [backE_len, hl]; exact E.len, E'.fle, fun j d g => ?_, fun j d g => ?_, fun i j a d e hne gi gj ei => ?_, fun j n e => ?_, E'.fr, E'.dm, E'.f0, E'.fn0, E.is⟩,
    ⟨G.gf, fun a o e nb => G.gk a o e fun j d g ej => ?_, G.gn, G.gd, kd, fun j d g => ?_, by rw [backE_len, hl]⟩⟩
  · have e := getP_at g
    rw [at_] at e
    by_cases hj : j ∈ vs
    · rw [if_pos hj] at e
      obtain ⟨v, h1, h2⟩ := E.pv j d (getP_of e)
      exact ⟨v, h1, h2.mono G.gf⟩
    · rw [if_neg hj] at e
      obtain ⟨v, h1, h2⟩ := E'.pv j d (getP_of e)
      rw [wipe_get, if_neg hj] at h1
      exact ⟨v, h1, h2⟩
  · rcases gO j d g with ⟨hj, g⟩ | ⟨hj, g⟩
    · obtain ⟨a, x, e1, _⟩ := E.ow j d g
      obtain ⟨y, z1, z2, z3, z4⟩ := ownv j d a hj g e1
      exact ⟨a, y, e1, z1, z2, z3, z4⟩
    · obtain ⟨a, x, e1, z⟩ := E'.ow j d g
      rw [wipe_get, if_neg hj] at e1
      exact ⟨a, x, e1, z⟩
  · obtain ⟨_, k1⟩ := kd i d gi
    obtain ⟨_, k2⟩ := kd j e gj
    exact E.ap i j a _ _ hne k1 k2 ei
  · rw [at_] at e
    by_cases hj : j ∈ vs
    · rw [if_pos hj] at e
      exact E.fn j n e
    · rw [if_neg hj] at e
      have := E'.fn j n e
      rw [wipe_get, if_neg hj] at this
      exact this
  · obtain ⟨h1, h2⟩ := getO_wipe g
    rw [wipe_get, if_neg h1] at ej
    exact nb j d h2 ej
  · have e := getP_at g
    rw [at_] at e
    by_cases hj : j ∈ vs
    · rw [if_pos hj] at e
      exact getP_of e
    · rw [if_neg hj] at e
      exact (getP_wipe (G.kp j d (getP_of e))).2
end

theorem lcLoop_cons {step : D → Ev → Out} {vs : List Nat} {x : D} {xs : List D} {r rf : Ev} {d : D} {fr : Bool} (h : lcLoop step vs (x :: xs) r = .ok d fr rf) :
    ∃ l f r1 m f2, step x r = .ok (.tuple l) f r1 ∧ lcLoop step vs xs (wipeE r1 vs) = .ok (.list m) f2 rf ∧ d = .list (l ++ m) ∧ fr = true := by
  unfold lcLoop at h
  obtain ⟨y, f, r1, e1, h2⟩ := Out.bind_ok h
  obtain ⟨ys, f2, r2, e2, h3⟩ := Out.bind_ok h2
  split at h3
  · cases h3
    exact ⟨_, _, _, _, _, e1, e2, rfl, rfl⟩
  · cases h3

/-- one turn of a comprehension, by trees -/
def lcStep (Ph : Nat → List D → Rs) (elt : CE) (tg : CT) (ifs : CE) : D → Ev → Out := fun d r2 => match bindT tg d r2 with
  | some r3 => (ev Ph ifs r3).bind fun t r4 => match truth t with
    | some true => (ev Ph elt r4).bind fun y r5 => .ok (.tuple [y]) false r5
    | some false => .ok (.tuple []) false r4
    | none => .stuck
  | none => .stuck
theorem lcStep_ok {Ph : Nat → List D → Rs} {elt ifs : CE} {tg : CT} {d : D} {r : Ev} {l : List D} {f : Bool} {r1 : Ev} (h : lcStep Ph elt tg ifs d r = .ok (.tuple l) f r1) :
    ∃ r3 t ft r4 b, bindT tg d r = some r3 ∧ ev Ph ifs r3 = .ok t ft r4 ∧ truth t = some b ∧ ((b = true ∧ ∃ y fy, ev Ph elt r4 = .ok y fy r1 ∧ l = [y]) ∨ (b = false ∧ l = [] ∧ r1 = r4)) := by
  unfold lcStep at h
  split at h
  · rename_i r3 e3
    obtain ⟨t, ft, r4, e4, h2⟩ := Out.bind_ok h
    split at h2
    · rename_i et
      obtain ⟨y, fy, r5, e5, h3⟩ := Out.bind_ok h2
      cases h3
      exact ⟨r3, t, ft, r4, true, e3, e4, et, .inl ⟨rfl, y, fy, e5, rfl⟩⟩
    · rename_i et
      cases h2
      exact ⟨r3, t, ft, _, false, e3, e4, et, .inr ⟨rfl, rfl, rfl⟩⟩
    · cases h2
  · cases h
theorem ev_lc {Ph : Nat → List D → Rs} {elt it ifs : CE} {tg : CT} {vs : List Nat} {r rf : Ev} {d : D} {fr : Bool} (h : ev Ph (.lc elt tg it ifs vs) r = .ok d fr rf) :
    ∃ items f1 r1 f2 r2, ev Ph it r = .ok (.list items) f1 r1 ∧ lcLoop (lcStep Ph elt tg ifs) vs items (wipeE r1 vs) = .ok d f2 r2 ∧ fr = f2 ∧ rf = backE r1 r2 vs := by
  simp only [ev] at h
  obtain ⟨x, f1, r1, e1, h2⟩ := Out.bind_ok h
  split at h2
  · rename_i items
    split at h2
    · rename_i d2 fr2 r2 e2
      cases h2
      exact ⟨items, f1, r1, fr, r2, e1, e2, rfl, rfl⟩
    · cases h2
  · cases h2
theorem lcLoop_fr {step : D → Ev → Out} {vs : List Nat} {xs : List D} {r rf : Ev} {d : D} {fr : Bool} (h : lcLoop step vs xs r = .ok d fr rf) : fr = true ∧ ∃ l, d = .list l := by
  cases xs with
  | nil => unfold lcLoop at h; cases h; exact ⟨rfl, _, rfl⟩
  | cons x xs =>
    obtain ⟨l, f, r1, m, f2, e1, e2, rfl, rfl⟩ := lcLoop_cons h
    exact ⟨rfl, _, rfl⟩

/-- tests of a comprehension, one or none -/
theorem pts_mono {X : Cx} {e : List Expr} {t t' : TT} (h : PTs X e t) (m : ∀ σ H Q, t' σ H Q → t σ H Q) : PTs X e t' := ⟨fun pins s σ H Q I q => h.run pins s σ H Q I (m σ H Q q)⟩
section
variable {B : Bs} {Ph : Nat → List D → Rs} {X : Cx} {T : List FT} {k : Nat}
theorem pts_nilT : PTs X [] (tTr B Ph (.cst (.bool true))) := pts_mono pts_nil fun σ H Q ⟨F, r, E, d, fr, r', b, ee, et, q⟩ => by
  simp only [ev] at ee
  cases ee
  cases et
  exact q F H E Grow.refl
/-- the heap but for what the comprehension makes -/
theorem EnvOk.own_ne {F H : Hp} {σ : L2.St} {r : Ev} (E : EnvOk B F H σ r) {a : Addr} (h : H a = none) : ∀ i d, getO r i = some d → σ[i]? ≠ some (some (.ref a)) := fun i d g e => by
  obtain ⟨_, x, hx, _⟩ := E.own_some g e
  rw [h] at hx
  cases hx
/-- an object that no slot and no tree leans on is another one -/
theorem EnvOk.updD {F H : Hp} {σ : L2.St} {r : Ev} (E : EnvOk B F H σ r) {a : Addr} {x : HO} (hf : F a = none) (hn : ∀ i d, getO r i = some d → σ[i]? ≠ some (some (.ref a))) (h0 : B.H0 a = none) : EnvOk B F (upd H a x) σ r where
  len := E.len
  fle := fun b o e => by
    by_cases h : b = a
    · subst h; rw [hf] at e; cases e
    · rw [upd_ne h]; exact E.fle b o e
  pv := E.pv
  ow := fun i d g => by
    obtain ⟨b, y, e1, e2, e3, e4, e5⟩ := E.ow i d g
    exact ⟨b, y, e1, e2, (by
      have hb : b ≠ a := fun z => hn i d g (by rw [← z]; exact e1)
      rw [upd_ne hb]
      exact e3), e4, e5⟩
  ap := E.ap
  fn := E.fn
  fr := fun b o e nb => by
    by_cases h : b = a
    · subst h; rw [h0] at e; cases e
    · rw [upd_ne h]; exact E.fr b o e nb
  dm := fun b e => by
    by_cases h : b = a
    · subst h; exact h0
    · rw [upd_ne h] at e; exact E.dm b e
  f0 := E.f0
  fn0 := E.fn0
  is := E.is
theorem Grow.updD {F1 H1 F2 H2 : Hp} {σ : L2.St} {r r' : Ev} (G : Grow F1 H1 σ r F2 H2 r') {a : Addr} {x : HO} (h : H1 a = none) : Grow F1 H1 σ r F2 (upd H2 a x) r' :=
  ⟨G.gf, fun b o e nb => by rw [upd_ne (ne_of_none e h)]; exact G.gk b o e nb, G.gn, fun b e => by
    by_cases z : b = a
    · subst z; exact h
    · rw [upd_ne z] at e; exact G.gd b e, G.kd, G.kp, G.ln⟩
theorem bindT_own : ∀ (t : CT) {d : D} {r r' : Ev} {j : Nat} {e : D}, bindT t d r = some r' → getO r' j = some e → getO r j = some e ∧ j ∉ t.slots
  | .nm i, d, r, r', j, e, h, g => by
    simp only [bindT] at h
    split at h
    · rename_i hi
      cases h
      unfold putP at g
      rw [getO_set] at g
      by_cases hij : i = j
      · rw [if_pos hij, if_pos hi] at g
        cases g
      · rw [if_neg hij] at g
        exact ⟨g, by simp only [CT.slots, List.mem_singleton]; exact fun z => hij z.symm⟩
    · cases h
  | .nil, d, r, r', j, e, h, g => by
    cases d with
    | tuple l => cases l with
      | nil => simp only [bindT] at h; cases h; exact ⟨g, by simp [CT.slots]⟩
      | cons _ _ => simp [bindT] at h
    | _ => simp [bindT] at h
  | .cons t u, d, r, r', j, e, h, g => by
    cases d with
    | tuple l => cases l with
      | nil => simp [bindT] at h
      | cons x xs =>
        simp only [bindT] at h
        cases e1 : bindT t x r with
        | none => rw [e1] at h; cases h
        | some r1 =>
          rw [e1] at h
          obtain ⟨q1, q2⟩ := bindT_own u h g
          obtain ⟨q3, q4⟩ := bindT_own t e1 q1
          exact ⟨q3, by simp only [CT.slots, List.mem_append, not_or]; exact ⟨q4, q2⟩⟩
    | _ => simp [bindT] at h
theorem bindT_len : ∀ (t : CT) {d : D} {r r' : Ev}, bindT t d r = some r' → r'.length = r.length
  | .nm i, d, r, r', h => by
    simp only [bindT] at h
    split at h
    · cases h; unfold putP; rw [List.length_set]
    · cases h
  | .nil, d, r, r', h => by
    cases d with
    | tuple l => cases l with
      | nil => simp only [bindT] at h; cases h; rfl
      | cons _ _ => simp [bindT] at h
    | _ => simp [bindT] at h
  | .cons t u, d, r, r', h => by
    cases d with
    | tuple l => cases l with
      | nil => simp [bindT] at h
      | cons x xs =>
        simp only [bindT] at h
        cases e1 : bindT t x r with
        | none => rw [e1] at h; cases h
        | some r1 =>
          rw [e1] at h
          exact (bindT_len u h).trans (bindT_len t e1)
    | _ => simp [bindT] at h
theorem bindT_p : ∀ (t : CT) {d : D} {r r' : Ev} {j : Nat} {e : D}, bindT t d r = some r' → getP r' j = some e → j ∉ t.slots → getP r j = some e
  | .nm i, d, r, r', j, e, h, g, n => by
    simp only [bindT] at h
    split at h
    · cases h
      unfold putP at g
      rw [getP_set, if_neg (fun z => n (by simp [CT.slots, z]))] at g
      exact g
    · cases h
  | .nil, d, r, r', j, e, h, g, n => by
    cases d with
    | tuple l => cases l with
      | nil => simp only [bindT] at h; cases h; exact g
      | cons _ _ => simp [bindT] at h
    | _ => simp [bindT] at h
  | .cons t u, d, r, r', j, e, h, g, n => by
    cases d with
    | tuple l => cases l with
      | nil => simp [bindT] at h
      | cons x xs =>
        simp only [bindT] at h
        cases e1 : bindT t x r with
        | none => rw [e1] at h; cases h
        | some r1 =>
          rw [e1] at h
          simp only [CT.slots, List.mem_append, not_or] at n
          exact bindT_p t e1 (bindT_p u h g n.2) n.1
    | _ => simp [bindT] at h
/-- what grew with a target set, told without it -/
theorem Grow.blk {F H F' H' : Hp} {σ σ2 : L2.St} {r r3 r' : Ev} {t : CT} {d : D} {vs : List Nat} (hs : ∀ j ∈ t.slots, j ∈ vs) (G : Grow F H σ2 r3 F' H' r') (eb : bindT t d r = some r3) (o : Off t.slots σ σ2) : Grow F H σ r F' H' (wipeE r' vs) :=
  ⟨G.gf, fun a x e nb => G.gk a x e fun j c g ej => by
    obtain ⟨q1, q2⟩ := bindT_own t eb g
    rw [o.2 j q2] at ej
    exact nb j c q1 ej, G.gn, G.gd, fun j c g => by
    obtain ⟨_, g2⟩ := getO_wipe g
    obtain ⟨c2, g3⟩ := G.kd j c g2
    exact ⟨c2, (bindT_own t eb g3).1⟩, fun j c g => by
    obtain ⟨g1, g2⟩ := getP_wipe g
    exact bindT_p t eb (G.kp j c g2) fun z => g1 (hs j z), by rw [wipeE_len, G.ln, bindT_len t eb]⟩
theorem lc_read {elt it ifs : CE} {tg : CT} {vs : List Nat} {σ : L2.St} {H : Hp} {Q : VK} (hio : B.io = [] ∨ 0 ∉ vs) (hs : ∀ j ∈ tg.slots, j ∈ vs) (h : tEv B Ph (.lc elt tg it ifs vs) σ H Q) :
    tLc (tIt B Ph it) (gT B tg) (tTr B Ph ifs) (tEp B Ph elt) vs σ H Q := by
  obtain ⟨F, r, E, d, fr, r', ee, q⟩ := h
  obtain ⟨items, f1, r1, f2, r2, e1, e2, rfl, rfl⟩ := ev_lc ee
  refine ⟨F, r, E, items, f1, r1, e1, fun J F1 H1 E1 G1 hlen hJ Da hDa => ?_⟩
  obtain ⟨rfl, all, rfl⟩ := lcLoop_fr e2
  have Ew := E1.wiped (vs := vs) hio
  have hDw : ∀ i d, getO (wipeE r1 vs) i = some d → (wipe σ vs)[i]? ≠ some (some (.ref Da)) := Ew.own_ne hDa
  have hD0 : B.H0 Da = none := E1.dm Da hDa
  have hlen' : items.length ≤ sizeLine := hlen
  refine ⟨fun i m Hx => ∃ F2 rr accV acc rest f3, EnvOk B F2 Hx (wipe σ vs) rr ∧ Grow F1 H1 (wipe σ vs) (wipeE r1 vs) F2 Hx rr ∧ Hx Da = some (.lst accV) ∧ F2 Da = none ∧ RepAll B.K F2 accV acc ∧
      lcLoop (lcStep Ph elt tg ifs) vs (items.drop i) rr = .ok (.list rest) f3 r2 ∧ acc ++ rest = all ∧ acc.length ≤ i ∧ i + m = items.length,
    ⟨items.length, F1, wipeE r1 vs, [], [], all, _, Ew.updD (none_sub E1.fle hDa) hDw hD0, Grow.updD Grow.refl hDa, upd_same, none_sub E1.fle hDa, .nil, by rw [List.drop_zero]; exact e2, rfl, Nat.le_refl _, by omega⟩, ?_⟩
  rintro i m Hx ⟨F2, rr, accV, acc, rest, f3, E2, G2, hD, hF, ra, el, hall, hal, him⟩
  by_cases hi : i < items.length
  · obtain ⟨go, yl⟩ := hJ.2 i Hx (G2.gf.trans E2.fle) hi
    have hdrop : items.drop i = items[i] :: items.drop (i + 1) := List.drop_eq_getElem_cons hi
    rw [hdrop] at el
    obtain ⟨l, f, r5, m5, f5, es, el2, ed, _⟩ := lcLoop_cons el
    cases ed
    obtain ⟨r3, t, ft, r4, b, eb, ei, et, ways⟩ := lcStep_ok es
    refine .inr ⟨go, fun Hy => ∃ F2 rr accV acc rest f3, EnvOk B F2 Hy (wipe σ vs) rr ∧ Grow F1 H1 (wipe σ vs) (wipeE r1 vs) F2 Hy rr ∧ Hy Da = some (.lst accV) ∧ F2 Da = none ∧ RepAll B.K F2 accV acc ∧
      lcLoop (lcStep Ph elt tg ifs) vs (items.drop (i + 1)) rr = .ok (.list rest) f3 r2 ∧ acc ++ rest = all ∧ acc.length ≤ i + 1, fun Hy ⟨a1, a2, a3, a4, a5, a6, a7, a8, a9, a10, a11, a12, a13, a14⟩ => ⟨m - 1, by omega, a1, a2, a3, a4, a5, a6, a7, a8, a9, a10, a11, a12, a13, a14, by omega⟩, fun x Hy hy => ?_⟩
    obtain ⟨d0, hd0, hx⟩ := yl x Hy hy
    rw [List.getElem?_eq_getElem hi] at hd0
    cases hd0
    -- the item, given away
    obtain ⟨F3, E3, G3, rx, hF3, hD3⟩ : ∃ F3, EnvOk B F3 Hy (wipe σ vs) rr ∧ Grow F2 Hx (wipe σ vs) rr F3 Hy rr ∧ Rep B.K F3 x items[i] ∧ F3 Da = none ∧ Hy Da = some (.lst accV) := by
      rcases hx with ⟨rfl, rx⟩ | ⟨Tq, xs, ds, rfl, hT, rfl, ed, rx⟩
      · exact ⟨F2, E2, Grow.refl, rx.mono G2.gf, hF, hD⟩
      · have hfT := none_sub E2.fle hT
        have hTD : Da ≠ Tq := ne_of_none hD hT
        obtain ⟨E3, G3⟩ := E2.grow (F' := upd F2 Tq (.tup xs)) (H' := upd Hx Tq (.tup xs)) ⟨sub_upd hfT, sub_upd hT, sub_upd2 E2.fle, fun a o e => by
          by_cases z : a = Tq
          · subst z; exact .inr hT
          · rw [upd_ne z] at e; exact .inl e⟩
        refine ⟨_, E3, G3, ?_, by rw [upd_ne hTD]; exact hF, by rw [upd_ne hTD]; exact hD⟩
        rw [ed]
        exact .tup (.inl (.inl upd_same)) ((rx.mono G2.gf).mono (sub_upd hfT))
    refine ⟨F3, rr, items[i], r3, E3, rx, eb, fun σ2 E4 o2 => ⟨wipe_off o2 hs, ?_⟩⟩
    have hw : wipe σ2 vs = wipe σ vs := wipe_off o2 hs
    have hDr : ∀ j d, getO rr j = some d → (wipe σ vs)[j]? ≠ some (some (.ref Da)) := fun j d g => by
      obtain ⟨d', g'⟩ := G2.kd j d g
      exact hDw j d' g'
    have hD4 : ∀ j d, getO r3 j = some d → σ2[j]? ≠ some (some (.ref Da)) := fun j d g e => by
      obtain ⟨q1, q2⟩ := bindT_own tg eb g
      rw [o2.2 j q2] at e
      exact hDr j d q1 e
    refine ⟨F3, r3, E4, t, ft, r4, b, ei, et, fun F5 H5 E5 G5 => ?_⟩
    have keepD : ∀ {F6 H6 : Hp} {r6 : Ev}, Grow F3 Hy σ2 r3 F6 H6 r6 → H6 Da = some (.lst accV) ∧ F6 Da = none := fun {F6 H6 r6} G6 => ⟨G6.gk Da _ hD3 hD4, by
      cases z : F6 Da with
      | none => rfl
      | some o =>
        rcases G6.gn Da o z with w | w
        · rw [hF3] at w; cases w
        · rw [hD3] at w; cases w⟩
    have fin : ∀ {F6 H6 : Hp} {r6 : Ev} {accV6 : List V} {acc6 rest6 : List D}, EnvOk B F6 H6 σ2 r6 → Grow F3 Hy σ2 r3 F6 H6 r6 → RepAll B.K F6 accV6 acc6 → lcLoop (lcStep Ph elt tg ifs) vs (items.drop (i + 1)) (wipeE r6 vs) = .ok (.list rest6) f5 r2 → acc6 ++ rest6 = all → acc6.length ≤ i + 1 →
        ∃ F2 rr accV acc rest f3, EnvOk B F2 (upd H6 Da (.lst accV6)) (wipe σ vs) rr ∧ Grow F1 H1 (wipe σ vs) (wipeE r1 vs) F2 (upd H6 Da (.lst accV6)) rr ∧ (upd H6 Da (.lst accV6)) Da = some (.lst accV) ∧ F2 Da = none ∧ RepAll B.K F2 accV acc ∧
          lcLoop (lcStep Ph elt tg ifs) vs (items.drop (i + 1)) rr = .ok (.list rest) f3 r2 ∧ acc ++ rest = all ∧ acc.length ≤ i + 1 := fun {F6 H6 r6 accV6 acc6 rest6} E6 G6 hr6 hl6 ha6 hn6 => by
      have E7 := E6.wiped (vs := vs) hio
      rw [hw] at E7
      have G7 : Grow F1 H1 (wipe σ vs) (wipeE r1 vs) F6 H6 (wipeE r6 vs) := (G2.trans G3).trans (G6.blk hs eb o2)
      refine ⟨F6, wipeE r6 vs, accV6, acc6, rest6, f5, E7.updD (keepD G6).2 (fun j d g => ?_) hD0, G7.updD hDa, upd_same, (keepD G6).2, hr6, hl6, ha6, hn6⟩
      obtain ⟨d', g'⟩ := G7.kd j d g
      exact hDw j d' g'
    rcases ways with ⟨rfl, y, fy, ey, rfl⟩ | ⟨rfl, rfl, rfl⟩
    · refine iteT ?_
      refine ⟨F5, r4, E5, y, fy, r5, ey, fun v F6 H6 E6 G6 rv6 => ?_⟩
      have G56 := G5.trans G6
      refine ⟨accV, (keepD G56).1, ?_, fin E6 G56 ((ra.mono (G3.gf.trans G56.gf)).append (.cons rv6 .nil)) el2 ?_ ?_⟩
      · rw [ra.length]; omega
      · rw [← hall, List.append_assoc]
      · rw [List.length_append]; simp only [List.length_cons, List.length_nil]; omega
    · refine iteF ?_
      have hb := fin E5 G5 (ra.mono (G3.gf.trans G5.gf)) el2 hall (by omega)
      have eu : upd H5 Da (.lst accV) = H5 := by
        funext b
        by_cases z : b = Da
        · subst z; rw [upd_same]; exact (keepD G5).1.symm
        · rw [upd_ne z]
      rw [eu] at hb
      exact hb
  · refine .inl ⟨hJ.1 i Hx (G2.gf.trans E2.fle) (by omega), ?_⟩
    rw [List.drop_eq_nil_of_le (by omega)] at el
    unfold lcLoop at el
    cases el
    rw [List.append_nil] at hall
    subst hall
    obtain ⟨E9, G9⟩ := E1.restored E2 G2
    refine q (.ref Da) F2 Hx E9 (G1.trans G9) ?_
    unfold ValOk
    rw [if_pos rfl]
    exact ⟨Da, _, rfl, G1.gd Da hDa, hF, hD, accV, rfl, ra⟩
theorem pe_lcT {elt it ifs : CE} {tg : CT} {own : List (Str × Nat)} {ex tgx iterx : Expr} {ifx : List Expr} {scope : Scope} {pos : Pos} (C : Ctx X B Ph T k) (hio : B.io = [] ∨ 0 ∉ own.map (·.2)) (hs : ∀ j ∈ tg.slots, j ∈ own.map (·.2))
    (hi : PI X tgx iterx (tIt B Ph it)) (ok : BlkOk X.N X.env.scope scope own)
    (hg : ∀ (s : Shared) (H : Hp) (Ca : Addr) (cl : List (Str × Addr)) (fp : List Addr), PG (X.blk s H scope (compEnvC scope cl Ca X.env) fp) tgx (gT B tg))
    (ht : ∀ (s : Shared) (H : Hp) (Ca : Addr) (cl : List (Str × Addr)) (fp : List Addr), PTs (X.blk s H scope (compEnvC scope cl Ca X.env) fp) ifx (tTr B Ph ifs))
    (he : ∀ (s : Shared) (H : Hp) (Ca : Addr) (cl : List (Str × Addr)) (fp : List Addr), PE (X.blk s H scope (compEnvC scope cl Ca X.env) fp) ex (tEv B Ph elt))
    (hf : ∀ x, foldedSetIterable iterx X.env x = pure x) : PE X (.ListComp ex [⟨tgx, iterx, ifx, 0⟩] scope pos) (tEv B Ph (.lc elt tg it ifs (own.map (·.2)))) :=
  pe_mono (pe_lc C.calm C.nd hi ok hg ht (fun s H Ca cl fp => pe_p (he s H Ca cl fp)) hf) fun σ H Q h => lc_read hio hs h
end
end TP

set_option Elab.async false
set_option linter.all false
set_option maxRecDepth 100000
/-! TP11: what is lent to an expression; statements. -/
namespace TP
open PySem PySem.Spec PyProof.Rows L2

section
variable {K : PySem.W.Frag} {F G : Hp}
theorem RepKs.flat (hG : ∀ b xs, F b = some (.tup xs) → G b = some (.tup xs)) (hz : ∀ b o xs, F b = some (.frz o (.tup xs)) → G b = some (.frz o (.tup xs))) : ∀ {v : List (Key × V)} {d : List (D × D)}, RepKs K F v d → flatKs d = true → RepKs K G v d
  | _, _, .nil, _ => .nil
  | _, _, .cons h t, c => by
    rw [flatKs, Bool.and_eq_true] at c
    exact .cons (Rep.flat hG hz h c.1) (RepKs.flat hG hz t c.2)
theorem RepTs.flat (hG : ∀ b xs, F b = some (.tup xs) → G b = some (.tup xs)) (hz : ∀ b o xs, F b = some (.frz o (.tup xs)) → G b = some (.frz o (.tup xs))) : ∀ {v : List (List Key × V)} {d : List (D × D)}, RepTs K F v d → flatKs d = true → RepTs K G v d
  | _, _, .nil, _ => .nil
  | _, _, .cons h t, c => by
    rw [flatKs, Bool.and_eq_true] at c
    exact .cons (Rep.flat hG hz h c.1) (RepTs.flat hG hz t c.2)
theorem OwnO.flat (hG : ∀ b xs, F b = some (.tup xs) → G b = some (.tup xs)) (hz : ∀ b o xs, F b = some (.frz o (.tup xs)) → G b = some (.frz o (.tup xs))) {x : HO} {d : D} (h : OwnO K F x d) (c : flatF d true = true) : OwnO K G x d := by
  unfold flatF at c
  rw [if_pos rfl] at c
  cases d with
  | list ds => obtain ⟨xs, e, r⟩ := h; exact ⟨xs, e, r.flat hG hz c⟩
  | dict ds =>
    rcases h with ⟨kvs, e, r⟩ | ⟨kvs, e, r⟩
    · exact .inl ⟨kvs, e, r.flat hG hz c⟩
    · exact .inr ⟨kvs, e, r.flat hG hz c⟩
  | _ => exact h.elim
end

/-! ### lending -/
theorem getP_putP {r : Ev} {i j : Nat} {d : D} : getP (putP r i d) j = if i = j then (if i < r.length then some d else none) else getP r j := by
  unfold putP
  rw [getP_set]
theorem getO_putP {r : Ev} {i j : Nat} {d : D} : getO (putP r i d) j = if i = j then none else getO r j := by
  unfold putP
  rw [getO_set]
  by_cases h : i = j
  · rw [if_pos h, if_pos h]
    split <;> rfl
  · rw [if_neg h, if_neg h]
theorem getO_putO {r : Ev} {i j : Nat} {d : D} : getO (putO r i d) j = if i = j then (if i < r.length then some d else none) else getO r j := by
  unfold putO
  rw [getO_set]
theorem getP_putO {r : Ev} {i j : Nat} {d : D} : getP (putO r i d) j = if i = j then none else getP r j := by
  unfold putO
  rw [getP_set]
  by_cases h : i = j
  · rw [if_pos h, if_pos h]
    split <;> rfl
  · rw [if_neg h, if_neg h]
theorem lend_len : ∀ (ld : List Nat) (r : Ev), (lend r ld).length = r.length
  | [], r => rfl
  | v :: vs, r => by
    unfold lend
    cases e : getO r v with
    | none => exact lend_len vs r
    | some d => exact (lend_len vs _).trans (by unfold putP; rw [List.length_set])
theorem lend_O : ∀ (ld : List Nat) (r : Ev) (j : Nat), getO (lend r ld) j = if j ∈ ld then none else getO r j
  | [], r, j => by simp [lend]
  | v :: vs, r, j => by
    unfold lend
    cases e : getO r v with
    | none =>
      show getO (lend r vs) j = _
      rw [lend_O vs r j]
      by_cases h : j = v
      · subst h
        rw [if_pos List.mem_cons_self, e]
        split <;> rfl
      · by_cases h2 : j ∈ vs
        · rw [if_pos h2, if_pos (List.mem_cons_of_mem _ h2)]
        · rw [if_neg h2, if_neg (by simp only [List.mem_cons, not_or]; exact ⟨h, h2⟩)]
    | some d =>
      show getO (lend (putP r v d) vs) j = _
      rw [lend_O vs _ j, getO_putP]
      by_cases h : v = j
      · subst h
        rw [if_pos rfl, if_pos List.mem_cons_self]
        split <;> rfl
      · rw [if_neg h]
        by_cases h2 : j ∈ vs
        · rw [if_pos h2, if_pos (List.mem_cons_of_mem _ h2)]
        · rw [if_neg h2, if_neg (by simp only [List.mem_cons, not_or]; exact ⟨fun e => h e.symm, h2⟩)]
theorem lend_P : ∀ (ld : List Nat) (r : Ev) (j : Nat) (d : D), getP (lend r ld) j = some d → getP r j = some d ∨ (j ∈ ld ∧ getO r j = some d)
  | [], r, j, d, h => .inl h
  | v :: vs, r, j, d, h => by
    unfold lend at h
    cases e : getO r v with
    | none =>
      rw [e] at h
      rcases lend_P vs r j d h with z | ⟨z, g⟩
      · exact .inl z
      · exact .inr ⟨List.mem_cons_of_mem _ z, g⟩
    | some d0 =>
      rw [e] at h
      rcases lend_P vs _ j d h with z | ⟨z, g⟩
      · rw [getP_putP] at z
        by_cases hv : v = j
        · subst hv
          rw [if_pos rfl, if_pos (getO_lt e)] at z
          cases z
          exact .inr ⟨List.mem_cons_self, e⟩
        · rw [if_neg hv] at z
          exact .inl z
      · rw [getO_putP] at g
        by_cases hv : v = j
        · rw [if_pos hv] at g; cases g
        · rw [if_neg hv] at g
          exact .inr ⟨List.mem_cons_of_mem _ z, g⟩
theorem lend_f : ∀ (ld : List Nat) (r : Ev) (j k : Nat), (lend r ld)[j]? = some (some (Sl.f k)) → r[j]? = some (some (Sl.f k))
  | [], r, j, k, h => h
  | v :: vs, r, j, k, h => by
    unfold lend at h
    cases e : getO r v with
    | none => rw [e] at h; exact lend_f vs r j k h
    | some d0 =>
      rw [e] at h
      have z := lend_f vs _ j k h
      unfold putP at z
      by_cases hv : v = j
      · subst hv
        rw [List.getElem?_set_self (getO_lt e)] at z
        cases z
      · rw [List.getElem?_set_ne hv] at z
        exact z
/-- the address of a slot of ld that is an own one -/
def LentAt (r : Ev) (σ : L2.St) (ld : List Nat) (a : Addr) : Prop := ∃ i d, i ∈ ld ∧ getO r i = some d ∧ σ[i]? = some (some (V.ref a))
open Classical in
/-- F with what is lent -/
noncomputable def lentF (F H : Hp) (r : Ev) (σ : L2.St) (ld : List Nat) : Hp := fun a => if LentAt r σ ld a then H a else F a
open Classical in
noncomputable def takeF (F : Hp) (r : Ev) (σ : L2.St) (ld : List Nat) : Hp := fun a => if LentAt r σ ld a then none else F a
section
variable {B : Bs} {F H F' H' : Hp} {σ : L2.St} {r r' : Ev} {ld : List Nat}
theorem EnvOk.lent (E : EnvOk B F H σ r) : EnvOk B (lentF F H r σ ld) H σ (lend r ld) ∧ Sub F (lentF F H r σ ld) := by
  have sub : Sub F (lentF F H r σ ld) := fun a o e => by
    unfold lentF
    split
    · exact E.fle a o e
    · exact e
  refine ⟨⟨by rw [lend_len]; exact E.len, fun a o e => ?_, fun i d g => ?_, fun i d g => ?_, fun i j a d e hne gi gj ei => ?_, fun i k e => E.fn i k (lend_f ld r i k e), E.fr, E.dm, E.f0.trans sub, fun a o e => ?_, E.is⟩, sub⟩
  · unfold lentF at e
    split at e
    · exact e
    · exact E.fle a o e
  · rcases lend_P ld r i d g with z | ⟨z, g2⟩
    · obtain ⟨v, e1, e2⟩ := E.pv i d z
      exact ⟨v, e1, e2.mono sub⟩
    · obtain ⟨a, x, e1, e2, e3, e4, e5⟩ := E.ow i d g2
      refine ⟨_, e1, (e4.mono sub).rep ?_⟩
      unfold lentF
      rw [if_pos ⟨i, d, z, g2, e1⟩]
      exact e3
  · rw [lend_O] at g
    by_cases hi : i ∈ ld
    · rw [if_pos hi] at g; cases g
    · rw [if_neg hi] at g
      obtain ⟨a, x, e1, e2, e3, e4, e5⟩ := E.ow i d g
      refine ⟨a, x, e1, ?_, e3, e4.mono sub, e5⟩
      unfold lentF
      rw [if_neg]
      · exact e2
      · rintro ⟨j, d', hj, gj, ej⟩
        exact E.ap j i a d' d (fun w => hi (w ▸ hj)) gj g ej e1
  · rw [lend_O] at gi gj
    split at gi
    · cases gi
    · split at gj
      · cases gj
      · exact E.ap i j a d e hne gi gj ei
  · unfold lentF at e
    split at e
    · rename_i hl
      obtain ⟨i, d, hi, g, ei⟩ := hl
      obtain ⟨_, _, _, _, z⟩ := E.own_some g ei
      rcases z with z | z
      · exact .inr (.inl z)
      · exact .inr (.inr z.1)
    · exact E.fn0 a o e
theorem unlend_len : ∀ (ld : List Nat) (r0 r : Ev), (unlend r0 r ld).length = r.length
  | [], r0, r => rfl
  | v :: vs, r0, r => by
    unfold unlend
    cases e : getO r0 v with
    | none => exact unlend_len vs r0 r
    | some d => exact (unlend_len vs r0 _).trans (by unfold putO; rw [List.length_set])
theorem unlend_get : ∀ (ld : List Nat) (r0 r : Ev) (j : Nat), r.length = r0.length → (unlend r0 r ld)[j]? = if j ∈ ld then (match getO r0 j with | some d => some (some (Sl.o d)) | none => r[j]?) else r[j]?
  | [], r0, r, j, _ => by simp [unlend]
  | v :: vs, r0, r, j, hl => by
    unfold unlend
    cases e : getO r0 v with
    | none =>
      show (unlend r0 r vs)[j]? = _
      rw [unlend_get vs r0 r j hl]
      by_cases h : j = v
      · subst h
        rw [if_pos List.mem_cons_self, e]
        split <;> rfl
      · by_cases h2 : j ∈ vs
        · rw [if_pos h2, if_pos (List.mem_cons_of_mem _ h2)]
        · rw [if_neg h2, if_neg (by simp only [List.mem_cons, not_or]; exact ⟨h, h2⟩)]
    | some d =>
      show (unlend r0 (putO r v d) vs)[j]? = _
      rw [unlend_get vs r0 _ j (by unfold putO; rw [List.length_set]; exact hl)]
      unfold putO
      by_cases h : j = v
      · subst h
        have hj : j < r.length := by rw [hl]; exact getO_lt e
        rw [if_pos List.mem_cons_self, e]
        split
        · rfl
        · rw [List.getElem?_set_self hj]
      · rw [List.getElem?_set_ne (fun z => h z.symm)]
        by_cases h2 : j ∈ vs
        · rw [if_pos h2, if_pos (List.mem_cons_of_mem _ h2)]
        · rw [if_neg h2, if_neg (by simp only [List.mem_cons, not_or]; exact ⟨h, h2⟩)]
theorem ownFlat_at {r : Ev} (h : ownFlat r = true) {i : Nat} {d : D} (g : getO r i = some d) : flatF d true = true := by
  unfold ownFlat at h
  rw [List.all_eq_true] at h
  exact h _ (List.mem_of_getElem? (getO_at g))
theorem EnvOk.unlent0 (E : EnvOk B F H σ r) (E' : EnvOk B F' H' σ r') (G : Grow (lentF F H r σ ld) H σ (lend r ld) F' H' r') (ho : ownFlat r' = true) :
    ∃ F2, EnvOk B F2 H' σ (unlend r r' ld) ∧ Sub F F2 ∧ (∀ b xs, F' b = some (.tup xs) → F2 b = some (.tup xs)) ∧ (∀ b o xs, F' b = some (.frz o (.tup xs)) → F2 b = some (.frz o (.tup xs))) ∧ Sub F2 F' := by
  have hl : r'.length = r.length := by rw [G.ln, lend_len]
  have lent : ∀ a, LentAt r σ ld a → F a = none ∧ ∃ x i d, H' a = some x ∧ i ∈ ld ∧ getO r i = some d ∧ σ[i]? = some (some (V.ref a)) ∧ OwnO B.K F x d := fun a ⟨i, d, hi, g, e⟩ => by
    obtain ⟨q1, x, q2, q3, _⟩ := E.own_some g e
    refine ⟨q1, x, i, d, G.gk a x q2 fun j d' g' e' => ?_, hi, g, e, q3⟩
    rw [lend_O] at g'
    split at g'
    · cases g'
    · rename_i hj
      exact E.ap i j a d d' (fun w => hj (w ▸ hi)) g g' e e'
  have notT : ∀ a, LentAt r σ ld a → (∀ xs, F' a ≠ some (.tup xs)) ∧ ∀ o xs, F' a ≠ some (.frz o (.tup xs)) := fun a h => by
    obtain ⟨_, x, i, d, hx, _, _, _, ow⟩ := lent a h
    have nx : (∀ xs, x ≠ .tup xs) ∧ ∀ o xs, x ≠ .frz o (.tup xs) := by
      cases d with
      | list ds => obtain ⟨xs, rfl, _⟩ := ow; exact ⟨fun _ z => (nomatch z), fun _ _ z => (nomatch z)⟩
      | dict ds => rcases ow with ⟨kvs, rfl, _⟩ | ⟨kvs, rfl, _⟩ <;> exact ⟨fun _ z => (nomatch z), fun _ _ z => (nomatch z)⟩
      | _ => exact ow.elim
    exact ⟨fun xs e => by have := E'.fle _ _ e; rw [hx] at this; exact nx.1 xs (Option.some.inj this), fun o xs e => by have := E'.fle _ _ e; rw [hx] at this; exact nx.2 o xs (Option.some.inj this)⟩
  have hT : ∀ b xs, F' b = some (.tup xs) → takeF F' r σ ld b = some (.tup xs) := fun b xs e => by
    unfold takeF
    rw [if_neg fun h => (notT b h).1 xs e]
    exact e
  have hZ : ∀ b o xs, F' b = some (.frz o (.tup xs)) → takeF F' r σ ld b = some (.frz o (.tup xs)) := fun b o xs e => by
    unfold takeF
    rw [if_neg fun h => (notT b h).2 o xs e]
    exact e
  have sub : Sub F (takeF F' r σ ld) := fun a o e => by
    unfold takeF
    rw [if_neg]
    · refine G.gf a o ?_
      exact E.lent.2 a o e
    · intro h
      rw [(lent a h).1] at e
      cases e
  have sub2 : Sub (takeF F' r σ ld) F' := fun a o e => by
    unfold takeF at e
    split at e
    · cases e
    · exact e
  have at_ := fun j => unlend_get ld r r' j hl
  have gO : ∀ j e, getO (unlend r r' ld) j = some e → (j ∈ ld ∧ getO r j = some e) ∨ (getO r' j = some e ∧ (j ∉ ld ∨ getO r j = none)) := fun j e g => by
    have z := getO_at g
    rw [at_] at z
    by_cases hj : j ∈ ld
    · rw [if_pos hj] at z
      cases q : getO r j with
      | some d => rw [q] at z; cases z; exact .inl ⟨hj, rfl⟩
      | none => rw [q] at z; exact .inr ⟨getO_of z, .inr rfl⟩
    · rw [if_neg hj] at z
      exact .inr ⟨getO_of z, .inl hj⟩
  have oldO : ∀ j e, getO (unlend r r' ld) j = some e → ∃ e', getO r j = some e' := fun j e g => by
    rcases gO j e g with ⟨_, z⟩ | ⟨z, _⟩
    · exact ⟨_, z⟩
    · obtain ⟨e', z'⟩ := G.kd j e z
      rw [lend_O] at z'
      split at z'
      · cases z'
      · exact ⟨_, z'⟩
  refine ⟨takeF F' r σ ld, ⟨by rw [unlend_len, hl]; exact E.len, fun a o e => E'.fle a o (sub2 a o e), fun j e g => ?_, fun j e g => ?_, fun i j a e e2 hne gi gj ei => ?_, fun j k e => ?_, E'.fr, E'.dm, E.f0.trans sub, fun a o e => E'.fn0 a o (sub2 a o e), E.is⟩, sub, hT, hZ, sub2⟩
  · have z := getP_at g
    rw [at_] at z
    have z2 : getP r' j = some e := by
      by_cases hj : j ∈ ld
      · rw [if_pos hj] at z
        cases q : getO r j with
        | some d => rw [q] at z; cases z
        | none => rw [q] at z; exact getP_of z
      · rw [if_neg hj] at z
        exact getP_of z
    rcases lend_P ld r j e (G.kp j e z2) with w | ⟨w, w2⟩
    · obtain ⟨v, q1, q2⟩ := E.pv j e w
      exact ⟨v, q1, q2.mono sub⟩
    · rw [if_pos w, w2] at z
      cases z
  · rcases gO j e g with ⟨hj, gj⟩ | ⟨gj, hj⟩
    · obtain ⟨a, x, e1, e2, e3, e4, e5⟩ := E.ow j e gj
      have hla : LentAt r σ ld a := ⟨j, e, hj, gj, e1⟩
      refine ⟨a, x, e1, by unfold takeF; rw [if_pos hla], ?_, e4.mono sub, e5⟩
      refine G.gk a x e3 fun l d' g' e' => ?_
      rw [lend_O] at g'
      split at g'
      · cases g'
      · rename_i hl2
        exact E.ap j l a e d' (fun w => hl2 (w ▸ hj)) gj g' e1 e'
    · obtain ⟨a, x, e1, e2, e3, e4, e5⟩ := E'.ow j e gj
      refine ⟨a, x, e1, ?_, e3, e4.flat hT hZ (ownFlat_at ho gj), e5⟩
      unfold takeF
      split
      · rfl
      · exact e2
  · obtain ⟨_, k1⟩ := oldO i e gi
    obtain ⟨_, k2⟩ := oldO j e2 gj
    exact E.ap i j a _ _ hne k1 k2 ei
  · rw [at_] at e
    by_cases hj : j ∈ ld
    · rw [if_pos hj] at e
      cases q : getO r j with
      | some d => rw [q] at e; cases e
      | none => rw [q] at e; exact E'.fn j k e
    · rw [if_neg hj] at e
      exact E'.fn j k e
theorem EnvOk.unlent_all {F1 : Hp} (E : EnvOk B F H σ r) (E' : EnvOk B F' H' σ r') (G : Grow (lentF F H r σ ld) H σ (lend r ld) F' H' r') (ho : ownFlat r' = true) :
    ∃ F2, EnvOk B F2 H' σ (unlend r r' ld) ∧ Sub F F2 ∧ ∀ v d, Rep B.K F' v d → flat d = true → Rep B.K F2 v d := by
  obtain ⟨F2, E2, s2, hT, hZ, _⟩ := E.unlent0 E' G ho
  exact ⟨F2, E2, s2, fun v d h c => h.flat hT hZ c⟩
theorem EnvOk.unlent {F1 : Hp} {v : V} {d : D} {fr : Bool} (E : EnvOk B F H σ r) (E' : EnvOk B F' H' σ r') (G : Grow (lentF F H r σ ld) H σ (lend r ld) F' H' r') (hv : ValOk B.K F' H' H v d fr) (hd : flatF d fr = true) (ho : ownFlat r' = true) :
    ∃ F2, EnvOk B F2 H' σ (unlend r r' ld) ∧ Sub F F2 ∧ ValOk B.K F2 H' H v d fr := by
  obtain ⟨F2, E2, s2, hT, hZ, sub2⟩ := E.unlent0 E' G ho
  refine ⟨F2, E2, s2, ?_⟩
  unfold ValOk at hv ⊢
  cases fr with
  | false =>
    rw [if_neg (by decide)] at hv ⊢
    unfold flatF at hd
    rw [if_neg (by decide)] at hd
    exact hv.flat hT hZ hd
  | true =>
    rw [if_pos rfl] at hv ⊢
    obtain ⟨a, x, e1, e2, e3, e4, e5⟩ := hv
    exact ⟨a, x, e1, e2, none_sub sub2 e3, e4, e5.flat hT hZ hd⟩
end

/-- a value behind a whole expression: what is new is no slot's -/
def SVal (B : Bs) (F' H' : Hp) (σ : L2.St) (r' : Ev) (v : V) (d : D) (fr : Bool) : Prop :=
  ValOk B.K F' H' B.H0 v d fr ∧ (fr = true → ∀ a, v = .ref a → ∀ j e, getO r' j = some e → σ[j]? ≠ some (some (.ref a)))
def tEvL (B : Bs) (Ph : Nat → List D → Rs) (ld : List Nat) (c : CE) : TE := fun σ H Q => ∃ F r, EnvOk B F H σ r ∧ ∃ d fr r', evL Ph ld c r = .ok d fr r' ∧ ∀ v F' H', EnvOk B F' H' σ r' → Sub F F' → SVal B F' H' σ r' v d fr → Q v H'
section
variable {B : Bs} {Ph : Nat → List D → Rs} {X : Cx} {T : List FT} {k : Nat}
theorem evL_ok {ld : List Nat} {c : CE} {r r' : Ev} {d : D} {fr : Bool} (h : evL Ph ld c r = .ok d fr r') : ∃ r1, ev Ph c (lend r ld) = .ok d fr r1 ∧ ((flatF d fr && ownFlat r1) = true ∧ r' = unlend r r1 ld ∨ r' = r1) := by
  unfold evL at h
  split at h
  · rename_i d2 f2 r1 e
    cases h
    refine ⟨r1, e, ?_⟩
    split
    · rename_i hc
      exact .inl ⟨hc, rfl⟩
    · exact .inr rfl
  · cases h
  · cases h
theorem evL_read {ld : List Nat} {c : CE} {σ : L2.St} {H : Hp} {Q : VK} (h : tEvL B Ph ld c σ H Q) : tEv B Ph c σ H Q := by
  obtain ⟨F, r, E, d, fr, r', ee, q⟩ := h
  obtain ⟨r1, e1, ways⟩ := evL_ok ee
  obtain ⟨E1, s1⟩ := E.lent (ld := ld)
  refine ⟨_, _, E1, d, fr, r1, e1, fun v F' H' E' G hv => ?_⟩
  have nw : ∀ r2, (∀ j e, getO r2 j = some e → ∃ e', getO r j = some e') → fr = true → ∀ a, v = .ref a → ∀ j e, getO r2 j = some e → σ[j]? ≠ some (some (.ref a)) := fun r2 hk hf a ha j e g ej => by
    subst hf
    unfold ValOk at hv
    rw [if_pos rfl] at hv
    obtain ⟨b, x, e1, e2, _⟩ := hv
    rw [ha] at e1
    cases e1
    obtain ⟨e', g'⟩ := hk j e g
    obtain ⟨_, y, hy, _⟩ := E.own_some g' ej
    rw [e2] at hy
    cases hy
  have old1 : ∀ j e, getO r1 j = some e → ∃ e', getO r j = some e' := fun j e g => by
    obtain ⟨e', g'⟩ := G.kd j e g
    rw [lend_O] at g'
    split at g'
    · cases g'
    · exact ⟨_, g'⟩
  rcases ways with ⟨hc, rfl⟩ | rfl
  · rw [Bool.and_eq_true] at hc
    obtain ⟨F2, E2, s2, v2⟩ := E.unlent (F1 := F) E' G hv hc.1 hc.2
    refine q v F2 H' E2 s2 ⟨v2.back E.dm, nw _ fun j e g => ?_⟩
    have hl : r1.length = r.length := by rw [G.ln, lend_len]
    have z := getO_at g
    rw [unlend_get ld r r1 j hl] at z
    by_cases hj : j ∈ ld
    · rw [if_pos hj] at z
      cases w : getO r j with
      | some d => exact ⟨d, rfl⟩
      | none => rw [w] at z; exact old1 j e (getO_of z) |>.imp fun _ q => by rw [w] at q; cases q
    · rw [if_neg hj] at z
      exact old1 j e (getO_of z)
  · exact q v F' H' E' (s1.trans G.gf) ⟨hv.back E.dm, nw _ old1⟩
theorem pe_L {ld : List Nat} {c : CE} {e : Expr} (h : PE X e (tEv B Ph c)) : PE X e (tEvL B Ph ld c) := pe_mono h fun σ H Q q => evL_read q
end
end TP

set_option Elab.async false
set_option linter.all false
set_option maxRecDepth 100000
/-! TP12: statements. -/
namespace TP
open PySem PySem.Spec PyProof.Rows L2

/-- what is wanted behind a statement that ended so -/
def FlOk (B : Bs) (F : Hp) (D : Ends) : Fl → Prop
  | .nx r' => ∀ σ' F' H', EnvOk B F' H' σ' r' → Sub F F' → D.nx σ' H'
  | .brk r' => ∀ σ' F' H', EnvOk B F' H' σ' r' → Sub F F' → D.bk σ' H'
  | .cnt r' => ∀ σ' F' H', EnvOk B F' H' σ' r' → Sub F F' → D.ct σ' H'
  | .ret d fr r' => ∀ v σ' F' H', EnvOk B F' H' σ' r' → Sub F F' → SVal B F' H' σ' r' v d fr → D.rt v H'
  | _ => False
def tSt (B : Bs) (Ph : Nat → List D → Rs) (c : CS) : TS := fun D σ H => ∃ F r, EnvOk B F H σ r ∧ FlOk B F D (evS Ph c r)
theorem FlOk.sub {B : Bs} {F F1 : Hp} {D : Ends} {f : Fl} (h : FlOk B F D f) (s : Sub F F1) : FlOk B F1 D f := by
  cases f with
  | nx r => exact fun σ' F' H' E z => h σ' F' H' E (s.trans z)
  | brk r => exact fun σ' F' H' E z => h σ' F' H' E (s.trans z)
  | cnt r => exact fun σ' F' H' E z => h σ' F' H' E (s.trans z)
  | ret d fr r => exact fun v σ' F' H' E z w => h v σ' F' H' E (s.trans z) w
  | exc _ _ _ => exact h
  | stuck => exact h
theorem ps_mono {X : Cx} {st : Stmt} {t t' : TS} (h : PS X st t) (m : ∀ D σ H, t' D σ H → t D σ H) : PS X st t' := ⟨fun pins s σ H D I q => h.run pins s σ H D I (m D σ H q)⟩
theorem pss_mono {X : Cx} {st : List Stmt} {t t' : TS} (h : PSs X st t) (m : ∀ D σ H, t' D σ H → t D σ H) : PSs X st t' := ⟨fun pins s σ H D I q => h.run pins s σ H D I (m D σ H q)⟩

section
variable {B : Bs} {Ph : Nat → List D → Rs} {X : Cx} {T : List FT} {k : Nat}
theorem flow_ok {x : Out} {kk : D → Bool → Ev → Fl} {F : Hp} {D : Ends} (h : FlOk B F D (x.flow kk)) : ∃ d fr r', x = .ok d fr r' ∧ FlOk B F D (kk d fr r') := by
  cases x with
  | ok d fr r => exact ⟨d, fr, r, rfl, h⟩
  | exc c fs r => exact h.elim
  | stuck => exact h.elim
/-- a value is stored -/
theorem EnvOk.setV {F H : Hp} {σ : L2.St} {r : Ev} {v : V} {d : D} {fr : Bool} {i : Nat} (E : EnvOk B F H σ r) (hio : B.io = [] ∨ i ≠ 0) (hv : SVal B F H σ r v d fr) : EnvOk B F H (σ.set i (some v)) (putV r i d fr) := by
  unfold putV
  obtain ⟨hv, hn⟩ := hv
  unfold ValOk at hv
  cases fr with
  | false =>
    rw [if_neg (by decide)] at hv ⊢
    exact E.setP hv hio
  | true =>
    rw [if_pos rfl] at hv ⊢
    obtain ⟨a, x, rfl, h0, hf, hx, ow⟩ := hv
    have nn := hn rfl a rfl
    have gO : ∀ j e, getO (putO r i d) j = some e → (i = j ∧ i < r.length ∧ e = d) ∨ (i ≠ j ∧ getO r j = some e) := fun j e g => by
      rw [getO_putO] at g
      by_cases hij : i = j
      · rw [if_pos hij] at g
        by_cases hi : i < r.length
        · rw [if_pos hi] at g; cases g; exact .inl ⟨hij, hi, rfl⟩
        · rw [if_neg hi] at g; cases g
      · rw [if_neg hij] at g; exact .inr ⟨hij, g⟩
    refine ⟨by unfold putO; rw [List.length_set, List.length_set]; exact E.len, E.fle, fun j e g => ?_, fun j e g => ?_, fun j l b e f hne gj gl ej => ?_, fun j n e => ?_, E.fr, E.dm, E.f0, E.fn0, fun b hb => ?_⟩
    · rw [getP_putO] at g
      by_cases hij : i = j
      · rw [if_pos hij] at g; cases g
      · rw [if_neg hij] at g
        rw [List.getElem?_set_ne hij]
        exact E.pv j e g
    · rcases gO j e g with ⟨rfl, hi, rfl⟩ | ⟨hij, g⟩
      · exact ⟨a, x, List.getElem?_set_self (by rw [E.len]; exact hi), hf, hx, ow, .inl h0⟩
      · rw [List.getElem?_set_ne hij]
        exact E.ow j e g
    · rcases gO j e gj with ⟨hij, hi, _⟩ | ⟨hij, g1⟩
      · subst hij
        rw [List.getElem?_set_self (by rw [E.len]; exact hi)] at ej
        cases ej
        rcases gO l f gl with ⟨hil, _, _⟩ | ⟨hil, g2⟩
        · exact absurd hil hne
        · rw [List.getElem?_set_ne hil]
          exact nn l f g2
      · rw [List.getElem?_set_ne hij] at ej
        rcases gO l f gl with ⟨hil, hi, _⟩ | ⟨hil, g2⟩
        · subst hil
          rw [List.getElem?_set_self (by rw [E.len]; exact hi)]
          intro z
          cases z
          exact nn j e g1 ej
        · rw [List.getElem?_set_ne hil]
          exact E.ap j l b e f hne g1 g2 ej
    · unfold putO at e
      by_cases hij : i = j
      · subst hij
        by_cases hi : i < r.length
        · rw [List.getElem?_set_self hi] at e; cases e
        · rw [List.getElem?_eq_none (by rw [List.length_set]; omega)] at e; cases e
      · rw [List.getElem?_set_ne hij] at e ⊢
        exact E.fn j n e
    · rcases hio with z | z
      · rw [z] at hb; cases hb
      · rw [List.getElem?_set_ne z]
        exact E.is b hb
theorem SVal.give {F H : Hp} {σ : L2.St} {r : Ev} {v : V} {d : D} {fr : Bool} (E : EnvOk B F H σ r) (hv : SVal B F H σ r v d fr) : ∃ F2, EnvOk B F2 H σ r ∧ Sub F F2 ∧ Rep B.K F2 v d := by
  obtain ⟨hv, hn⟩ := hv
  unfold ValOk at hv
  cases fr with
  | false =>
    rw [if_neg (by decide)] at hv
    exact ⟨F, E, Sub.refl _, hv⟩
  | true =>
    rw [if_pos rfl] at hv
    obtain ⟨a, x, rfl, h0, hf, hx, ow⟩ := hv
    exact ⟨upd F a x, E.freeze hx (hn rfl a rfl) (.inl h0) hf, sub_upd hf, (ow.mono (sub_upd hf)).rep upd_same⟩

theorem ps_skipT {pos : Pos} : PS X (.Pass pos) (tSt B Ph .skip) := ps_mono ps_pass fun D σ H ⟨F, r, E, h⟩ => by
  exact h σ F H E (Sub.refl _)
theorem ps_brkT {pos : Pos} : PS X (.Break pos) (tSt B Ph .brk) := ps_mono ps_break fun D σ H ⟨F, r, E, h⟩ => by
  exact h σ F H E (Sub.refl _)
theorem ps_cntT {pos : Pos} : PS X (.Continue pos) (tSt B Ph .cnt) := ps_mono ps_continue fun D σ H ⟨F, r, E, h⟩ => by
  exact h σ F H E (Sub.refl _)
theorem ps_neverT {st : Stmt} : PS X st (tSt B Ph .never) := ps_mono ps_never fun D σ H ⟨F, r, E, h⟩ => h.elim
theorem pss_nilT : PSs X [] (tSt B Ph .skip) := pss_mono pss_nil fun D σ H ⟨F, r, E, h⟩ => by
  exact h σ F H E (Sub.refl _)
theorem seq_core {a b : CS} {F : Hp} {r : Ev} {D : Ends} (h : FlOk B F D (evS Ph (.seq a b) r)) : FlOk B F { D with nx := tSt B Ph b D } (evS Ph a r) := by
  simp only [evS] at h
  cases e : evS Ph a r with
  | nx r1 =>
    rw [e] at h
    exact fun σ' F' H' E s => ⟨F', r1, E, h.sub s⟩
  | brk r => rw [e] at h; exact h
  | cnt r => rw [e] at h; exact h
  | ret d fr r => rw [e] at h; exact h
  | exc _ _ _ => rw [e] at h; exact h
  | stuck => rw [e] at h; exact h
theorem pss_consT {a b : CS} {st : Stmt} {rest : List Stmt} (ha : PS X st (tSt B Ph a)) (hb : PSs X rest (tSt B Ph b)) : PSs X (st :: rest) (tSt B Ph (.seq a b)) :=
  pss_mono (pss_cons ha hb) fun D σ H ⟨F, r, E, h⟩ => ⟨F, r, E, seq_core h⟩
theorem ps_asgT {i : Nat} {ld : List Nat} {c : CE} {x : Str} {e : Expr} {p pos : Pos} (hio : B.io = [] ∨ i ≠ 0) (he : PE X e (tEv B Ph c)) (hN : X.N.Nodup) (hi : X.N[i]? = some x) (hx : Loc X.env.scope x) (hf : X.fn x = true ∨ X.env.scope.names.lookup x = some .local)
    (hs : swapsWith e (some (.Name x p)) pos.line X.env = pure false) : PS X (.Assign [.Name x p] e pos) (tSt B Ph (.asg i ld c)) :=
  ps_mono (ps_set hN hi hx (pe_L he) hs hf) fun D σ H ⟨F, r, E, h⟩ => by
    simp only [evS] at h
    obtain ⟨d, fr, r', e1, h⟩ := flow_ok h
    exact ⟨F, r, E, d, fr, r', e1, fun v F' H' E' s hv => h _ F' H' (E'.setV hio hv) s⟩
theorem ps_expT {ld : List Nat} {c : CE} {e : Expr} {pos : Pos} (he : PE X e (tEv B Ph c)) (hs : swapsWith e none pos.line X.env = pure false) : PS X (.Expr e pos) (tSt B Ph (.exp ld c)) :=
  ps_mono (ps_expr (pe_L he) hs) fun D σ H ⟨F, r, E, h⟩ => by
    simp only [evS] at h
    obtain ⟨d, fr, r', e1, h⟩ := flow_ok h
    exact ⟨F, r, E, d, fr, r', e1, fun v F' H' E' s hv => h _ F' H' E' s⟩
theorem ps_retT {ld : List Nat} {c : CE} {e : Expr} {pos : Pos} (he : PE X e (tEv B Ph c)) : PS X (.Return (some e) pos) (tSt B Ph (.ret ld c)) :=
  ps_mono (ps_ret (pe_L he)) fun D σ H ⟨F, r, E, h⟩ => by
    simp only [evS] at h
    obtain ⟨d, fr, r', e1, h⟩ := flow_ok h
    exact ⟨F, r, E, d, fr, r', e1, fun v F' H' E' s hv => h v σ F' H' E' s hv⟩
theorem ps_retOT {i : Nat} {x : Str} {p pos : Pos} (hio : B.io = [] ∨ i ≠ 0) (hN : X.N[i]? = some x) (hv : Vis X.env.scope x) (hd : (x == ("__debug__" : Str)) = false) (hcd : (x == ("__classdict__" : Str)) = false) : PS X (.Return (some (.Name x p)) pos) (tSt B Ph (.retO i)) :=
  ps_mono (ps_ret (pe_var hN hv hd hcd)) fun D σ H ⟨F, r, E, h⟩ => by
    simp only [evS] at h
    split at h
    · rename_i d g
      obtain ⟨a, y, e1, e2, e3, e4, e5⟩ := E.ow i d g
      refine ⟨.ref a, e1, ?_⟩
      have h0 : B.H0 a = none := by
        rcases e5 with z | ⟨z, zi⟩
        · exact z
        · rcases hio with w | w
          · rw [w] at z; cases z
          · exact absurd zi w
      have gO : ∀ j e, getO (r.set i none) j = some e → i ≠ j ∧ getO r j = some e := fun j e g => by
        rw [getO_set] at g
        by_cases hij : i = j
        · rw [if_pos hij] at g
          split at g <;> cases g
        · rw [if_neg hij] at g; exact ⟨hij, g⟩
      have E2 : EnvOk B F H σ (r.set i none) := ⟨by rw [List.length_set]; exact E.len, E.fle, fun j e g => by
        rw [getP_set] at g
        by_cases hij : i = j
        · rw [if_pos hij] at g
          split at g <;> cases g
        · rw [if_neg hij] at g; exact E.pv j e g, fun j e g => E.ow j e (gO j e g).2, fun j l b e f hne gj gl ej => E.ap j l b e f hne (gO j e gj).2 (gO l f gl).2 ej, fun j n e => by
        by_cases hij : i = j
        · subst hij
          rw [List.getElem?_set_self (getO_lt g)] at e
          cases e
        · rw [List.getElem?_set_ne hij] at e; exact E.fn j n e, E.fr, E.dm, E.f0, E.fn0, E.is⟩
      refine h _ σ F H E2 (Sub.refl _) ⟨?_, fun _ b hb j e gj ej => ?_⟩
      · unfold ValOk
        rw [if_pos rfl]
        exact ⟨a, y, rfl, h0, e2, e3, e4⟩
      · cases hb
        obtain ⟨hij, gj⟩ := gO j e gj
        exact E.ap i j a d e hij g gj e1 ej
    · exact h.elim
/-! ### tests -/
def tTrL (B : Bs) (Ph : Nat → List D → Rs) (ld : List Nat) (c : CE) : TT := fun σ H Q => ∃ F r, EnvOk B F H σ r ∧ ∃ d fr r' b, evL Ph ld c r = .ok d fr r' ∧ truth d = some b ∧ ∀ F' H', EnvOk B F' H' σ r' → Sub F F' → Q b H'
theorem flat_truth {d : D} {fr : Bool} (h : flatF d fr = true) : True := trivial
theorem pt_L {ld : List Nat} {c : CE} {e : Expr} (h : PT X e (tTr B Ph c)) : PT X e (tTrL B Ph ld c) := pt_mono h fun σ H Q ⟨F, r, E, d, fr, r', b, ee, et, q⟩ => by
  obtain ⟨r1, e1, ways⟩ := evL_ok ee
  obtain ⟨E1, s1⟩ := E.lent (ld := ld)
  refine ⟨_, _, E1, d, fr, r1, b, e1, et, fun F' H' E' G => ?_⟩
  rcases ways with ⟨hc, rfl⟩ | rfl
  · rw [Bool.and_eq_true] at hc
    obtain ⟨F2, E2, s2, _⟩ := E.unlent (F1 := F) (v := .non) (d := .none) (fr := false) E' G (ValOk.rep0 .non) (by decide) hc.2
    exact q F2 H' E2 s2
  · exact q F' H' E' (s1.trans G.gf)
theorem ps_ifT {ld : List Nat} {c : CE} {a b : CS} {e : Expr} {sa sb : List Stmt} {pos : Pos} (hc : PT X e (tTrL B Ph ld c)) (ha : PSs X sa (tSt B Ph a)) (hb : PSs X sb (tSt B Ph b)) : PS X (.If e sa sb pos) (tSt B Ph (.ifs ld c a b)) :=
  ps_mono (ps_if hc ha hb) fun D σ H ⟨F, r, E, h⟩ => by
    simp only [evS] at h
    obtain ⟨d, fr, r', e1, h⟩ := flow_ok h
    split at h
    · rename_i et
      exact ⟨F, r, E, d, fr, r', true, e1, et, fun F' H' E' s => iteT ⟨F', r', E', h.sub s⟩⟩
    · rename_i et
      exact ⟨F, r, E, d, fr, r', false, e1, et, fun F' H' E' s => iteF ⟨F', r', E', h.sub s⟩⟩
    · exact h.elim
end
end TP

set_option Elab.async false
set_option linter.all false
set_option maxRecDepth 100000
/-! TP13: more statements. -/
namespace TP
open PySem PySem.Spec PyProof.Rows L2

/-- a tuple of targets from a list or tuple -/
def gU (B : Bs) (t : CT) : TG := fun v σ H Q => ∃ F r d l r', EnvOk B F H σ r ∧ Rep B.K F v d ∧ seqD d = some l ∧ bindT t (.tuple l) r = some r' ∧ ∀ σ', EnvOk B F H σ' r' → Off t.slots σ σ' → Q σ' H
section
variable {B : Bs} {Ph : Nat → List D → Rs} {X : Cx} {T : List FT} {k : Nat}
theorem pg_U {t : CT} {es : List Expr} {kk n : Nat} {pos : Pos} (hK : B.K = X.K) (hc : X.calm = true) (h : PGs X es (gTs B t)) (hn : (assignEach es X.env).length = n) (hl : ∀ d r r', bindT t (.tuple d) r = some r' → d.length = n)
    (hst : (assignEach es X.env).findIdx? (·.1) = none) : PG X (.Tuple es kk pos) (gU B t) := by
  refine ⟨fun pins s σ H v u Q I ru ⟨F, r, d, l, r', E, rv, es', eb, q⟩ => ?_⟩
  cases d <;> simp only [seqD] at es' <;> try (cases es'; done)
  · cases es'
    obtain ⟨a, xs, rfl, hs, rs⟩ := rv.lst_inv
    refine (pg_unl hc h hn hst).run pins s σ H _ u Q I ru ?_
    rw [hK] at hs
    exact ⟨a, xs, rfl, SqL.sub E.fle hs, by rw [rs.length]; exact hl _ r r' eb, F, r, _, r', E, rs, eb, q⟩
  · cases es'
    obtain ⟨a, xs, rfl, hs, rs⟩ := rv.tup_inv
    refine (pg_tup hc h hn hst).run pins s σ H _ u Q I ru ?_
    rw [hK] at hs
    exact ⟨a, xs, rfl, SqT.sub E.fle hs, by rw [rs.length]; exact hl _ r r' eb, F, r, _, r', E, rs, eb, q⟩
theorem ps_unpT {t : CT} {ld : List Nat} {c : CE} {e : Expr} {tg : Expr} {pos : Pos} (he : PE X e (tEv B Ph c)) (hg : PG X tg (gU B t)) (hs : swapsWithSole [tg] e pos.line X.env = pure false) (hw : swappedStores [tg] e X.env = pure none)
    (h1 : (assignEach [tg] X.env).map (·.2) = [assign tg X.env]) : PS X (.Assign [tg] e pos) (tSt B Ph (.unp t ld c)) :=
  ps_mono (ps_asg (pe_L he) hg hs hw h1) fun D σ H ⟨F, r, E, h⟩ => by
    simp only [evS] at h
    obtain ⟨d, fr, r', e1, h⟩ := flow_ok h
    refine ⟨F, r, E, d, fr, r', e1, fun v F' H' E' s hv => ?_⟩
    obtain ⟨F2, E2, s2, rv⟩ := hv.give E'
    cases d with
    | tuple l =>
      simp only at h
      split at h
      · rename_i r2 eb
        exact ⟨F2, r', _, l, r2, E2, rv, rfl, eb, fun σ' E3 _ => h σ' F2 H' E3 (s.trans s2)⟩
      · exact h.elim
    | list l =>
      simp only at h
      split at h
      · rename_i r2 eb
        exact ⟨F2, r', _, l, r2, E2, rv, rfl, eb, fun σ' E3 _ => h σ' F2 H' E3 (s.trans s2)⟩
      · exact h.elim
    | _ => exact h.elim
/-- arguments with what is lent -/
def tAsL (B : Bs) (Ph : Nat → List D → Rs) (ld : List Nat) (c : CE) : TA := fun σ H Q => ∃ F r, EnvOk B F H σ r ∧ ∃ l fr r', evL Ph ld c r = .ok (.tuple l) fr r' ∧ ∀ vs F' H', EnvOk B F' H' σ r' → Sub F F' → RepAll B.K F' vs l → Q vs H'
theorem spine_fr {c : CE} {r r' : Ev} {l : List D} {fr : Bool} (hc : c = .nil ∨ ∃ a b, c = .cons a b) (h : ev Ph c r = .ok (.tuple l) fr r') : fr = false := by
  rcases hc with rfl | ⟨a, b, rfl⟩
  · simp only [ev] at h; cases h; rfl
  · simp only [ev] at h
    obtain ⟨d1, f1, r1, e1, h⟩ := Out.bind_ok h
    obtain ⟨d2, f2, r2, e2, h⟩ := Out.bind_ok h
    split at h
    · cases h; rfl
    · cases h
theorem RepAll.flatV {K : PySem.W.Frag} {F G : Hp} {vs : List V} {l : List D} (h : RepAll K F vs l) (f : ∀ {v : V} {d : D}, Rep K F v d → TP.flat d = true → Rep K G v d) (c : flats l = true) : RepAll K G vs l := by
  induction l generalizing vs with
  | nil => cases h; exact .nil
  | cons d l ih =>
    cases h with
    | cons h t =>
      rw [flats, Bool.and_eq_true] at c
      exact .cons (f h c.1) (ih t c.2)
theorem pa_L {ld : List Nat} {c : CE} {es : List Expr} (hc : c = .nil ∨ ∃ a b, c = .cons a b) (h : PA X es (tAs B Ph c)) : PA X es (tAsL B Ph ld c) := pa_mono h fun σ H Q ⟨F, r, E, l, fr, r', ee, q⟩ => by
  obtain ⟨r1, e1, ways⟩ := evL_ok ee
  obtain ⟨E1, s1⟩ := E.lent (ld := ld)
  refine ⟨_, _, E1, l, fr, r1, e1, fun vs F' H' E' G rv => ?_⟩
  have hf := spine_fr hc e1
  subst hf
  rcases ways with ⟨hcc, rfl⟩ | rfl
  · rw [Bool.and_eq_true] at hcc
    -- the values one by one: a tuple that stands nowhere is put up for the lemma
    have hl : flats l = true := by
      have := hcc.1
      unfold flatF at this
      rw [if_neg (by decide), flat] at this
      exact this
    obtain ⟨F2, E2, s2, hall⟩ : ∃ F2, EnvOk B F2 H' σ (unlend r r1 ld) ∧ Sub F F2 ∧ RepAll B.K F2 vs l := by
      obtain ⟨F2, E2, s2, hF⟩ := E.unlent_all (F1 := F) E' G hcc.2
      exact ⟨F2, E2, s2, rv.flatV (fun {v d} h c => hF v d h c) hl⟩
    exact q vs F2 H' E2 s2 hall
  · exact q vs F' H' E' (s1.trans G.gf) rv
theorem ps_parT {i j : Nat} {ld : List Nat} {c c' : CE} {x y : Str} {a b : Expr} {px py pt : Pos} {kt k2 : Nat} {pt2 pos : Pos} (C : Ctx X B Ph T k) (hio : B.io = [] ∨ (i ≠ 0 ∧ j ≠ 0)) (hi : X.N[i]? = some x) (hj : X.N[j]? = some y) (hij : i ≠ j)
    (hx : X.env.scope.names.lookup x = some .local) (hy : X.env.scope.names.lookup y = some .local) (ha : PA X [a, b] (tAs B Ph (.cons c (.cons c' .nil))))
    (hw : swappedStores [.Tuple [.Name x px, .Name y py] kt pt] (.Tuple [a, b] k2 pt2) X.env = pure (some [x, y]))
    (hs : swapsWithSole [.Tuple [.Name x px, .Name y py] kt pt] (.Tuple [a, b] k2 pt2) pos.line X.env = pure false) :
    PS X (.Assign [.Tuple [.Name x px, .Name y py] kt pt] (.Tuple [a, b] k2 pt2) pos) (tSt B Ph (.par i j ld c c')) :=
  ps_mono (ps_par C.calm C.nd hi hj hij hx hy (pa_L (.inr ⟨_, _, rfl⟩) ha) hw hs) fun D σ H ⟨F, r, E, h⟩ => by
    simp only [evS] at h
    obtain ⟨d, fr, r', e1, h⟩ := flow_ok h
    split at h
    · rename_i u w
      refine ⟨F, r, E, _, fr, r', e1, fun vs F' H' E' s hv => ?_⟩
      obtain ⟨v1, v2, rfl, h1, h2⟩ := hv.two
      have E2 := E'.setP (i := i) h1 (hio.imp_right (·.1))
      have E3 := E2.setP (i := j) h2 (hio.imp_right (·.2))
      exact ⟨v1, v2, rfl, h _ F' H' E3 s⟩
    · exact h.elim
/-- x[k] = e, x an own list -/
theorem ps_stoT {i : Nat} {ld : List Nat} {ck ce : CE} {x : Str} {ek e : Expr} {p p2 pos : Pos} (hN : X.N[i]? = some x) (hv : Vis X.env.scope x) (hd : (x == ("__debug__" : Str)) = false) (hcd : (x == ("__classdict__" : Str)) = false)
    (hk : PE X ek (tEv B Ph ck)) (he : PE X e (tEv B Ph ce)) (hns : ∀ l h s q, ek ≠ .Slice l h s q)
    (hs : swapsWithSole [.Subscript (.Name x p) ek p2] e pos.line X.env = pure false) (hw : swappedStores [.Subscript (.Name x p) ek p2] e X.env = pure none) : PS X (.Assign [.Subscript (.Name x p) ek p2] e pos) (tSt B Ph (.sto i ld ck ce)) :=
  ps_mono (ps_asg (pe_L he) (pg_sub (pe_var hN hv hd hcd) (pe_p hk) set_list (by cases ek <;> first | exact absurd rfl (hns _ _ _ _) | (intro _; rfl))) hs hw rfl) fun D σ H ⟨F, r, E, h⟩ => by
    simp only [evS] at h
    obtain ⟨d, fr, r', e1, h⟩ := flow_ok h
    refine ⟨F, r, E, d, fr, r', e1, fun v F' H' E' s hv => ?_⟩
    obtain ⟨F2, E2, s2, rv⟩ := hv.give E'
    split at h
    · rename_i l0 g0
      obtain ⟨kd, fk, r2, ek2, h⟩ := flow_ok h
      obtain ⟨a, x0, z1, z2, z3, _⟩ := E2.ow i _ g0
      refine ⟨.ref a, z1, F2, r', E2, kd, fk, r2, ek2, fun vk F3 H3 E3 G3 rk => ?_⟩
      split at h
      · rename_i l n g2
        split at h
        · rename_i j hj
          obtain ⟨y2, y, y3, ⟨xs, rfl, rl⟩, _⟩ := E3.own_some g2 z1
          cases rk
          refine ⟨a, xs, n, j, rfl, rfl, y3, by rw [rl.length]; exact hj, ?_⟩
          obtain ⟨E4, G4⟩ := E3.putOwn g2 z1 (Sub.refl _) (F' := F3) (H' := upd H3 a (.lst (xs.set j v))) (fun b o e => by
            by_cases hb : b = a
            · subst hb; rw [y2] at e; cases e
            · rw [upd_ne hb]; exact E3.fle b o e) (fun b o e hb => by rw [upd_ne hb]; exact e) (fun b o e => .inl e) y2 upd_same (c := .list (l.set j d)) ⟨_, rfl, rl.set j (rv.mono G3.gf)⟩
          exact h σ F3 _ E4 (s.trans (s2.trans G3.gf))
        · exact h.elim
      · exact h.elim
    · exact h.elim
/-! ### x.append(e), x.clear(), x.reverse() -/
theorem upd_ok {F H : Hp} {σ : L2.St} {r : Ev} {i : Nat} {l m : List D} {a : Addr} {xs : List V} (E : EnvOk B F H σ r) (g : getO r i = some (.list l)) (z : σ[i]? = some (some (.ref a))) (rl : RepAll B.K F xs m) : EnvOk B F (upd H a (.lst xs)) σ (putO r i (.list m)) := by
  obtain ⟨y2, y, y3, _, _⟩ := E.own_some g z
  exact (E.putOwn g z (Sub.refl _) (F' := F) (H' := upd H a (.lst xs)) (fun b o e => by
    by_cases hb : b = a
    · subst hb; rw [y2] at e; cases e
    · rw [upd_ne hb]; exact E.fle b o e) (fun b o e hb => by rw [upd_ne hb]; exact e) (fun b o e => .inl e) y2 upd_same (c := .list m) ⟨_, rfl, rl⟩).1
theorem ps_appendT {i : Nat} {ld : List Nat} {ce : CE} {x m : Str} {e : Expr} {p p2 pos spos : Pos} (hm : m = "append") (hN : X.N[i]? = some x) (hv : Vis X.env.scope x) (hd : (x == ("__debug__" : Str)) = false) (hcd : (x == ("__classdict__" : Str)) = false)
    (hld : i ∉ ld) (ha : PA X [e] (tAs B Ph (.cons ce .nil))) (hs : starEach [e] X.env = (false, eval e X.env) :: starEach [] X.env) (hl : (p.endLine == pos.line) = true)
    (hfew : ((backTo pos (starEach [e] X.env)).all (fun x => !x.1) && (backToKw pos (keywordEach [] X.env)).all (fun x => x.1.isSome)
      && decide (([e] : List Expr).length + ([] : List Keyword).length + (if ([] : List Keyword).isEmpty then 0 else 1) < 30)) = true) : PS X (.Expr (.Call (.Attribute (.Name x p2) m p) [e] [] pos) spos) (tSt B Ph (.mut .append i ld (.cons ce .nil))) := by
  subst hm
  refine ps_mono (ps_expr (pe_bm PySem.F.plainAttrs_list PySem.F.slot_list_append PySem.F.type_list_append mt_append (pe_var hN hv hd hcd) (pa_L (ld := ld) (.inr ⟨_, _, rfl⟩) ha) rfl hfew hl hs rfl) rfl) fun D σ H ⟨F, r, E, h⟩ => ?_
  simp only [evS] at h
  split at h
  · rename_i l0 g0
    obtain ⟨d, fr, r', e1, h⟩ := flow_ok h
    obtain ⟨a, x0, z1, z2, z3, ⟨xs0, rfl, _⟩, _⟩ := E.ow i _ g0
    refine ⟨.ref a, z1, .inl ⟨rfl, xs0, .inl (.inl z3)⟩, ?_⟩
    split at h
    · rename_i l y _ g2
      split at h
      · rename_i hz
        refine ⟨F, r, E, _, fr, r', e1, fun vs F' H' E' s rvs => ?_⟩
        obtain ⟨v, rfl, rv⟩ := rvs.one
        obtain ⟨y2, yy, y3, ⟨xs, rfl, rl⟩, _⟩ := E'.own_some g2 z1
        refine ⟨a, xs, v, rfl, rfl, y3, by rw [rl.length, ← line_eq]; exact hz, ?_⟩
        exact h σ F' _ (upd_ok E' g2 z1 (rl.append (.cons rv .nil))) s
      · exact h.elim
    all_goals first | contradiction | exact h.elim
  · exact h.elim
end
end TP

set_option Elab.async false
set_option linter.all false
set_option maxRecDepth 100000
/-! TP14: loops; names set to comprehensions. -/
namespace TP
open PySem PySem.Spec PyProof.Rows L2

section
variable {B : Bs} {Ph : Nat → List D → Rs} {X : Cx} {T : List FT} {k : Nat}
theorem forLoop_cons {step : D → Ev → Fl} {x : D} {xs : List D} {r : Ev} : forLoop step (x :: xs) r = (match step x r with
    | .nx r1 => forLoop step xs r1
    | .cnt r1 => forLoop step xs r1
    | .brk r1 => .nx r1
    | f => f) := rfl
theorem ps_forT {t : CT} {ld : List Nat} {it : CE} {body : CS} {tg iter : Expr} {sb : List Stmt} {pos : Pos} (C : Ctx X B Ph T k) (hi : PI X tg iter (tIt B Ph it)) (hg : PG X tg (gT B t)) (hb : PSs X sb (tSt B Ph body))
    (hs : ∀ x, foldedSetIterable iter X.env x = pure x) : PS X (.For tg iter sb [] pos) (tSt B Ph (.for_ t ld false it body)) := by
  have hp : PassesOwn (model X.prog X.w) X.A X.env X.xe := by rw [C.xe]; exact PassesOwn.never
  refine ps_mono (ps_for hp C.calm hi hg hb hs) fun D σ H ⟨F, r, E, h⟩ => ?_
  simp only [evS] at h
  split at h
  · rename_i items fr r1 e1
    rw [if_neg (by decide)] at h
    obtain ⟨E1, s1⟩ := E.lent (ld := ld)
    refine ⟨_, _, E1, items, fr, r1, e1, fun J F1 H1 E2 G2 hlen hJ => ?_⟩
    refine ⟨fun i m σ2 Hx => ∃ F2 rr, EnvOk B F2 Hx σ2 rr ∧ Sub F1 F2 ∧ FlOk B F2 D (forLoop (fun d r2 => match bindT t d r2 with
        | some r3 => evS Ph body r3
        | none => .stuck) (items.drop i) rr) ∧ i + m = items.length, ⟨items.length, F1, r1, E2, Sub.refl _, by rw [List.drop_zero]; exact h.sub (s1.trans G2.gf), by omega⟩, ?_⟩
    rintro i m σ2 Hx ⟨F2, rr, E3, s3, hf, him⟩
    by_cases hi : i < items.length
    · obtain ⟨go, yl⟩ := hJ.2 i Hx (s3.trans E3.fle) hi
      have hdrop : items.drop i = items[i] :: items.drop (i + 1) := List.drop_eq_getElem_cons hi
      rw [hdrop, forLoop_cons] at hf
      refine .inr ⟨go, fun σ3 Hy => ∃ F2 rr, EnvOk B F2 Hy σ3 rr ∧ Sub F1 F2 ∧ FlOk B F2 D (forLoop (fun d r2 => match bindT t d r2 with
        | some r3 => evS Ph body r3
        | none => .stuck) (items.drop (i + 1)) rr), fun σ3 Hy ⟨a1, a2, a3, a4, a5⟩ => ⟨m - 1, by omega, a1, a2, a3, a4, a5, by omega⟩, fun x Hy hy => ?_⟩
      obtain ⟨d0, hd0, hx⟩ := yl x Hy hy
      rw [List.getElem?_eq_getElem hi] at hd0
      cases hd0
      obtain ⟨F4, E4, s4, rx⟩ : ∃ F4, EnvOk B F4 Hy σ2 rr ∧ Sub F2 F4 ∧ Rep B.K F4 x items[i] := by
        rcases hx with ⟨rfl, rx⟩ | ⟨Tq, xs, ds, rfl, hT, rfl, ed, rx⟩
        · exact ⟨F2, E3, Sub.refl _, rx.mono s3⟩
        · have hfT := none_sub E3.fle hT
          obtain ⟨E4, _⟩ := E3.grow (F' := upd F2 Tq (.tup xs)) (H' := upd Hx Tq (.tup xs)) ⟨sub_upd hfT, sub_upd hT, sub_upd2 E3.fle, fun a o e => by
            by_cases z : a = Tq
            · subst z; exact .inr hT
            · rw [upd_ne z] at e; exact .inl e⟩
          refine ⟨_, E4, sub_upd hfT, ?_⟩
          rw [ed]
          exact .tup (.inl (.inl upd_same)) ((rx.mono s3).mono (sub_upd hfT))
      cases eb : bindT t items[i] rr with
      | none => simp only [eb] at hf; exact hf.elim
      | some r3 =>
        simp only [eb] at hf
        refine ⟨F4, rr, items[i], r3, E4, rx, eb, fun σ5 E5 _ => ⟨F4, r3, E5, ?_⟩⟩
        cases ef : evS Ph body r3 with
        | nx r6 =>
          rw [ef] at hf
          exact fun σ' F' H' E' s => ⟨F', r6, E', s3.trans (s4.trans s), hf.sub (s4.trans s)⟩
        | cnt r6 =>
          rw [ef] at hf
          exact fun σ' F' H' E' s => ⟨F', r6, E', s3.trans (s4.trans s), hf.sub (s4.trans s)⟩
        | brk r6 =>
          rw [ef] at hf
          exact fun σ' F' H' E' s => hf σ' F' H' E' (s4.trans s)
        | ret d fr r6 =>
          rw [ef] at hf
          exact fun v σ' F' H' E' s w => hf v σ' F' H' E' (s4.trans s) w
        | exc _ _ _ => rw [ef] at hf; exact hf.elim
        | stuck => rw [ef] at hf; exact hf.elim
    · refine .inl ⟨hJ.1 i Hx (s3.trans E3.fle) (by omega), ?_⟩
      rw [List.drop_eq_nil_of_le (by omega)] at hf
      exact hf σ2 F2 Hx E3 (Sub.refl _)
  · exact h.elim
  · exact h.elim
theorem ps_whileT {n : Nat} {ld : List Nat} {c : CE} {body : CS} {e : Expr} {sb : List Stmt} {pos : Pos} (C : Ctx X B Ph T k) (hc : PT X e (tTrL B Ph ld c)) (hb : PSs X sb (tSt B Ph body)) : PS X (.While e sb [] pos) (tSt B Ph (.whil n ld c body)) := by
  have hp : PassesOwn (model X.prog X.w) X.A X.env X.xe := by rw [C.xe]; exact PassesOwn.never
  refine ps_mono (ps_while hp hc hb) fun D σ H ⟨F, r, E, h⟩ => ?_
  simp only [evS] at h
  refine ⟨fun m σ2 Hx => ∃ F2 rr, EnvOk B F2 Hx σ2 rr ∧ FlOk B F2 D (whileLoop (evL Ph ld c) (evS Ph body) m rr), ⟨n, F, r, E, h⟩, ?_⟩
  rintro m σ2 Hx ⟨F2, rr, E2, hf⟩
  cases m with
  | zero => exact hf.elim
  | succ m =>
    unfold whileLoop at hf
    split at hf
    · rename_i d fr r1 e1
      split at hf
      · rename_i et
        refine ⟨F2, rr, E2, d, fr, r1, true, e1, et, fun F3 H3 E3 s3 => iteT ?_⟩
        refine ⟨fun σ3 Hy => ∃ F2 rr, EnvOk B F2 Hy σ3 rr ∧ FlOk B F2 D (whileLoop (evL Ph ld c) (evS Ph body) m rr), fun σ3 Hy ⟨a1, a2, a3, a4⟩ => ⟨m, Nat.lt_succ_self m, a1, a2, a3, a4⟩, F3, r1, E3, ?_⟩
        cases ef : evS Ph body r1 with
        | nx r6 =>
          rw [ef] at hf
          exact fun σ' F' H' E' s => ⟨F', r6, E', hf.sub (s3.trans s)⟩
        | cnt r6 =>
          rw [ef] at hf
          exact fun σ' F' H' E' s => ⟨F', r6, E', hf.sub (s3.trans s)⟩
        | brk r6 =>
          rw [ef] at hf
          exact fun σ' F' H' E' s => hf σ' F' H' E' (s3.trans s)
        | ret d fr r6 =>
          rw [ef] at hf
          exact fun v σ' F' H' E' s w => hf v σ' F' H' E' (s3.trans s) w
        | exc _ _ _ => rw [ef] at hf; exact hf.elim
        | stuck => rw [ef] at hf; exact hf.elim
      · rename_i et
        exact ⟨F2, rr, E2, d, fr, r1, false, e1, et, fun F3 H3 E3 s3 => iteF (hf σ2 F3 H3 E3 s3)⟩
      · exact hf.elim
    · exact hf.elim
    · exact hf.elim
/-- a name set to a comprehension, on one line -/
theorem ps_asgLcT {i : Nat} {ld : List Nat} {elt it ifs : CE} {tg : CT} {own : List (Str × Nat)} {x : Str} {ex tgx iterx : Expr} {ifx : List Expr} {scope : Scope} {py pos spos : Pos} (C : Ctx X B Ph T k) (hi0 : B.io = [] ∨ i ≠ 0) (hio : B.io = [] ∨ 0 ∉ own.map (·.2)) (hs : ∀ j ∈ tg.slots, j ∈ own.map (·.2))
    (hx : X.N[i]? = some x) (hxl : X.env.scope.names.lookup x = some .local) (hsw : swapsWith (.ListComp ex [⟨tgx, iterx, ifx, 0⟩] scope pos) (some (.Name x py)) spos.line X.env = pure true)
    (hi : PI X tgx iterx (tIt B Ph it)) (ok : BlkOk X.N X.env.scope scope own)
    (hg : ∀ (s : Shared) (H : Hp) (Ca : Addr) (cl : List (Str × Addr)) (fp : List Addr), PG (X.blk s H scope (compEnvC scope cl Ca X.env) fp) tgx (gT B tg))
    (ht : ∀ (s : Shared) (H : Hp) (Ca : Addr) (cl : List (Str × Addr)) (fp : List Addr), PTs (X.blk s H scope (compEnvC scope cl Ca X.env) fp) ifx (tTr B Ph ifs))
    (he : ∀ (s : Shared) (H : Hp) (Ca : Addr) (cl : List (Str × Addr)) (fp : List Addr), PE (X.blk s H scope (compEnvC scope cl Ca X.env) fp) ex (tEv B Ph elt))
    (hf : ∀ x, foldedSetIterable iterx X.env x = pure x) : PS X (.Assign [.Name x py] (.ListComp ex [⟨tgx, iterx, ifx, 0⟩] scope pos) spos) (tSt B Ph (.asg i ld (.lc elt tg it ifs (own.map (·.2))))) := by
  refine ps_mono (ps_setLc C.calm C.nd hx hxl hsw hi ok hg ht (fun s H Ca cl fp => pe_p (he s H Ca cl fp)) hf) fun D σ H ⟨F, r, E, h⟩ => ?_
  simp only [evS] at h
  obtain ⟨d, fr, r', e1, h⟩ := flow_ok h
  -- what is lent
  have key : tEvL B Ph ld (.lc elt tg it ifs (own.map (·.2))) σ H (fun v H' => D.nx (σ.set i (some v)) H') :=
    ⟨F, r, E, d, fr, r', e1, fun v F' H' E' s hv => h _ F' H' (E'.setV hi0 hv) s⟩
  refine lc_read hio hs ?_
  exact evL_read key
end
end TP

set_option Elab.async false
set_option linter.all false
set_option maxRecDepth 100000
/-! TP15: a starred target, a def taken from a dict of the module, its call. -/
namespace TP
open PySem PySem.Spec PyProof.Rows L2

section
variable {prog : Program} {w : World} {A : Around} {E : Value → Shared → Prop} {s : Shared}
theorem star_items {t : Addr} {items : Array Value} {i : Nat} {Q : List Value → Shared → Prop} (hh : A.handled = none) (ht : IsTup s.heap t items) (hi : i ≤ items.size) (hz : items.size ≤ sizeLine)
    (hQ : ∀ D h' tk, (∀ b o, s.heap.get? b = some o → h'.get? b = some o) → s.heap.get? D = none → h'.get? D = some (seqObj "list" (items.toList.drop i).toArray 0) → Q (items.toList.take i ++ [.ref D]) { s with heap := h', toks := tk }) :
    wpAny (model prog w) A (unpackItems (.ref t) (i + 1) (some i)) Q E s := by
  have lt0 : t < s.heap.objs.size := by obtain ⟨o, ho, _⟩ := ht; exact Heap.lt_size ho
  unfold unpackItems notIterableAtAll
  refine wpAny_bind (wpAny_bind (wpAny_specialOf ht.typeIs PySem.F.slot_tuple_iter.lookup (wpAny_pure ?_)))
  simp only [Bool.false_eq_true, if_false]
  refine wpAny_bind (wpAny_holding (iter_tuple ht ?_))
  refine wpAny_bind (wpAny_holding (draw_tuple (Nat.ne_of_lt lt0) i 0 _ _ ⟨_, Heap.get?_push_size _ rfl, rfl, rfl⟩ (ht.push _) (by omega) fun h1 it1 sb1 => ?_))
  have ht1 : IsTup h1 t items := (ht.push _).extBut sb1.extBut (Nat.ne_of_lt lt0)
  rw [Nat.zero_add] at it1
  have lI : s.heap.objs.size < h1.objs.size := by obtain ⟨o, ho, _⟩ := it1; exact Heap.lt_size ho
  have lt1 : t < h1.objs.size := by obtain ⟨o, ho, _⟩ := ht1; exact Heap.lt_size ho
  rw [List.drop_zero, if_neg (by rw [List.length_take, Array.length_toList]; omega)]
  refine wpAny_bind (wpAny_holding (PySem.W.kun_collect (s := { s with heap := h1 }) (T := "tuple_iterator") (.inr (.inr (.inr rfl))) (Walks.tuple (A := A.in1) hh s.heap.objs.size t (Nat.ne_of_lt lt0) items) (fun j u st => st.1.typeIs) (k := i) hi ⟨it1, ht1⟩ lI lt1 (fun h2 tk k2 => ?_) hz))
  have e1 : (items.toList.drop i).length = items.size - i := by rw [List.length_drop, Array.length_toList]
  have e2 : (i + 1) - 1 - i = 0 := by omega
  show wpAny _ _ (if (items.toList.drop i).length < (i + 1) - 1 - i then _ else _) _ _ _
  rw [e2, if_neg (Nat.not_lt_zero _)]
  show wpAny _ _ (newList ((items.toList.drop i).take ((items.toList.drop i).length - 0)) >>= fun d => pure (items.toList.take i ++ [d] ++ (items.toList.drop i).drop ((items.toList.drop i).length - 0))) _ _ _
  rw [Nat.sub_zero, List.take_length, List.drop_length]
  have old : ∀ b o, s.heap.get? b = some o → h2.get? b = some o := fun b o e => k2 b o (Nat.ne_of_lt (Heap.lt_size e)) (sb1.extBut b o (Nat.ne_of_lt (Heap.lt_size e)) (Heap.get?_push_of_some _ e))
  refine wpAny_bind (wpAny_newList (wpAny_pure ?_) (by rw [e1]; omega))
  rw [List.append_nil]
  refine hQ h2.objs.size _ tk (fun b o e => Heap.get?_push_of_some _ (old b o e)) ?_ (Heap.get?_push_size _ rfl)
  cases e : s.heap.get? h2.objs.size with
  | none => rfl
  | some o => exact absurd (Heap.lt_size (old _ _ e)) (Nat.lt_irrefl _)
end
theorem ObjOk_get {P : Program} {w : World} {H : Hp} {h : Heap} {a : Addr} {o : HO} (x : ObjOk P w H h a o) : ∃ u, h.get? a = some u := by
  cases o with
  | lst xs => obtain ⟨_, _, _, _, e⟩ := x; exact ⟨_, e⟩
  | tup xs => obtain ⟨_, _, _, o, e, _⟩ := x; exact ⟨_, e⟩
  | dK kvs => obtain ⟨_, _, _, _, o, _, _, e, _⟩ := x; exact ⟨_, e⟩
  | dT kvs => obtain ⟨_, _, _, _, o, _, _, e, _⟩ := x; exact ⟨_, e⟩
  | set S n => obtain ⟨o, _, _, _, e, _⟩ := x; exact ⟨_, e⟩
  | ins C dx fs => obtain ⟨_, _, _, e, _⟩ := x; exact ⟨_, e⟩
  | own y => obtain ⟨_, e⟩ := x; exact ⟨_, e⟩
  | xd fs => obtain ⟨_, ⟨_, _, _, e, _⟩, _⟩ := x; exact ⟨_, e⟩
  | rng lo hi => obtain ⟨_, _, _, e⟩ := x; exact ⟨_, e⟩
  | frz ob u => obtain ⟨e, _⟩ := x; exact ⟨_, e⟩
  | tbl ps => exact ⟨_, (show h.get? a = some _ from x)⟩
  | met f y => exact ⟨_, (show h.get? a = some _ from x)⟩
  | ext φ => obtain ⟨_, ⟨_, e⟩, _⟩ := x; exact ⟨_, e⟩
def gStar (K : PySem.W.Frag) (n : Nat) (t : TGs) : TG := fun v σ H Q => ∃ a xs, v = .ref a ∧ SqT K H a xs ∧ n ≤ xs.length ∧ ∀ D, H D = none → t (xs.take n ++ [.ref D]) σ (upd H D (.lst (xs.drop n))) Q
section
variable {B : Bs} {Ph : Nat → List D → Rs} {X : Cx} {T : List FT} {k : Nat}
theorem Vals_take {xs : List V} {us : List Value} (r : Vals xs us) : ∀ n, Vals (xs.take n) (us.take n) ∧ Vals (xs.drop n) (us.drop n) := by
  induction r with
  | nil => intro n; cases n <;> exact ⟨.nil, .nil⟩
  | cons h t ih =>
    intro n
    cases n with
    | zero => exact ⟨.nil, .cons h t⟩
    | succ n => exact ⟨.cons h (ih n).1, (ih n).2⟩
theorem Vals_snoc {xs : List V} {us : List Value} {a : Addr} (r : Vals xs us) : Vals (xs ++ [.ref a]) (us ++ [.ref a]) := by
  induction r with
  | nil => exact .cons rfl .nil
  | cons h t ih => exact .cons h ih
theorem pg_star {es fs : List Expr} {kk n : Nat} {t : TGs} {pos : Pos} (hc : X.calm = true) (h : PGs X fs t) (hf : (assignEach es X.env).map (·.2) = (assignEach fs X.env).map (·.2))
    (hn : (assignEach es X.env).length = n + 1) (hst : (assignEach es X.env).findIdx? (·.1) = some n) : PG X (.Tuple es kk pos) (gStar X.K n t) := by
  refine ⟨fun pins s σ H v u Q I r hw => ?_⟩
  obtain ⟨a, xs, rfl, hq, hl, hw⟩ := hw
  cases r
  obtain ⟨its, rv, ht, hz⟩ := I.tuple hq
  rw [PyProof.Rows.assign_Tuple]
  refine wpAny_bind (wpAny_standAt ?_)
  unfold unpack
  rw [hn, hst, hf]
  have el : its.toArray.size = xs.length := by rw [List.size_toArray, rv.length]
  refine wpAny_bind (wpAny_holding (star_items (I.ok.hd hc) ht (by omega) (by omega) fun D h' tk old hD hg => ?_))
  have hDn : H D = none := by
    cases e : H D with
    | none => rfl
    | some x =>
      obtain ⟨u, eu⟩ := ObjOk_get (I.hok D x e)
      rw [hD] at eu
      cases eu
  have hl2 : (xs.drop n).length ≤ sizeLine := by rw [List.length_drop]; omega
  have I1 := I.laidN (t' := tk) old hD hDn (show ObjOk X.prog X.w (upd H D (.lst (xs.drop n))) h' D (.lst (xs.drop n)) from ⟨hl2, its.drop n, 0, (Vals_take rv n).2, hg⟩)
  exact h.run pins _ σ _ (xs.take n ++ [.ref D]) _ Q I1 (Vals_snoc (Vals_take rv n).1) (hw D hDn)
theorem RepAll.takeN {K : PySem.W.Frag} {F : Hp} {xs : List V} {ds : List D} (h : RepAll K F xs ds) : ∀ n, RepAll K F (xs.take n) (ds.take n) ∧ RepAll K F (xs.drop n) (ds.drop n) := by
  induction ds generalizing xs with
  | nil => cases h; intro n; cases n <;> exact ⟨.nil, .nil⟩
  | cons d ds ih =>
    cases h with
    | cons h t =>
      intro n
      cases n with
      | zero => exact ⟨.nil, .cons h t⟩
      | succ n => exact ⟨.cons h (ih t n).1, (ih t n).2⟩
theorem ps_starT {t : CT} {n : Nat} {ld : List Nat} {c : CE} {e : Expr} {es fs : List Expr} {kk : Nat} {p2 pos : Pos} (C : Ctx X B Ph T k) (he : PE X e (tEv B Ph c)) (h : PGs X fs (gTs B t)) (hf : (assignEach es X.env).map (·.2) = (assignEach fs X.env).map (·.2))
    (hn : (assignEach es X.env).length = n + 1) (hst : (assignEach es X.env).findIdx? (·.1) = some n)
    (hs : swapsWithSole [.Tuple es kk p2] e pos.line X.env = pure false) (hw : swappedStores [.Tuple es kk p2] e X.env = pure none) (h1 : (assignEach [.Tuple es kk p2] X.env).map (·.2) = [assign (.Tuple es kk p2) X.env]) :
    PS X (.Assign [.Tuple es kk p2] e pos) (tSt B Ph (.star t n ld c)) :=
  ps_mono (ps_asg (pe_L he) (pg_star C.calm h hf hn hst) hs hw h1) fun D σ H ⟨F, r, E, h⟩ => by
    simp only [evS] at h
    obtain ⟨d, fr, r', e1, h⟩ := flow_ok h
    refine ⟨F, r, E, d, fr, r', e1, fun v F' H' E' s hv => ?_⟩
    obtain ⟨F2, E2, s2, rv⟩ := hv.give E'
    cases d with
    | tuple l =>
      simp only at h
      split at h
      · rename_i hl
        split at h
        · rename_i r2 eb
          obtain ⟨a, xs, rfl, hsq, rs⟩ := rv.tup_inv
          rw [C.hK] at hsq
          refine ⟨a, xs, rfl, SqT.sub E2.fle hsq, by rw [rs.length]; exact hl, fun D hD => ?_⟩
          obtain ⟨rt, rd⟩ := rs.takeN n
          have hF2 : F2 D = none := none_sub E2.fle hD
          have s3 : Sub F2 (upd F2 D (.lst (xs.drop n))) := sub_upd hF2
          obtain ⟨E3, _⟩ := E2.grow (F' := upd F2 D (.lst (xs.drop n))) (H' := upd H' D (.lst (xs.drop n))) ⟨s3, sub_upd hD, fun b o e => by
            by_cases hb : b = D
            · subst hb; rw [upd_same] at e ⊢; exact e
            · rw [upd_ne hb] at e ⊢; exact E2.fle b o e, fun b o e => by
            by_cases hb : b = D
            · subst hb; exact .inr hD
            · rw [upd_ne hb] at e; exact .inl e⟩
          refine ⟨_, r', l.take n ++ [.list (l.drop n)], r2, E3, (rt.mono s3).append (.cons ((OwnO.rep (d := .list (l.drop n)) ⟨_, rfl, rd.mono s3⟩ upd_same)) .nil), eb, fun σ' E4 _ => h σ' _ _ E4 (s.trans (s2.trans s3))⟩
        · exact h.elim
      · exact h.elim
    | _ => exact h.elim
/-! ### a def from a dict of the module -/
/-- the dict x of the module: under each text the def of this number -/
def TabOk (X : Cx) (B : Bs) (x : Str) (tab : List (Str × Nat)) : Prop :=
  ∃ p, X.mg x = some (.ref p) ∧ ∀ z f, tab.lookup z = some f → ∃ a, B.fa f = some a ∧ KDct X.K X.w p z (.ref a)
theorem pe_callVT {i : Nat} {es : CE} {x : Str} {p pos : Pos} {e : Expr} {l : List Expr} (C : Ctx X B Ph T k) (hN : X.N[i]? = some x) (hv : Vis X.env.scope x) (ha : PA X (e :: l) (tAs B Ph es))
    (hall : ∀ f, B.fa f ≠ none → ∃ t, T[f]? = some t) (hPh : ∀ f t ds d fr, T[f]? = some t → Ph f ds = .ok d fr none → ds.length = t.fd.nP ∧ t.fd.io = false)
    (hdb : (x == ("__debug__" : Str)) = false) (hcd : (x == ("__classdict__" : Str)) = false)
    (he : starEach (e :: l) X.env = (false, eval e X.env) :: starEach l X.env) (hpl : (backTo pos (starEach l X.env)).any (·.1) = false) : PE X (.Call (.Name x p) (e :: l) [] pos) (tEv B Ph (.callV i es)) := by
  refine ⟨fun pins s σ H Q I h => ?_⟩
  obtain ⟨F, r, E, d, fr, r', ee, q⟩ := h
  simp only [ev] at ee
  split at ee
  · rename_i f hf
    obtain ⟨a, ea, es'⟩ := E.fn i f hf
    obtain ⟨t, ht⟩ := hall f (by rw [ea]; exact Option.some_ne_none _)
    obtain ⟨a', fdt, ps, _, h2, h3, h4, h5⟩ := C.fn f t ht
    rw [ea] at h2
    cases h2
    refine (pe_callGL (i := i) (f := a) (dvs := []) (E := E0) h5 C.gu C.room hN hv h3 h4 .nil pass0 ha hdb hcd he hpl).run pins s σ H Q I ⟨es', ?_⟩
    obtain ⟨d1, f1, r1, e1, ee⟩ := Out.bind_ok ee
    split at ee
    · rename_i m
      split at ee
      · rename_i d2 fr2 hp
        cases ee
        refine ⟨F, r, E, m, f1, r', e1, fun vs F1 H1 E1 G1 rv1 => ?_⟩
        obtain ⟨hl, hio⟩ := hPh f t m _ _ ht hp
        show spD X.K Ph f t.fd.nP t.fd.io (vs ++ []) H1 Q E0
        unfold spD
        rw [hio, if_neg (by decide), List.append_nil, ← C.hK]
        exact ⟨F1, m, d, fr, E1.fle, rv1, hl, hp, Gives.of E1 G1 q⟩
      · cases ee
      · cases ee
    · cases ee
  · cases ee
theorem EnvOk.setF {F H : Hp} {σ : L2.St} {r : Ev} (E : EnvOk B F H σ r) {i n : Nat} {a : Addr} (ha : B.fa n = some a) (hio : B.io = [] ∨ i ≠ 0) : EnvOk B F H (σ.set i (some (.ref a))) (r.set i (some (.f n))) := by
  have gP : ∀ j e, getP (r.set i (some (.f n))) j = some e → i ≠ j ∧ getP r j = some e := fun j e g => by
    rw [getP_set] at g
    by_cases hij : i = j
    · rw [if_pos hij] at g; split at g <;> cases g
    · rw [if_neg hij] at g; exact ⟨hij, g⟩
  have gO : ∀ j e, getO (r.set i (some (.f n))) j = some e → i ≠ j ∧ getO r j = some e := fun j e g => by
    rw [getO_set] at g
    by_cases hij : i = j
    · rw [if_pos hij] at g; split at g <;> cases g
    · rw [if_neg hij] at g; exact ⟨hij, g⟩
  refine ⟨by rw [List.length_set, List.length_set]; exact E.len, E.fle, fun j e g => ?_, fun j e g => ?_, fun j l b e f hne gj gl ej => ?_, fun j m e => ?_, E.fr, E.dm, E.f0, E.fn0, fun b hb => ?_⟩
  · obtain ⟨hij, g⟩ := gP j e g
    rw [List.getElem?_set_ne hij]
    exact E.pv j e g
  · obtain ⟨hij, g⟩ := gO j e g
    rw [List.getElem?_set_ne hij]
    exact E.ow j e g
  · obtain ⟨hij, gj⟩ := gO j e gj
    obtain ⟨hil, gl⟩ := gO l f gl
    rw [List.getElem?_set_ne hij] at ej
    rw [List.getElem?_set_ne hil]
    exact E.ap j l b e f hne gj gl ej
  · by_cases hij : i = j
    · subst hij
      by_cases hi : i < r.length
      · rw [List.getElem?_set_self hi] at e
        cases e
        exact ⟨a, ha, List.getElem?_set_self (by rw [E.len]; exact hi)⟩
      · rw [List.getElem?_eq_none (by rw [List.length_set]; omega)] at e
        cases e
    · rw [List.getElem?_set_ne hij] at e ⊢
      exact E.fn j m e
  · rcases hio with h | h
    · rw [h] at hb; cases hb
    · rw [List.getElem?_set_ne h]
      exact E.is b hb
/-- told = TABLE[..] -/
theorem ps_fselT {i : Nat} {tx : Str} {tab : List (Str × Nat)} {ld : List Nat} {c : CE} {x : Str} {e : Expr} {p p2 p3 pos : Pos} (C : Ctx X B Ph T k) (ht : TabOk X B tx tab) (hg : Gl X tx) (hio : B.io = [] ∨ i ≠ 0) (he : PE X e (tEv B Ph c)) (hi : X.N[i]? = some x) (hx : L2.Loc X.env.scope x) (hf : X.fn x = true ∨ X.env.scope.names.lookup x = some .local)
    (hdb : (tx == ("__debug__" : Str)) = false) (hns : PlainIx e)
    (hs : swapsWith (.Subscript (.Name tx p2) e p3) (some (.Name x p)) pos.line X.env = pure false) : PS X (.Assign [.Name x p] (.Subscript (.Name tx p2) e p3) pos) (tSt B Ph (.fsel tx tab i ld c)) := by
  obtain ⟨pa, h1, h3⟩ := ht
  refine ps_mono (ps_set C.nd hi hx (pe_ix ix_kdict (pe_glob (v := .ref pa) hg h1 rfl hdb) (pe_L (ld := ld) he) hns) hs hf) fun D σ H ⟨F, r, E, h⟩ => ?_
  simp only [evS] at h
  obtain ⟨d, fr, r', e1, h⟩ := flow_ok h
  cases d with
  | str z =>
    simp only at h
    split at h
    · rename_i f hl
      obtain ⟨a, ha, kd⟩ := h3 z f hl
      refine ⟨F, r, E, .str z, fr, r', e1, fun v F' H' E' s hv => ?_⟩
      obtain ⟨F2, E2, s2, rv⟩ := hv.give E'
      cases rv
      exact ⟨pa, z, .ref a, rfl, rfl, kd, h _ F2 H' (E2.setF ha hio) (s.trans s2)⟩
    · exact h.elim
  | _ => exact h.elim
end
end TP

set_option Elab.async false
set_option linter.all false
set_option maxRecDepth 100000
/-! TP16: plain facts of the syntax that the rules ask. -/
namespace TP
open PySem PySem.Spec PyProof.Rows L2

def nstar : Expr → Bool
  | .Starred _ _ => false
  | _ => true
theorem star_cons {e : Expr} {l : List Expr} {env : Env} (h : nstar e = true) : starEach (e :: l) env = (false, eval e env) :: starEach l env := by
  cases e <;> first | rfl | cases h
theorem star_all {env : Env} : ∀ {l : List Expr}, l.all nstar = true → starEach l env = l.map fun e => (false, eval e env)
  | [], _ => rfl
  | e :: l, h => by
    rw [List.all_cons, Bool.and_eq_true] at h
    rw [star_cons h.1, star_all h.2]
    rfl
theorem back_any {env : Env} {l : List Expr} {pos : Pos} (h : l.all nstar = true) : (backTo pos (starEach l env)).any (·.1) = false := by
  rw [star_all h]
  unfold backTo
  rw [List.map_map, List.any_map, List.any_eq_false]
  intro x _ hx
  cases hx
theorem back_allF {env : Env} {l : List Expr} {pos : Pos} (h : l.all nstar = true) : (backTo pos (starEach l env)).all (fun x => !x.1) = true := by
  rw [star_all h]
  unfold backTo
  rw [List.map_map, List.all_map, List.all_eq_true]
  intro x _
  rfl
theorem few_one {env : Env} {e : Expr} {pos : Pos} (h : nstar e = true) : ((backTo pos (starEach [e] env)).all (fun x => !x.1) && (backToKw pos (keywordEach [] env)).all (fun x => x.1.isSome)
    && decide (([e] : List Expr).length + ([] : List Keyword).length + (if ([] : List Keyword).isEmpty then 0 else 1) < 30)) = true := by
  rw [back_allF (by rw [List.all_cons, h]; rfl)]
  rfl
theorem asg_cons {e : Expr} {l : List Expr} {env : Env} (h : nstar e = true) : assignEach (e :: l) env = (false, assign e env) :: assignEach l env := by
  cases e <;> first | rfl | cases h
theorem asg_map {e : Expr} {l : List Expr} {env : Env} (h : nstar e = true) : (assignEach (e :: l) env).map (·.2) = assign e env :: (assignEach l env).map (·.2) := by
  rw [asg_cons h]
  rfl
theorem asg_len {env : Env} : ∀ {l : List Expr}, (assignEach l env).length = l.length
  | [] => rfl
  | e :: l => by
    cases e <;> exact congrArg (· + 1) asg_len
theorem asg_nost {env : Env} : ∀ {l : List Expr}, l.all nstar = true → (assignEach l env).findIdx? (·.1) = none
  | [], _ => rfl
  | e :: l, h => by
    rw [List.all_cons, Bool.and_eq_true] at h
    rw [asg_cons h.1, List.findIdx?_cons, asg_nost h.2]
    rfl
/-- a starred last target without its star -/
def unstar : List Expr → List Expr
  | [] => []
  | [.Starred t _] => [t]
  | e :: l => e :: unstar l
def starLast : List Expr → Bool
  | [] => false
  | [.Starred _ _] => true
  | e :: l => nstar e && starLast l
theorem unstar_map {env : Env} : ∀ {l : List Expr}, starLast l = true → (unstar l).all nstar = true → (assignEach l env).map (·.2) = (assignEach (unstar l) env).map (·.2)
  | [], h, _ => by cases h
  | [e], h, k => by
    cases e <;> first | (rename_i t p; have k1 : nstar t = true := by (simpa [unstar] using k)
                         show [assign t env] = (assignEach [t] env).map (·.2)
                         rw [asg_map k1]; rfl) | (simp [starLast] at h; done)
  | e :: f :: l, h, k => by
    have h1 : nstar e = true ∧ starLast (f :: l) = true := by
      cases e <;> first | (simp only [starLast, Bool.and_eq_true] at h; exact h) | (simp [starLast, nstar] at h; done)
    have eu : unstar (e :: f :: l) = e :: unstar (f :: l) := by
      cases e <;> first | rfl | cases h1.1
    rw [eu] at k ⊢
    rw [List.all_cons, Bool.and_eq_true] at k
    rw [asg_map h1.1, asg_map h1.1, unstar_map h1.2 k.2]
theorem star_idx {env : Env} : ∀ {l : List Expr}, starLast l = true → (assignEach l env).findIdx? (·.1) = some (l.length - 1)
  | [], h => by cases h
  | [e], h => by
    cases e <;> first | rfl | (simp [starLast] at h; done)
  | e :: f :: l, h => by
    have h1 : nstar e = true ∧ starLast (f :: l) = true := by
      cases e <;> first | (simp only [starLast, Bool.and_eq_true] at h; exact h) | (simp [starLast, nstar] at h; done)
    rw [asg_cons h1.1, List.findIdx?_cons, star_idx h1.2]
    rfl
theorem star_len {l : List Expr} (h : starLast l = true) : l.length = l.length - 1 + 1 := by
  cases l with
  | nil => cases h
  | cons => rfl

/-- no comprehension -/
def ncomp : Expr → Bool
  | .ListComp .. => false
  | .SetComp .. => false
  | .DictComp .. => false
  | _ => true
theorem sw_plain {e : Expr} {t : Option Expr} {n : Nat} {env : Env} (h : ncomp e = true) : swapsWith e t n env = pure false := by
  cases e <;> first | rfl | cases h
theorem sws_plain {e : Expr} {t : Expr} {n : Nat} {env : Env} (h : ncomp e = true) : swapsWithSole [t] e n env = pure false := sw_plain h
/-- whether a comprehension given to a name swaps -/
def swLc (sc cs : Scope) (x : Str) (pl el : Nat) : Bool :=
  (if sc.kind.isAnnotationScope then ScopeKind.function else sc.kind) == .function && sc.names.lookup x == some .local && pl == el && !(cs.names.any fun p => p.1 == x && (p.2 == .local || p.2 == .cell))
theorem sw_lc {ex : Expr} {gs : List Comprehension} {cs : Scope} {pos p : Pos} {x : Str} {n : Nat} {env : Env} : swapsWith (.ListComp ex gs cs pos) (some (.Name x p)) n env = pure (swLc env.scope cs x p.line pos.line) := rfl
def nset : Expr → Bool
  | .Set .. => false
  | _ => true
theorem folded_plain {e : Expr} {env : Env} {x : Value} (h : nset e = true) : foldedSetIterable e env x = pure x := by
  cases e <;> first | rfl | cases h
def nslice : Expr → Bool
  | .Slice .. => false
  | _ => true
theorem plainIx_of {e : Expr} (h : nslice e = true) : PlainIx e := by
  intro o i
  cases e <;> first | rfl | cases h
def ntup : Expr → Bool
  | .Tuple .. => false
  | _ => true
theorem noswap {ts : List Expr} {e : Expr} {env : Env} (h : ntup e = true) : swappedStores ts e env = pure none := by
  unfold swappedStores
  cases e <;> first | (cases ts with
    | nil => rfl
    | cons t r => cases r with
      | nil => cases t <;> rfl
      | cons _ _ => cases t <;> rfl) | cases h
theorem noswap_sub {a b : Expr} {p : Pos} {e : Expr} {env : Env} : swappedStores [.Subscript a b p] e env = pure none := by
  unfold swappedStores
  cases e <;> rfl
/-- whose truth is asked behind its reckoning -/
def plainT : Expr → Bool
  | .UnaryOp .Not _ _ => false
  | .BoolOp .. => false
  | .IfExp .. => false
  | .Compare .. => false
  | _ => true
theorem isTrue_plain {e : Expr} {env : Env} (h : plainT e = true) (whole : Sem Value) : isTrue e env whole = (do let v ← whole; standAt e.pos; holding [v] (truthy v)) := by
  cases e <;> first | rfl | (rename_i op _ _; cases op <;> first | rfl | cases h) | cases h

def spineLen : CE → Option Nat
  | .nil => some 0
  | .cons _ es => (spineLen es).map (· + 1)
  | _ => none
theorem spine_len {Ph : Nat → List D → Rs} : ∀ {es : CE} {n : Nat} {r r' : Ev} {d : List D} {fr : Bool}, spineLen es = some n → ev Ph es r = .ok (.tuple d) fr r' → d.length = n
  | .nil, n, r, r', d, fr, h, e => by
    simp only [spineLen] at h
    simp only [ev] at e
    cases h; cases e; rfl
  | .cons a es, n, r, r', d, fr, h, e => by
    simp only [spineLen] at h
    cases hs : spineLen es with
    | none => rw [hs] at h; cases h
    | some m =>
      rw [hs] at h
      cases h
      simp only [ev] at e
      obtain ⟨d1, f1, r1, e1, e⟩ := Out.bind_ok e
      obtain ⟨d2, f2, r2, e2, e⟩ := Out.bind_ok e
      split at e
      · cases e
        exact congrArg (· + 1) (spine_len hs e2)
      · cases e
  | .var _, _, _, _, _, _, h, _ => by cases h
  | .cst _, _, _, _, _, _, h, _ => by cases h
  | .glo _ _, _, _, _, _, _, h, _ => by cases h
  | .bin _ _ _, _, _, _, _, _, h, _ => by cases h
  | .neg _, _, _, _, _, _, h, _ => by cases h
  | .not _, _, _, _, _, _, h, _ => by cases h
  | .and _ _, _, _, _, _, _, h, _ => by cases h
  | .or _ _, _, _, _, _, _, h, _ => by cases h
  | .cmp _ _ _, _, _, _, _, _, h, _ => by cases h
  | .chain _ _ _ _ _, _, _, _, _, _, h, _ => by cases h
  | .ite _ _ _, _, _, _, _, _, h, _ => by cases h
  | .tup _, _, _, _, _, _, h, _ => by cases h
  | .lst _, _, _, _, _, _, h, _ => by cases h
  | .idx _ _, _, _, _, _, _, h, _ => by cases h
  | .sli _ _ _, _, _, _, _, _, h, _ => by cases h
  | .none, _, _, _, _, _, h, _ => by cases h
  | .rev _, _, _, _, _, _, h, _ => by cases h
  | .bi _ _, _, _, _, _, _, h, _ => by cases h
  | .isi _ _, _, _, _, _, _, h, _ => by cases h
  | .call _ _, _, _, _, _, _, h, _ => by cases h
  | .callM _ _ _, _, _, _, _, _, h, _ => by cases h
  | .callV _ _, _, _, _, _, _, h, _ => by cases h
  | .lenO _, _, _, _, _, _, h, _ => by cases h
  | .popO _ _, _, _, _, _, _, h, _ => by cases h
  | .lc _ _ _ _ _, _, _, _, _, _, h, _ => by cases h
  | .seq _, _, _, _, _, _, h, _ => by cases h
  | .rng _ _, _, _, _, _, _, h, _ => by cases h
  | .enum _, _, _, _, _, _, h, _ => by cases h
  | .zip _ _, _, _, _, _, _, h, _ => by cases h
  | .lrng _ _, _, _, _, _, _, h, _ => by cases h
  | .sset _, _, _, _, _, _, h, _ => by cases h
  | .lset _, _, _, _, _, _, h, _ => by cases h
  | .sdc _ _ _ _, _, _, _, _, _, h, _ => by cases h
  | .lsc _ _ _ _, _, _, _, _, _, h, _ => by cases h
  | .dget _ _ _ _, _, _, _, _, _, h, _ => by cases h
/-- a spine of targets -/
def tgt : CT → Bool
  | .nm _ => true
  | .nil => true
  | .cons _ r => (match r with | .nm _ => false | _ => true) && tgt r
def CT.len : CT → Nat
  | .cons _ r => r.len + 1
  | _ => 0
theorem bindT_tl : ∀ {t : CT} {d : List D} {r r' : Ev}, (∀ i, t ≠ .nm i) → bindT t (.tuple d) r = some r' → tgt t = true → d.length = t.len := by
  intro t
  induction t with
  | nm i => intro d r r' h _ _; exact absurd rfl (h i)
  | nil => intro d r r' _ h _; cases d with
    | nil => rfl
    | cons _ _ => simp [bindT] at h
  | cons t r _ ih => intro d rr r' _ h hk; cases d with
    | nil => simp [bindT] at h
    | cons x xs =>
      simp only [bindT] at h
      cases e : bindT t x rr with
      | none => rw [e] at h; cases h
      | some r1 =>
        rw [e] at h
        simp only [tgt, Bool.and_eq_true] at hk
        refine congrArg (· + 1) (ih ?_ h hk.2)
        intro i hi; subst hi; cases hk.1
end TP

set_option Elab.async false
set_option linter.all false
set_option maxRecDepth 100000
/-! TPs1: sets of ints: made of a list, their size, sorted. -/
namespace TP
open PySem PySem.Spec PyProof.Rows L2

/-- the set as set() begins it -/
abbrev emptySet (w : World) : Obj := { cls := .type "set", dict := none, data := .set #[] 0 (.fresh 0 0 (!w.params.followText "set-order")) }
section
variable {P : Program} {w : World} {A : Around} {E : Value → Shared → Prop} {s : Shared}
set_option maxHeartbeats 3200000 in
/-- set(xs), xs a list of ints -/
theorem setOfList {l : Addr} {items : Array Value} (ns : List Int) {Q : Value → Shared → Prop} (hh : A.handled = none) (hl : s.heap.IsList l items) (hit : IntsAre items.toList ns) (hb : ns.length + 1 < scanBound)
    (h : ∀ (h' : Heap) (tk c : Nat), SetR w h' s.heap.objs.size (fun j => decide (j ∈ ns)) c → c ≤ ns.length → (∀ b o, s.heap.get? b = some o → h'.get? b = some o) → Q (.ref s.heap.objs.size) { s with heap := h', toks := tk }) :
    wpAny (model P w) A (call (.type "set") [.ref l]) Q E s := by
  have hn : items.size = ns.length := by
    have := IntsAre.length hit
    rwa [Array.length_toList] at this
  obtain ⟨_, _, made1⟩ := F.called_set.mro
  have made2 := F.called_set.made
  have made3 := F.called_set.sub
  have made4 := F.called_set.notType
  have made5 := F.called_set.canCreate
  have made6 := F.typeCall_set_1 (.ref l)
  refine wpAny_call (codeAny_of_tree ?_)
  show wpAny _ _ (callAny (.type "set") _) _ _ _
  refine wpAny_pure ⟨Code.quiet_builtin _ (by decide +kernel), codeAny_builtin F.entry_type_call ?_⟩
  rw [Around.under_plain (weight_type_call_type "set" [.ref l] []) rfl]
  repeat (any_goals (first | assumption | wp_step))
  refine codeAny_mono (code_set_led1 (.ref l) (E := E) (Q₁ := fun ob st => ob = .ref s.heap.objs.size ∧ st = { s with heap := s.heap.push (emptySet w) }) ⟨rfl, rfl⟩) fun r st hr => ?_
  cases r with
  | error e => exact hr
  | ok f => cases f with
    | next => exact hr.elim
    | brk => exact hr.elim
    | cont => exact hr.elim
    | ret ob =>
      obtain ⟨rfl, rfl⟩ := hr
      generalize hD : s.heap.objs.size = D
      have atD : (s.heap.push (emptySet w)).get? D = some (emptySet w) := by rw [← hD]; exact Heap.get?_push_size _ rfl
      have typD : Shared.TypeIs { s with heap := s.heap.push (emptySet w) } (.ref D) "set" := ⟨_, atD, rfl⟩
      have init1 := F.called_set.init.lookup
      have init2 := F.called_set.init.bind (.ref D)
      repeat (any_goals (first | assumption | wp_step))
      refine codeAny_mono (codeAny_call_builtin (R := wants (fun v st => v = .none ∧ ∃ h' tk c, st = { s with heap := h', toks := tk } ∧ SetR w h' D (fun j => decide (j ∈ ns)) c ∧ c ≤ ns.length ∧
          ∀ b o, s.heap.get? b = some o → h'.get? b = some o) E) F.called_set.init.plain F.entry_set_init (check_set_init_1 typD ?_)) fun r2 st2 h2 => ?_
      · have keep1 : ∀ b o, s.heap.get? b = some o → (s.heap.push (emptySet w)).get? b = some o := fun b o e => Heap.get?_push_of_some _ e
        have list1 : (s.heap.push (emptySet w)).IsList l items := hl.push _
        obtain ⟨⟨oc, od, dat, sl⟩, hol, ec, nl, ed⟩ := hl
        simp only at ec ed
        subst ec ed
        have atl := keep1 _ _ hol
        have notS := F.sub_list_set
        have notF := F.sub_list_frozenset
        have notD : (Value.type "list" == Value.type "dict") = false := by decide
        have lt : l < D := by rw [← hD]; exact Heap.lt_size hol
        have size1 : (s.heap.push (emptySet w)).objs.size = D + 1 := by rw [Heap.size_push, hD]
        unfold Builtin.«set.__init__» noKeywords Builtin.Frozenset.updateFrom
        generalize hIt : pyIter = It
        wp_walk
        subst hIt
        refine wpAny_pyIter_list list1 (wpAny_bind (wpAny_runValue ?_))
        have W := (Walks.list (prog := P) (w := w) (A := A.in1.in1.in1) (by simp [hh]) (s.heap.push (emptySet w)).objs.size l (by rw [size1]; exact Nat.ne_of_lt (Nat.lt_succ_of_lt lt)) items).toS
        have freeD : D ∉ [(s.heap.push (emptySet w)).objs.size, l] := by
          rw [size1]
          intro z
          rcases List.mem_cons.mp z with z | z
          · exact Nat.ne_of_lt (Nat.lt_succ_self D) z
          · exact Nat.ne_of_gt lt (List.mem_singleton.mp z)
        have value : ∀ (i : Nat) (v : Value), items[i]? = some v → ∃ k t, ns[i]? = some k ∧ v = .int k t := fun i v hv => by
          have hi : i < ns.length := by rw [← hn]; exact (Array.getElem?_eq_some_iff.mp hv).1
          obtain ⟨t, e⟩ := PyProof.Rows.IntsAre.int_at hit i v (by rw [Array.getElem?_toList]; exact hv)
          rw [List.getD_eq_getElem?_getD, List.getElem?_eq_getElem hi] at e
          exact ⟨ns[i], t, List.getElem?_eq_getElem hi, e⟩
        refine set_update_ints W D freeD ns hn hb value (items.size - 0) 0 _ rfl (Nat.zero_le _) ⟨⟨_, Heap.get?_push_size _ rfl, rfl, rfl⟩, list1.push _⟩ ⟨0, Nat.le_refl 0, setR_new_at (Heap.get?_push_of_some _ atD)⟩ ?_
        rintro ⟨h', g', d', tk', os'⟩ c' hm hc' hS'
        obtain rfl : g' = s.gens := hm.gens
        obtain rfl : d' = s.drawn := hm.drawn
        obtain rfl : os' = s.os := hm.os
        show wpAny _ _ _ _ _ _
        refine wpAny_pure ?_
        show wpAny _ _ (ret Value.none) _ _ _
        refine wpAny_pure ⟨rfl, h', tk', c', rfl, hS', by rw [← hn]; exact hc', fun b o e => hm.heap b o ?_ (Heap.get?_push_of_some _ (keep1 b o e))⟩
        have b0 : b < D := by rw [← hD]; exact Heap.lt_size e
        rw [size1]
        intro z
        rcases List.mem_cons.mp z with z | z
        · exact Nat.ne_of_lt b0 z
        · exact Nat.ne_of_lt (Nat.lt_succ_of_lt b0) (List.mem_singleton.mp z)
      · cases r2 with
        | error e => exact h2
        | ok f2 => cases f2 with
          | next => exact h2.elim
          | brk => exact h2.elim
          | cont => exact h2.elim
          | ret v =>
            obtain ⟨rfl, h', tk, c, rfl, q1, q2, q3⟩ := h2
            repeat (any_goals (first | assumption | wp_step))
            subst hD
            exact h _ _ _ q1 q2 q3
end
end TP

set_option Elab.async false
set_option linter.all false
set_option maxRecDepth 100000
/-! TPs2: set comprehensions, any kind of members; ints. -/
namespace TP
open PySem PySem.Spec PyProof.Rows L2 PpSet

/-- a comprehension's turns, whatever is made: O0 what is made ahead of the first turn, st what a good turn adds -/
def tCg (O0 : Addr → HO) (wi : TI) (g : TG) (tt : TT) (st : L2.St → Hp → Addr → (Hp → Prop) → Prop) (vs : List Nat) : TE := fun σ H Q => wi σ H fun J H1 => ∀ D, H1 D = none → ∃ W : Nat → Nat → Hp → Prop, (∃ m, W 0 m (upd H1 D (O0 D))) ∧ ∀ i m H, W i m H →
  (J.stop i H ∧ Q (.ref D) H) ∨ (J.go i H ∧ ∃ Nx : Hp → Prop, (∀ H', Nx H' → ∃ m', m' < m ∧ W (i + 1) m' H') ∧ ∀ x H', J.yld i H x H' → g x (wipe σ vs) H' fun σ2 H2 => wipe σ2 vs = wipe σ vs ∧ tt σ2 H2 fun b H3 => if b = true then st σ2 H3 D Nx else Nx H3)

/-- a kind of sets: how it begins, what a member's coming in asks and leaves -/
structure SetKd (P : Program) (w : World) where
  O0 : Addr → HO
  Ad : V → Hp → Addr → (Hp → Prop) → Prop
  new : ∀ (H : Hp) (h : Heap) (D : Addr), h.get? D = some (emptySet w) → ObjOk P w H h D (O0 D)
  add : ∀ (Y : Cx), Y.prog = P → Y.w = w → ∀ (pins : List (Addr × Obj)) (σ : L2.St) (H : Hp) (s : Shared) (D : Addr) (y : V) (u : Value) (Nx : Hp → Prop) (E : Value → Shared → Prop), Inv Y pins σ H s → RelV y u → Ad y H D Nx →
    wpAny (model P w) Y.A (call (.builtin "set.add") [.ref D, u]) (fun _ s' => ∃ H', Inv Y pins σ H' s' ∧ Nx H') E s

section
variable {X : Cx}
theorem scOf (Kd : SetKd X.prog X.w) {elt tg iter : Expr} {ifs : List Expr} {scope : Scope} {own : List (Str × Nat)} {pos : Pos} {wi : TI} {g : TG} {tt : TT} {te : TE} (hc : X.calm = true) (hN : X.N.Nodup) (hi : PI X tg iter wi) (ok : BlkOk X.N X.env.scope scope own)
    (hg : ∀ (s : Shared) (H : Hp) (C : Addr) (cl : List (Str × Addr)) (fp : List Addr), PG (X.blk s H scope (compEnvC scope cl C X.env) fp) tg g)
    (ht : ∀ (s : Shared) (H : Hp) (C : Addr) (cl : List (Str × Addr)) (fp : List Addr), PTs (X.blk s H scope (compEnvC scope cl C X.env) fp) ifs tt)
    (he : ∀ (s : Shared) (H : Hp) (C : Addr) (cl : List (Str × Addr)) (fp : List Addr), PE (X.blk s H scope (compEnvC scope cl C X.env) fp) elt te) (hs : ∀ x, foldedSetIterable iter X.env x = pure x) :
    PE X (.SetComp elt [⟨tg, iter, ifs, 0⟩] scope pos) (tCg Kd.O0 wi g tt (fun σ2 H3 D Nx => te σ2 H3 fun y H4 => Kd.Ad y H4 D Nx) (own.map (·.2))) := by
  refine ⟨fun pins s σ H Q I h => ?_⟩
  rw [eval_SetComp]
  have clo : ∀ y ∈ scope.names, y.2 = .free → ∃ c, X.env.cells.lookup y.1 = some c := fun y hy e => I.ok.has _ (ok.free y hy e)
  refine wpAny_comprehension_free (use := none) rfl hs (closure_ok clo) ok.kind (fun y hy e => by rw [ok.uniq y hy, e]) (thn (hi.run pins s σ H _ I h) fun _ _ h1 => thn h1 fun _ s2 h2 => ?_)
  obtain ⟨it, fp, tn, J, H2, rfl, I2, T, st2, f2, q⟩ := h2
  refine newSet_ok (newEnv_comp ?_)
  obtain ⟨D, hD⟩ : ∃ D, D = s2.heap.objs.size := ⟨_, rfl⟩
  rw [← hD]
  have hDn : H2 D = none := I2.hok.fresh (by rw [hD]; exact Nat.le_refl _)
  obtain ⟨W, ⟨m0, w0⟩, turn⟩ := q D hDn
  -- the heap with the empty set
  obtain ⟨g3, hg3⟩ : ∃ g3 : Heap, g3 = s2.heap.push (emptySet X.w) := ⟨_, rfl⟩
  obtain ⟨H3, hH3⟩ : ∃ H3 : Hp, H3 = upd H2 D (Kd.O0 D) := ⟨_, rfl⟩
  have kp3 : ∀ b o, s2.heap.get? b = some o → g3.get? b = some o := fun b o e => by rw [hg3]; exact Heap.get?_push_of_some _ e
  have sz3 : g3.objs.size = D + 1 := by rw [hg3, Heap.size_push, hD]
  have I3 : Inv X pins σ H3 { s2 with heap := g3 } := by
    rw [hH3]
    exact I2.laid (t' := s2.toks) kp3 (by rw [hD]; exact Nat.le_refl _) (Kd.new _ _ _ (by rw [hg3, hD]; exact Heap.get?_push_size _ rfl))
  have lt2 : ∀ b ∈ fp, b < D := fun b hb => by
    obtain ⟨o, e, _⟩ := T.obj _ _ st2 b hb
    rw [hD]; exact Heap.lt_size e
  have f3 : ∀ b ∈ fp, FpOk X pins H3 b ∧ b < g3.objs.size := fun b hb => by
    obtain ⟨a0, a1⟩ := f2 b hb
    exact ⟨⟨by rw [hH3, upd_ne (Nat.ne_of_lt (lt2 b hb))]; exact a0, a1⟩, by rw [sz3]; exact Nat.lt_succ_of_lt (lt2 b hb)⟩
  have st3 : tn 0 g3 := T.keep _ _ _ st2 fun b _ o e => kp3 b o e
  have I4 := block_start I3 ok hN f3
  rw [← hH3] at w0
  rw [← hg3]
  obtain ⟨ce, hce⟩ : ∃ ce, ce = compEnvC scope (cellsFrom (g3.objs.size + 1) scope.names (cloFrom X.env.cells scope.names [])) g3.objs.size X.env := ⟨_, rfl⟩
  have pg := hg { s2 with heap := g3 } H3 g3.objs.size (cellsFrom (g3.objs.size + 1) scope.names (cloFrom X.env.cells scope.names [])) fp
  have pt := ht { s2 with heap := g3 } H3 g3.objs.size (cellsFrom (g3.objs.size + 1) scope.names (cloFrom X.env.cells scope.names [])) fp
  have pe := he { s2 with heap := g3 } H3 g3.objs.size (cellsFrom (g3.objs.size + 1) scope.names (cloFrom X.env.cells scope.names [])) fp
  have loc : ce.locals = g3.objs.size := by rw [hce]; rfl
  show codeAny (model X.prog X.w) X.A (.compStart (.SetComp elt [⟨tg, iter, ifs, 0⟩] scope pos) 0 (.ref it) (.ref D) (compEnvC scope (cellsFrom (g3.objs.size + 1) scope.names (cloFrom X.env.cells scope.names [])) g3.objs.size X.env)) (compPost (model X.prog X.w) X.A X.xe none _ (.ref D) g3.objs.size) { s2 with heap := pushCells (g3.push { cls := .type "dict", data := .dict #[] }) scope.names }
  rw [← hce] at pg pt pe I4 ⊢
  have I4 : Inv (X.blk { s2 with heap := g3 } H3 scope ce fp) [] (wipe σ (own.map (·.2))) H3 { s2 with heap := pushCells (g3.push { cls := .type "dict", data := .dict #[] }) scope.names } := I4
  obtain ⟨Y, hY⟩ : ∃ Y, Y = X.blk { s2 with heap := g3 } H3 scope ce fp := ⟨_, rfl⟩
  have st4 : tn 0 (pushCells (g3.push { cls := .type "dict", data := .dict #[] }) scope.names) := T.keep _ _ _ st3 fun b _ o e => pushCells_keeps _ _ _ _ (Heap.get?_push_of_some _ e)
  have stat : ∀ {σ' : L2.St} {H' : Hp} {s' : Shared}, Inv Y [] σ' H' s' → (∀ b ∈ fp, H' b = none) → ∀ b ∈ fp, FpOk Y [] H' b := fun {σ' H' s'} I' hn b hb => by
    subst hY
    exact ⟨hn b hb, (I'.ok.exf b hb).1, I'.ok.exfs b hb, .inl hb, fun x c e => (I'.ok.exf b hb).2 x c e, fun p hp => by cases hp⟩
  subst hY
  refine codeAny_compStart_set ?lp (T.self X.A 0 _ _ _ st4 ?lp)
  refine compLoopS_any (fun n s' => ∃ i H', Inv (X.blk { s2 with heap := g3 } H3 scope ce fp) [] (wipe σ (own.map (·.2))) H' s' ∧ tn i s'.heap ∧ (∀ b ∈ fp, H' b = none) ∧ W i n H') ?_ m0 ⟨0, H3, I4, st4, fun b hb => (f3 b hb).1.1, w0⟩
  rintro n s5 ⟨i, H5, I5, st5, n5, w5⟩
  rcases turn i n H5 w5 with ⟨stop, qq⟩ | ⟨go, Nx, hNx, step⟩
  · refine thnF (T.done (X.blk { s2 with heap := g3 } H3 scope ce fp) rfl rfl rfl hc i [] s5 _ H5 (fun _ _ => False) I5 (stat I5 n5) st5 stop) fun r s6 ⟨hr, I6⟩ => ?_
    subst hr
    have I7 : Inv X pins σ H5 s6 := I3.call' (ch := fp) I6.os I6.base I6.hok I6.bare fun b hb => ⟨(f3 b hb).1.2.2.2.1, (f3 b hb).1.2.1, (f3 b hb).1.2.2.2.2.1, (f3 b hb).1.2.2.2.2.2⟩
    have nC : H5 g3.objs.size = none := by
      rw [← loc]
      exact I6.free
    obtain ⟨m, hn, _⟩ := I6.loc
    have hn : s6.heap.Ns g3.objs.size m := by rw [← loc]; exact hn
    refine ⟨m, hn, fun h'' sb => ?_⟩
    obtain ⟨f0, f1, f2', f3', f4, f5⟩ : FpOk X pins H5 g3.objs.size := I3.fpOk (Nat.le_refl _) nC
    exact ⟨.ref D, H5, I7.turned (t' := s6.toks) (fun b o hb e => (sb.2 b hb).trans e) f0 f1 f3' f4 f5, rfl, qq⟩
  · refine thnF (T.item (X.blk { s2 with heap := g3 } H3 scope ce fp) rfl rfl rfl hc i [] s5 _ H5 (fun _ _ => False) I5 (stat I5 n5) st5 go) fun r s6 ⟨u, hr, h6⟩ => ?_
    subst hr
    refine thnF h6 fun _ s7 ⟨x, H7, I7, r7, y7, st7, n7⟩ => ?_
    have I7p := I7.pinned (stat I7 n7) (T.obj _ _ st7)
    refine thnF (pg.run _ s7 _ H7 x u _ I7p r7 (step x H7 y7)) fun _ s8 ⟨σ8, H8, I8, hw8, q8⟩ => ?_
    refine thnF (pt.run _ s8 σ8 H8 _ I8 q8) fun b s9 ⟨H9, I9, q9⟩ => ?_
    have fin : ∀ {s' : Shared} {H' : Hp}, Inv (X.blk { s2 with heap := g3 } H3 scope ce fp) ([] ++ pinsAt fp s7.heap) σ8 H' s' → Nx H' → ∃ m, m < n ∧ ∃ i H', Inv (X.blk { s2 with heap := g3 } H3 scope ce fp) [] (wipe σ (own.map (·.2))) H' s' ∧ tn i s'.heap ∧ (∀ b ∈ fp, H' b = none) ∧ W i m H' := fun {s' H'} I' nx => by
      obtain ⟨m', hm, w'⟩ := hNx H' nx
      have held : ∀ b ∈ fp, ∀ o, s7.heap.get? b = some o → s'.heap.get? b = some o ∧ H' b = none := fun b hb o e => by
        obtain ⟨z1, z2, _⟩ := I'.pin (b, o) (List.mem_append_right _ (List.mem_append_right _ (mem_pinsAt hb e)))
        exact ⟨z1, z2⟩
      refine ⟨m', hm, i + 1, H', (I'.unpinned (pins := [])).weak (by rw [← hw8, wipe_length]) (fun j v e => ?_), T.keep _ _ _ st7 fun b hb o e => (held b hb o e).1, fun b hb => ?_, w'⟩
      · rw [← hw8] at e
        exact (wipe_some e).1
      · obtain ⟨o, e, _⟩ := T.obj _ _ st7 b hb
        exact (held b hb o e).2
    cases b with
    | false => exact fin I9 (by simpa using q9)
    | true =>
      refine thnF (pe.run _ s9 σ8 H9 (fun y H4 => Kd.Ad y H4 D Nx) I9 (by simpa using q9)) fun z s10 ⟨yv, H10, I10, r10, ad⟩ => ?_
      exact thnF (Kd.add (X.blk { s2 with heap := g3 } H3 scope ce fp) rfl rfl _ σ8 H10 s10 D yv z Nx (fun _ _ => False) I10 r10 ad) fun _ s11 ⟨H11, I11, nx⟩ => fin I11 nx
end
/-- sets of ints -/
def intSets (P : Program) (w : World) : SetKd P w where
  O0 := fun D => SetO w D (fun _ => false) 0
  Ad := fun y H D Nx => ∃ k S n, y = .int k ∧ H D = some (SetO w D S n) ∧ n + 1 < scanBound ∧ Nx (upd H D (SetO w D (fun j => S j || decide (j = k)) (if S k = true then n else n + 1)))
  new := fun H h D e => setO_new ⟨_, #[], 0, _, e, ⟨rfl, rfl, rfl⟩, rfl, (fun e he => by simp at he), by simp, (fun k => by simp), by decide, by rfl, rfl, List.Pairwise.nil, by
    show _ ∨ (!w.params.followText "set-order") = true
    cases w.params.followText "set-order"
    · exact .inr rfl
    · exact .inl rfl⟩
  add := fun Y hP hw pins σ H s D y u Nx E I r ad => by
    subst hP hw
    obtain ⟨k, S, n, rfl, hD, room, nx⟩ := ad
    obtain ⟨tk, rfl⟩ := r
    refine setR_add (setO_get I hD) room fun h' sb new => ?_
    have he : ∃ u, h'.get? D = some u := by
      have ⟨o, _, _, _, ho, _⟩ := new
      exact ⟨o, ho⟩
    exact ⟨_, I.write (e := D) (t' := s.toks + 1) (by rw [hD]; trivial) (.inl rfl) (fun b o hb e => (sb.2 b hb).trans e) he (setO_new new), nx⟩
end TP

set_option Elab.async false
set_option linter.all false
set_option maxRecDepth 100000
/-! TPs3: sorted(set(..)), len(set(..)). -/
namespace TP
open PySem PySem.Spec PyProof.Rows L2 PpSet

theorem mem_uins {x y : Int} : ∀ {l : List Int}, y ∈ uins x l ↔ y = x ∨ y ∈ l
  | [] => by simp [uins]
  | z :: r => by
    unfold uins
    split
    · simp [List.mem_cons]
    · split
      · rename_i h
        subst h
        simp [List.mem_cons]
      · simp only [List.mem_cons, mem_uins]
        constructor
        · rintro (h | h | h)
          · exact .inr (.inl h)
          · exact .inl h
          · exact .inr (.inr h)
        · rintro (h | h | h)
          · exact .inr (.inl h)
          · exact .inl h
          · exact .inr (.inr h)
theorem mem_usort {y : Int} : ∀ {l : List Int}, y ∈ usort l ↔ y ∈ l
  | [] => by simp [usort]
  | x :: r => by
    unfold usort
    rw [mem_uins, mem_usort, List.mem_cons]
theorem uins_up {x : Int} : ∀ {l : List Int}, l.Pairwise (· < ·) → (uins x l).Pairwise (· < ·)
  | [], _ => by simp [uins]
  | z :: r, h => by
    unfold uins
    rw [List.pairwise_cons] at h
    split
    · rename_i h1
      refine List.pairwise_cons.mpr ⟨fun y hy => ?_, List.pairwise_cons.mpr h⟩
      rcases List.mem_cons.mp hy with e | e
      · rw [e]; exact h1
      · exact Int.lt_trans h1 (h.1 y e)
    · split
      · exact List.pairwise_cons.mpr h
      · rename_i h1 h2
        refine List.pairwise_cons.mpr ⟨fun y hy => ?_, uins_up h.2⟩
        rcases mem_uins.mp hy with e | e
        · rw [e]; omega
        · exact h.1 y e
theorem usort_up : ∀ l : List Int, (usort l).Pairwise (· < ·)
  | [] => .nil
  | _ :: r => uins_up (usort_up r)
theorem up_eq : ∀ {l m : List Int}, l.Pairwise (· < ·) → m.Pairwise (· < ·) → (∀ k, k ∈ l ↔ k ∈ m) → l = m
  | [], [], _, _, _ => rfl
  | [], y :: m, _, _, h => by have := (h y).mpr List.mem_cons_self; cases this
  | x :: l, [], _, _, h => by have := (h x).mp List.mem_cons_self; cases this
  | x :: l, y :: m, hl, hm, h => by
    rw [List.pairwise_cons] at hl hm
    have exy : x = y := by
      rcases List.mem_cons.mp ((h x).mp List.mem_cons_self) with e | e
      · exact e
      · rcases List.mem_cons.mp ((h y).mpr List.mem_cons_self) with e2 | e2
        · exact e2.symm
        · have a := hm.1 x e
          have b := hl.1 y e2
          omega
    subst exy
    rw [up_eq hl.2 hm.2 fun k => ?_]
    constructor
    · intro hk
      rcases List.mem_cons.mp ((h k).mp (List.mem_cons_of_mem _ hk)) with e | e
      · have := hl.1 k hk; omega
      · exact e
    · intro hk
      rcases List.mem_cons.mp ((h k).mpr (List.mem_cons_of_mem _ hk)) with e | e
      · have := hm.1 k hk; omega
      · exact e
theorem uins_len {x : Int} : ∀ {l : List Int}, x ∉ l → (uins x l).length = l.length + 1
  | [], _ => rfl
  | z :: r, h => by
    rw [List.mem_cons, not_or] at h
    unfold uins
    split
    · rfl
    · split
      · rename_i h2; exact absurd h2 h.1
      · rw [List.length_cons, uins_len h.2, List.length_cons]
theorem usort_len : ∀ {l : List Int}, l.Nodup → (usort l).length = l.length
  | [], _ => rfl
  | x :: r, h => by
    rw [List.nodup_cons] at h
    unfold usort
    rw [uins_len (fun z => h.1 (mem_usort.mp z)), usort_len h.2, List.length_cons]
theorem usort_le : ∀ l : List Int, (usort l).length ≤ l.length
  | [] => Nat.le_refl _
  | x :: r => by
    have h : ∀ m : List Int, (uins x m).length ≤ m.length + 1 := fun m => by
      induction m with
      | nil => exact Nat.le_refl _
      | cons z m ih =>
        unfold uins
        split
        · exact Nat.le_refl _
        · split
          · exact Nat.le_succ _
          · rw [List.length_cons, List.length_cons]; omega
    unfold usort
    have := h (usort r)
    have := usort_le r
    rw [List.length_cons]
    omega
theorem usort_same {l m : List Int} (h : ∀ k, k ∈ l ↔ k ∈ m) : usort l = usort m := up_eq (usort_up l) (usort_up m) fun k => by rw [mem_usort, mem_usort, h]
theorem setR_size {w : World} {h : Heap} {a : Addr} {S : Int → Bool} {n : Nat} {ns : List Int} (R : SetR w h a S n) (hS : ∀ k, S k = true ↔ k ∈ ns) : n = (usort ns).length := by
  obtain ⟨o, es, ep, t, ho, hex, hd, g, nd, hm, hb, hf, hn, _⟩ := R
  have e : usort (es.toList.map keyOf) = usort ns := usort_same fun k => by rw [← hm, hS]
  rw [← e, usort_len nd, List.length_map, Array.length_toList, hn]

theorem ints_of_valsV {ns : List Int} {us : List Value} (r : Vals (ns.map V.int) us) : IntsAre us ns := L2.intsAre_of r
def rSetI (w : World) (K : PySem.W.Frag) : List V → Hp → VK → Prop := fun xs H Q => ∃ (l : Addr) (ns : List Int), xs = [.ref l] ∧ (SqL K H l (ns.map V.int) ∨ SqT K H l (ns.map V.int)) ∧ ns.length + 1 < scanBound ∧
  ∀ (a : Addr) (S : Int → Bool) (n : Nat), H a = none → (∀ k, S k = true ↔ k ∈ ns) → n = (usort ns).length → Q (.ref a) (upd H a (SetO w a S n))
section
variable {X : Cx}
theorem cr_setI (hc : X.calm = true) : CallR X (.type "set") (rSetI X.w X.K) := by
  intro pins s σ H xs us Q I r h
  obtain ⟨l, ns, rfl, hl, hb, q⟩ := h
  rw [Vals.ref1 r]
  have fin : ∀ (h' : Heap) (tk c : Nat), SetR X.w h' s.heap.objs.size (fun j => decide (j ∈ ns)) c → c ≤ ns.length → (∀ b o, s.heap.get? b = some o → h'.get? b = some o) →
      EP X pins σ Q (.ref s.heap.objs.size) { s with heap := h', toks := tk } := fun h' tk c R _ k => by
    refine ⟨.ref s.heap.objs.size, _, I.laid (t' := tk) k (Nat.le_refl _) (setO_new R), rfl, q _ _ _ (I.hok.fresh (Nat.le_refl _)) (fun k => decide_eq_true_iff) (setR_size R fun k => decide_eq_true_iff)⟩
  rcases hl with hl | hl
  · obtain ⟨its, rv, ht, hz⟩ := I.list hl
    exact setOfList ns (I.ok.hd hc) ht.isList (ints_of_valsV rv) hb fin
  · obtain ⟨its, rv, ht, hz⟩ := I.tuple hl
    exact call_set_tupI ns (I.ok.hd hc) ht (ints_of_valsV rv) hb fin
theorem cr_lenSet : CallR X (.builtin "len") (fun xs H Q => ∃ (a : Addr) (S : Int → Bool) (n : Nat), xs = [.ref a] ∧ H a = some (SetO X.w a S n) ∧ Q (.int n) H) := by
  intro pins s σ H xs us Q I r h
  obtain ⟨a, S, n, rfl, ha, q⟩ := h
  rw [Vals.ref1 r]
  obtain ⟨o, es, ep, t, ho, hex, hd, g, nd, hm, hb, hf, hn, _⟩ := setO_get I ha
  refine call_len_set ho hex hd hf ?_ ?_
  · have : es.size < scanBound := hb
    have h2 : scanBound ≤ 2 ^ 62 := by decide
    omega
  · rw [hn]
    exact ⟨.int n, H, (I.tok _).tok _, ⟨_, rfl⟩, q⟩
end
end TP

set_option Elab.async false
set_option linter.all false
set_option maxRecDepth 100000
/-! TPs4: comprehensions whatever they make, read by trees; sorted(set(..)), len(set(..)), len({..}), sorted({..: True}). -/
namespace TP
open PySem PySem.Spec PyProof.Rows L2 PpSet

/-- a turn that always brings something -/
def keyStep (Ph : Nat → List D → Rs) (elt : CE) (tg : CT) : D → Ev → Out := fun d r2 => match bindT tg d r2 with
  | some r3 => (ev Ph elt r3).bind fun y r5 => .ok (.tuple [y]) false r5
  | none => .stuck
theorem keyStep_ok {Ph : Nat → List D → Rs} {elt : CE} {tg : CT} {d : D} {r : Ev} {l : List D} {f : Bool} {r1 : Ev} (h : keyStep Ph elt tg d r = .ok (.tuple l) f r1) :
    ∃ r3 y fy, bindT tg d r = some r3 ∧ ev Ph elt r3 = .ok y fy r1 ∧ l = [y] := by
  unfold keyStep at h
  split at h
  · rename_i r3 e3
    obtain ⟨y, fy, r5, e5, h3⟩ := Out.bind_ok h
    cases h3
    exact ⟨r3, y, fy, e3, e5, rfl⟩
  · cases h
section
variable {B : Bs} {Ph : Nat → List D → Rs} {X : Cx} {T : List FT} {k : Nat}
theorem cg_read {all : List D} {elt it : CE} {tg : CT} {vs : List Nat} {σ : L2.St} {H : Hp} {Q : VK} {O0 : Addr → HO} {tt : TT} {st : L2.St → Hp → Addr → (Hp → Prop) → Prop} (Ob : Addr → HO → List D → Prop)
    (ob0 : ∀ a, Ob a (O0 a) []) (htt : ∀ σ H Q, Q true H → tt σ H Q)
    (hst : ∀ (σ2 : L2.St) (F5 H5 : Hp) (r4 r5 : Ev) (Da : Addr) (Nx : Hp → Prop) (x : HO) (acc : List D) (y : D) (fy : Bool), EnvOk B F5 H5 σ2 r4 → ev Ph elt r4 = .ok y fy r5 → H5 Da = some x → Ob Da x acc → acc.length < sizeLine → acc.length < all.length → F5 Da = none →
      (∀ F6 H6, EnvOk B F6 H6 σ2 r5 → Grow F5 H5 σ2 r4 F6 H6 r5 → H6 Da = some x ∧ F6 Da = none) →
      (∀ F6 H6 x', EnvOk B F6 H6 σ2 r5 → Grow F5 H5 σ2 r4 F6 H6 r5 → Ob Da x' (acc ++ [y]) → Nx (upd H6 Da x')) → ∃ i : Bool, (intsOf (acc ++ [y])).isSome = i ∧ (i = true → st σ2 H5 Da Nx))
    (hio : B.io = [] ∨ 0 ∉ vs) (hs : ∀ j ∈ tg.slots, j ∈ vs)
    {F : Hp} {r : Ev} (E : EnvOk B F H σ r) {items : List D} {f1 : Bool} {r1 : Ev} (e1 : ev Ph it r = .ok (.list items) f1 r1) {f2 : Bool} {r2 : Ev} (e2 : lcLoop (keyStep Ph elt tg) vs items (wipeE r1 vs) = .ok (.list all) f2 r2) (hints : (intsOf all).isSome = true)
    (q : ∀ Da F' H' x, EnvOk B F' H' σ (backE r1 r2 vs) → Grow F H σ r F' H' (backE r1 r2 vs) → H Da = none → F' Da = none → H' Da = some x → Ob Da x all → Q (.ref Da) H') :
    tCg O0 (tIt B Ph it) (gT B tg) tt st vs σ H Q := by
  have pre : ∀ {l m : List D}, (intsOf (l ++ m)).isSome = true → (intsOf l).isSome = true := fun {l m} => by
    induction l with
    | nil => intro _; rfl
    | cons d l ih =>
      intro h
      rw [List.cons_append] at h
      cases d <;> simp only [intsOf, Option.isSome_map] at h ⊢ <;> first | exact ih h | cases h
  refine ⟨F, r, E, items, f1, r1, e1, fun J F1 H1 E1 G1 hlen hJ Da hDa => ?_⟩
  have Ew := E1.wiped (vs := vs) hio
  have hDw : ∀ i d, getO (wipeE r1 vs) i = some d → (wipe σ vs)[i]? ≠ some (some (.ref Da)) := Ew.own_ne hDa
  have hD0 : B.H0 Da = none := E1.dm Da hDa
  refine ⟨fun i m Hx => ∃ F2 rr x acc rest f3, EnvOk B F2 Hx (wipe σ vs) rr ∧ Grow F1 H1 (wipe σ vs) (wipeE r1 vs) F2 Hx rr ∧ Hx Da = some x ∧ F2 Da = none ∧ Ob Da x acc ∧
      lcLoop (keyStep Ph elt tg) vs (items.drop i) rr = .ok (.list rest) f3 r2 ∧ acc ++ rest = all ∧ acc.length ≤ i ∧ i + m = items.length,
    ⟨items.length, F1, wipeE r1 vs, O0 Da, [], all, _, Ew.updD (none_sub E1.fle hDa) hDw hD0, Grow.updD Grow.refl hDa, upd_same, none_sub E1.fle hDa, ob0 Da, by rw [List.drop_zero]; exact e2, rfl, Nat.le_refl _, by omega⟩, ?_⟩
  rintro i m Hx ⟨F2, rr, x, acc, rest, f3, E2, G2, hD, hF, hob, el, hall, hal, him⟩
  by_cases hi : i < items.length
  · obtain ⟨go, yl⟩ := hJ.2 i Hx (G2.gf.trans E2.fle) hi
    have hdrop : items.drop i = items[i] :: items.drop (i + 1) := List.drop_eq_getElem_cons hi
    rw [hdrop] at el
    obtain ⟨l, f, r5, m5, f5, es, el2, ed, _⟩ := lcLoop_cons el
    cases ed
    obtain ⟨r3, y, fy, eb, ey, rfl⟩ := keyStep_ok es
    refine .inr ⟨go, fun Hy => ∃ F2 rr x acc rest f3, EnvOk B F2 Hy (wipe σ vs) rr ∧ Grow F1 H1 (wipe σ vs) (wipeE r1 vs) F2 Hy rr ∧ Hy Da = some x ∧ F2 Da = none ∧ Ob Da x acc ∧
      lcLoop (keyStep Ph elt tg) vs (items.drop (i + 1)) rr = .ok (.list rest) f3 r2 ∧ acc ++ rest = all ∧ acc.length ≤ i + 1, fun Hy ⟨a1, a2, a3, a4, a5, a6, a7, a8, a9, a10, a11, a12, a13, a14⟩ => ⟨m - 1, by omega, a1, a2, a3, a4, a5, a6, a7, a8, a9, a10, a11, a12, a13, a14, by omega⟩, fun v Hy hy => ?_⟩
    obtain ⟨d0, hd0, hx⟩ := yl v Hy hy
    rw [List.getElem?_eq_getElem hi] at hd0
    cases hd0
    obtain ⟨F3, E3, G3, rx, hF3, hD3⟩ : ∃ F3, EnvOk B F3 Hy (wipe σ vs) rr ∧ Grow F2 Hx (wipe σ vs) rr F3 Hy rr ∧ Rep B.K F3 v items[i] ∧ F3 Da = none ∧ Hy Da = some x := by
      rcases hx with ⟨rfl, rx⟩ | ⟨Tq, xs, ds, rfl, hT, rfl, ed, rx⟩
      · exact ⟨F2, E2, Grow.refl, rx.mono G2.gf, hF, hD⟩
      · have hfT := none_sub E2.fle hT
        have hTD : Da ≠ Tq := ne_of_none hD hT
        obtain ⟨E3, G3⟩ := E2.grow (F' := upd F2 Tq (.tup xs)) (H' := upd Hx Tq (.tup xs)) ⟨sub_upd hfT, sub_upd hT, sub_upd2 E2.fle, fun a o e => by
          by_cases z : a = Tq
          · subst z; exact .inr hT
          · rw [upd_ne z] at e; exact .inl e⟩
        refine ⟨_, E3, G3, ?_, by rw [upd_ne hTD]; exact hF, by rw [upd_ne hTD]; exact hD⟩
        rw [ed]
        exact .tup (.inl (.inl upd_same)) ((rx.mono G2.gf).mono (sub_upd hfT))
    refine ⟨F3, rr, items[i], r3, E3, rx, eb, fun σ2 E4 o2 => ⟨wipe_off o2 hs, ?_⟩⟩
    have hw : wipe σ2 vs = wipe σ vs := wipe_off o2 hs
    have hDr : ∀ j d, getO rr j = some d → (wipe σ vs)[j]? ≠ some (some (.ref Da)) := fun j d g => by
      obtain ⟨d', g'⟩ := G2.kd j d g
      exact hDw j d' g'
    have hD4 : ∀ j d, getO r3 j = some d → σ2[j]? ≠ some (some (.ref Da)) := fun j d g e => by
      obtain ⟨q1, q2⟩ := bindT_own tg eb g
      rw [o2.2 j q2] at e
      exact hDr j d q1 e
    refine htt σ2 Hy _ (iteT ?_)
    have keepD : ∀ {F6 H6 : Hp} {r6 : Ev}, Grow F3 Hy σ2 r3 F6 H6 r6 → H6 Da = some x ∧ F6 Da = none := fun {F6 H6 r6} G6 => ⟨G6.gk Da _ hD3 hD4, by
      cases z : F6 Da with
      | none => rfl
      | some o =>
        rcases G6.gn Da o z with w | w
        · rw [hF3] at w; cases w
        · rw [hD3] at w; cases w⟩
    have hz : acc.length < sizeLine := by omega
    obtain ⟨b, hb, hgo⟩ := hst σ2 F3 Hy r3 r5 Da (fun Hy => ∃ F2 rr x acc rest f3, EnvOk B F2 Hy (wipe σ vs) rr ∧ Grow F1 H1 (wipe σ vs) (wipeE r1 vs) F2 Hy rr ∧ Hy Da = some x ∧ F2 Da = none ∧ Ob Da x acc ∧
      lcLoop (keyStep Ph elt tg) vs (items.drop (i + 1)) rr = .ok (.list rest) f3 r2 ∧ acc ++ rest = all ∧ acc.length ≤ i + 1) x acc y fy E4 ey hD3 hob hz (by rw [← hall, List.length_append, List.singleton_append, List.length_cons]; omega) hF3 (fun F6 H6 E6 G6 => keepD G6) fun F6 H6 x' E6 G6 ob' => by
        have E7 := E6.wiped (vs := vs) hio
        rw [hw] at E7
        have G7 : Grow F1 H1 (wipe σ vs) (wipeE r1 vs) F6 H6 (wipeE r5 vs) := (G2.trans G3).trans (G6.blk hs eb o2)
        refine ⟨F6, wipeE r5 vs, x', acc ++ [y], m5, f5, E7.updD (keepD G6).2 (fun j d g => ?_) hD0, G7.updD hDa, upd_same, (keepD G6).2, ob', el2, ?_, ?_⟩
        · obtain ⟨d', g'⟩ := G7.kd j d g
          exact hDw j d' g'
        · rw [← hall, List.append_assoc]
        · rw [List.length_append]; simp only [List.length_cons, List.length_nil]; omega
    refine hgo ?_
    rw [← hb]
    refine pre (m := m5) ?_
    rw [List.append_assoc, List.singleton_append]
    have : acc ++ y :: m5 = all := hall
    rw [this]
    exact hints
  · refine .inl ⟨hJ.1 i Hx (G2.gf.trans E2.fle) (by omega), ?_⟩
    rw [List.drop_eq_nil_of_le (by omega)] at el
    unfold lcLoop at el
    cases el
    rw [List.append_nil] at hall
    subst hall
    obtain ⟨E9, G9⟩ := E1.restored E2 G2
    exact q Da F2 Hx x E9 (G1.trans G9) (G1.gd Da hDa) hF hD hob
end
end TP

set_option Elab.async false
set_option linter.all false
set_option maxRecDepth 100000
/-! TPs5: sorted(set(..)), len(set(..)), len({..}), sorted({..: True for ..}), repr. -/
namespace TP
open PySem PySem.Spec PyProof.Rows L2 PpSet

theorem seqD_ints {K : PySem.W.Frag} {F H : Hp} {v : V} {d : D} {l : List D} {ns : List Int} (s : Sub F H) (rv : Rep K F v d) (hs : seqD d = some l) (hn : intsOf l = some ns) :
    ∃ a, v = .ref a ∧ (SqL K H a (ns.map V.int) ∨ SqT K H a (ns.map V.int)) := by
  cases d <;> simp only [seqD] at hs <;> try (cases hs; done)
  · cases hs
    obtain ⟨a, xs, rfl, hq, rx⟩ := rv.lst_inv
    obtain ⟨rfl, _⟩ := rx.ints hn
    exact ⟨a, rfl, .inl (SqL.sub s hq)⟩
  · cases hs
    obtain ⟨a, xs, rfl, hq, rx⟩ := rv.tup_inv
    obtain ⟨rfl, _⟩ := rx.ints hn
    exact ⟨a, rfl, .inr (SqT.sub s hq)⟩
theorem intsOf_len : ∀ {l : List D} {ns : List Int}, intsOf l = some ns → ns.length = l.length
  | [], _, h => by cases h; rfl
  | .int i :: r, ns, h => by
    simp only [intsOf] at h
    cases e : intsOf r with
    | none => rw [e] at h; cases h
    | some ms => rw [e] at h; cases h; exact congrArg (· + 1) (intsOf_len e)
  | .none :: _, _, h => by cases h
  | .bool _ :: _, _, h => by cases h
  | .str _ :: _, _, h => by cases h
  | .list _ :: _, _, h => by cases h
  | .tuple _ :: _, _, h => by cases h
  | .dict _ :: _, _, h => by cases h
theorem intsOf_app : ∀ {l : List D} {y : D} {ms : List Int}, intsOf (l ++ [y]) = some ms → ∃ ns i, intsOf l = some ns ∧ y = .int i ∧ ms = ns ++ [i]
  | [], y, ms, h => by
    cases y <;> first | (cases h; done) | skip
    cases h
    exact ⟨[], _, rfl, rfl, rfl⟩
  | .int j :: r, y, ms, h => by
    rw [List.cons_append] at h
    simp only [intsOf] at h
    cases e : intsOf (r ++ [y]) with
    | none => rw [e] at h; cases h
    | some ms2 =>
      rw [e] at h
      cases h
      obtain ⟨ns, i, h1, h2, h3⟩ := intsOf_app e
      exact ⟨j :: ns, i, by simp only [intsOf, h1, Option.map_some], h2, by rw [h3]; rfl⟩
  | .none :: _, _, _, h => by cases h
  | .bool _ :: _, _, _, h => by cases h
  | .str _ :: _, _, _, h => by cases h
  | .list _ :: _, _, _, h => by cases h
  | .tuple _ :: _, _, _, h => by cases h
  | .dict _ :: _, _, _, h => by cases h

section
variable {B : Bs} {Ph : Nat → List D → Rs} {X : Cx} {T : List FT} {k : Nat}
theorem pe_ssetT {c : CE} {x y : Str} {e : Expr} {p p2 pos pos2 : Pos} (C : Ctx X B Ph T k) (hx : x = "sorted") (hy : y = "set") (hg : Gl X x) (hg2 : Gl X y) (ha : PE X e (tEv B Ph c)) (hs : nstar e = true) :
    PE X (.Call (.Name x p) [.Call (.Name y p2) [e] [] pos2] [] pos) (tEv B Ph (.sset c)) := by
  subst hx
  subst hy
  refine pe_mono (pe_callB (cr_sortedSet C.calm) hg (C.bn _ (by decide)) boot_sorted (pa_cons (pe_callTy (cr_setI C.calm) hg2 (C.bn _ (by decide)) (by decide +kernel) (pa_cons (pe_p ha) pa_nil (star_cons hs)) (by decide) (by decide) (star_cons hs) rfl) pa_nil rfl) (by decide) (by decide) rfl rfl) fun σ H Q ⟨F, r, E, d, fr, r', ee, q⟩ => ?_
  simp only [ev] at ee
  obtain ⟨d1, f1, r1, e1, ee⟩ := Out.bind_ok ee
  split at ee
  · rename_i l hl
    split at ee
    · rename_i ns hn
      split at ee
      · rename_i hb
        cases ee
        refine ⟨F, r, E, d1, f1, r', e1, fun v F1 H1 E1 G1 rv => ?_⟩
        rw [C.hK] at rv
        obtain ⟨a, rfl, hq⟩ := seqD_ints E1.fle rv hl hn
        refine ⟨a, ns, rfl, hq, by have := hb.2; have : scanBound = 4096 := rfl; omega, fun b S n hbn hS hn' => ?_⟩
        refine ⟨b, S, n, rfl, upd_same, by rw [hn']; exact hb.1, fun ns' p hup hm hlen hp => ?_⟩
        have e2 : ns' = usort ns := up_eq hup (usort_up ns) fun k => by rw [hm, hS, mem_usort]
        subst e2
        obtain ⟨E2, G2⟩ := E1.grow (F' := F1) (H' := upd H1 b (SetO X.w b S n)) ⟨Sub.refl _, sub_upd hbn, E1.fle.trans (sub_upd hbn), fun _ _ e => .inl e⟩
        exact (Gives.of E2 (G1.trans G2) q).list E2.fle (RepAll.of_ints _) p hp
      · cases ee
    · cases ee
  · cases ee
theorem pe_lsetT {c : CE} {x y : Str} {e : Expr} {p p2 pos pos2 : Pos} (C : Ctx X B Ph T k) (hx : x = "len") (hy : y = "set") (hg : Gl X x) (hg2 : Gl X y) (ha : PE X e (tEv B Ph c)) (hs : nstar e = true) :
    PE X (.Call (.Name x p) [.Call (.Name y p2) [e] [] pos2] [] pos) (tEv B Ph (.lset c)) := by
  subst hx
  subst hy
  refine pe_mono (pe_callB cr_lenSet hg (C.bn _ (by decide)) PySem.boot_len (pa_cons (pe_callTy (cr_setI C.calm) hg2 (C.bn _ (by decide)) (by decide +kernel) (pa_cons (pe_p ha) pa_nil (star_cons hs)) (by decide) (by decide) (star_cons hs) rfl) pa_nil rfl) (by decide) (by decide) rfl rfl) fun σ H Q ⟨F, r, E, d, fr, r', ee, q⟩ => ?_
  simp only [ev] at ee
  obtain ⟨d1, f1, r1, e1, ee⟩ := Out.bind_ok ee
  split at ee
  · rename_i l hl
    split at ee
    · rename_i ns hn
      split at ee
      · rename_i hb
        cases ee
        refine ⟨F, r, E, d1, f1, r', e1, fun v F1 H1 E1 G1 rv => ?_⟩
        rw [C.hK] at rv
        obtain ⟨a, rfl, hq⟩ := seqD_ints E1.fle rv hl hn
        refine ⟨a, ns, rfl, hq, by have : scanBound = 4096 := rfl; omega, fun b S n hbn hS hn' => ?_⟩
        refine ⟨b, S, n, rfl, upd_same, ?_⟩
        obtain ⟨E2, G2⟩ := E1.grow (F' := F1) (H' := upd H1 b (SetO X.w b S n)) ⟨Sub.refl _, sub_upd hbn, E1.fle.trans (sub_upd hbn), fun _ _ e => .inl e⟩
        rw [hn'] at E2 G2 ⊢
        exact q _ _ _ E2 (G1.trans G2) (ValOk.rep0 (.int _))
      · cases ee
    · cases ee
  · cases ee
theorem ev_lsc {elt it : CE} {tg : CT} {vs : List Nat} {r rf : Ev} {d : D} {fr : Bool} (h : ev Ph (.lsc elt tg it vs) r = .ok d fr rf) :
    ∃ items f1 r1 f2 r2 l ns, ev Ph it r = .ok (.list items) f1 r1 ∧ lcLoop (keyStep Ph elt tg) vs items (wipeE r1 vs) = .ok (.list l) f2 r2 ∧ intsOf l = some ns ∧ ns.length ≤ 4000 ∧ d = .int (usort ns).length ∧ fr = false ∧ rf = backE r1 r2 vs := by
  simp only [ev] at h
  obtain ⟨x, f1, r1, e1, h2⟩ := Out.bind_ok h
  split at h2
  · rename_i items
    split at h2
    · rename_i l f2 r2 e2
      split at h2
      · rename_i ns hn
        split at h2
        · rename_i hb
          cases h2
          exact ⟨items, f1, r1, f2, r2, l, ns, e1, e2, hn, hb, rfl, rfl, rfl⟩
        · cases h2
      · cases h2
    · cases h2
  · cases h2
theorem ev_sdc {elt it : CE} {tg : CT} {vs : List Nat} {r rf : Ev} {d : D} {fr : Bool} (h : ev Ph (.sdc elt tg it vs) r = .ok d fr rf) :
    ∃ items f1 r1 f2 r2 l ns, ev Ph it r = .ok (.list items) f1 r1 ∧ lcLoop (keyStep Ph elt tg) vs items (wipeE r1 vs) = .ok (.list l) f2 r2 ∧ intsOf l = some ns ∧ (usort ns).length < 64 ∧ d = .list ((usort ns).map .int) ∧ fr = true ∧ rf = backE r1 r2 vs := by
  simp only [ev] at h
  obtain ⟨x, f1, r1, e1, h2⟩ := Out.bind_ok h
  split at h2
  · rename_i items
    split at h2
    · rename_i l f2 r2 e2
      split at h2
      · rename_i ns hn
        split at h2
        · rename_i hb
          cases h2
          exact ⟨items, f1, r1, f2, r2, l, ns, e1, e2, hn, hb, rfl, rfl, rfl⟩
        · cases h2
      · cases h2
    · cases h2
  · cases h2
/-- the members so far -/
def ObI (w : World) (Da : Addr) (x : HO) (acc : List D) : Prop := ∃ S n ns, x = SetO w Da S n ∧ intsOf acc = some ns ∧ (∀ k, S k = true ↔ k ∈ ns) ∧ n = (usort ns).length
theorem pe_lscT {elt it : CE} {tg : CT} {own : List (Str × Nat)} {x : Str} {ex tgx iterx : Expr} {scope : Scope} {p p2 pos : Pos} (C : Ctx X B Ph T k) (hx : x = "len") (hg' : Gl X x) (hio : B.io = [] ∨ 0 ∉ own.map (·.2)) (hs : ∀ j ∈ tg.slots, j ∈ own.map (·.2))
    (hi : PI X tgx iterx (tIt B Ph it)) (ok : BlkOk X.N X.env.scope scope own)
    (hg : ∀ (s : Shared) (H : Hp) (Ca : Addr) (cl : List (Str × Addr)) (fp : List Addr), PG (X.blk s H scope (compEnvC scope cl Ca X.env) fp) tgx (gT B tg))
    (he : ∀ (s : Shared) (H : Hp) (Ca : Addr) (cl : List (Str × Addr)) (fp : List Addr), PE (X.blk s H scope (compEnvC scope cl Ca X.env) fp) ex (tEv B Ph elt))
    (hf : ∀ x, foldedSetIterable iterx X.env x = pure x) : PE X (.Call (.Name x p) [.SetComp ex [⟨tgx, iterx, [], 0⟩] scope p2] [] pos) (tEv B Ph (.lsc elt tg it (own.map (·.2)))) := by
  subst hx
  refine pe_mono (pe_callB cr_lenSet hg' (C.bn _ (by decide)) PySem.boot_len (pa_cons (scOf (intSets X.prog X.w) C.calm C.nd hi ok hg (fun _ _ _ _ _ => pts_nil) (fun s H Ca cl fp => pe_p (he s H Ca cl fp)) hf) pa_nil rfl) (by decide) (by decide) rfl rfl) fun σ H Q ⟨F, r, E, d, fr, r', ee, q⟩ => ?_
  obtain ⟨items, f1, r1, f2, r2, l, ns, e1, e2, hn, hb, rfl, rfl, rfl⟩ := ev_lsc ee
  have hl := intsOf_len hn
  show tCg (intSets X.prog X.w).O0 (tIt B Ph it) (gT B tg) tYes (fun σ2 H3 D Nx => tEp B Ph elt σ2 H3 fun y H4 => (intSets X.prog X.w).Ad y H4 D Nx) (own.map (·.2)) σ H (fun v H1 => ∃ (a : Addr) (S : Int → Bool) (n : Nat), [v] = [V.ref a] ∧ H1 a = some (SetO X.w a S n) ∧ Q (.int n) H1)
  refine cg_read (all := l) (ObI X.w) (fun a => ⟨fun _ => false, 0, [], rfl, rfl, fun k => by simp, rfl⟩) (fun _ _ _ h => h) (fun σ2 F5 H5 r4 r5 Da Nx x acc y fy E5 ey hD hob hz hal hF keep nx => ⟨_, rfl, fun hsome => ?_⟩) hio hs E e1 e2 (by rw [hn]; rfl) fun Da F' H' x E' G' hDa hF' hH' hob => ?_
  · cases e : intsOf (acc ++ [y]) with
    | none => rw [e] at hsome; cases hsome
    | some ms =>
      obtain ⟨ns0, i, h1, rfl, h3⟩ := intsOf_app e
      obtain ⟨S, n, ns1, rfl, h4, h5, h6⟩ := hob
      rw [h1] at h4
      cases h4
      refine ⟨F5, r4, E5, _, fy, r5, ey, fun v F6 H6 E6 G6 rv => ?_⟩
      cases rv
      have hlen := intsOf_len h1
      have hus := usort_le ns0
      refine ⟨i, S, n, rfl, (keep F6 H6 E6 G6).1, by have : scanBound = 4096 := rfl; omega, nx F6 H6 _ E6 G6 ⟨_, _, ms, rfl, e, fun k => ?_, ?_⟩⟩
      · rw [h3, Bool.or_eq_true, h5, decide_eq_true_iff, List.mem_append, List.mem_singleton]
      · rw [h3]
        by_cases hm : S i = true
        · rw [if_pos hm, h6]
          exact congrArg List.length (usort_same fun k => by
            rw [List.mem_append, List.mem_singleton]
            exact ⟨.inl, fun z => z.elim id fun z => by rw [z]; exact (h5 i).mp hm⟩)
        · rw [if_neg hm, h6]
          have : usort (ns0 ++ [i]) = usort (i :: ns0) := usort_same fun k => by
            rw [List.mem_append, List.mem_singleton, List.mem_cons]
            exact or_comm
          rw [this]
          show _ = (uins i (usort ns0)).length
          rw [uins_len fun z => hm ((h5 i).mpr (mem_usort.mp z))]
  · obtain ⟨S, n, ns1, rfl, h4, h5, h6⟩ := hob
    rw [hn] at h4
    cases h4
    refine ⟨Da, S, n, rfl, hH', ?_⟩
    rw [h6]
    exact q _ _ _ E' G' (ValOk.rep0 (.int _))
end
end TP

set_option Elab.async false
set_option linter.all false
set_option maxRecDepth 100000
/-! TPs6: sorted({..: True for ..}), {..}.get(k, e), repr. -/
namespace TP
open PySem PySem.Spec PyProof.Rows L2 PpSet

theorem putK_keys {κ : Type} [DecidableEq κ] (kvs : List (κ × V)) (k : κ) (v : V) : (putK kvs k v).map (·.1) = if k ∈ kvs.map (·.1) then kvs.map (·.1) else kvs.map (·.1) ++ [k] := by
  unfold putK
  by_cases h : k ∈ kvs.map (·.1)
  · rw [if_pos h, if_pos]
    · rw [List.map_map]
      refine List.map_congr_left fun kv _ => ?_
      show (if kv.1 = k then (kv.1, v) else kv).1 = kv.1
      split <;> rfl
    · obtain ⟨kv, hm, e⟩ := List.mem_map.mp h
      exact List.any_eq_true.mpr ⟨kv, hm, decide_eq_true e⟩
  · rw [if_neg h, if_neg]
    · rw [List.map_append]; rfl
    · intro z
      obtain ⟨kv, hm, e⟩ := List.any_eq_true.mp z
      exact h (List.mem_map.mpr ⟨kv, hm, of_decide_eq_true e⟩)
theorem up_of_le {l : List Int} (h : l.Pairwise (· ≤ ·)) (nd : l.Nodup) : l.Pairwise (· < ·) := by
  refine List.Pairwise.imp₂ ?_ h nd
  intro a b h1 h2
  omega
section
variable {B : Bs} {Ph : Nat → List D → Rs} {X : Cx} {T : List FT} {k : Nat}
def ObK (Da : Addr) (x : HO) (acc : List D) : Prop := ∃ (kvs : List (L2.Key × V)) (ks ns : List Int), x = .dK kvs ∧ kvs.map (·.1) = ks.map Sum.inl ∧ ks.Nodup ∧ intsOf acc = some ns ∧ (∀ k, k ∈ ks ↔ k ∈ ns) ∧ ks.length ≤ acc.length
theorem pe_sdcT {elt it : CE} {tg : CT} {own : List (Str × Nat)} {x : Str} {ex tgx iterx : Expr} {scope : Scope} {kk : Nat} {p p2 p3 pos : Pos} (C : Ctx X B Ph T k) (hx : x = "sorted") (hg' : Gl X x) (hio : B.io = [] ∨ 0 ∉ own.map (·.2)) (hs : ∀ j ∈ tg.slots, j ∈ own.map (·.2))
    (hi : PI X tgx iterx (tIt B Ph it)) (ok : BlkOk X.N X.env.scope scope own)
    (hg : ∀ (s : Shared) (H : Hp) (Ca : Addr) (cl : List (Str × Addr)) (fp : List Addr), PG (X.blk s H scope (compEnvC scope cl Ca X.env) fp) tgx (gT B tg))
    (he : ∀ (s : Shared) (H : Hp) (Ca : Addr) (cl : List (Str × Addr)) (fp : List Addr), PE (X.blk s H scope (compEnvC scope cl Ca X.env) fp) ex (tEv B Ph elt))
    (hf : ∀ x, foldedSetIterable iterx X.env x = pure x) : PE X (.Call (.Name x p) [.DictComp ex (.Constant (.bool true) kk p3) [⟨tgx, iterx, [], 0⟩] scope p2] [] pos) (tEv B Ph (.sdc elt tg it (own.map (·.2)))) := by
  subst hx
  refine pe_mono (pe_callB (call_sortedDI C.calm) hg' (C.bn _ (by decide)) boot_sorted (pa_cons (pe_dc C.calm C.nd hi ok hg (fun _ _ _ _ _ => pts_nil) (fun s H Ca cl fp => pe_p (he s H Ca cl fp)) (fun _ _ _ _ _ => pe_bl) hf) pa_nil rfl) (by decide) (by decide) rfl rfl) fun σ H Q ⟨F, r, E, d, fr, r', ee, q⟩ => ?_
  obtain ⟨items, f1, r1, f2, r2, l, ns, e1, e2, hn, hb, rfl, rfl, rfl⟩ := ev_sdc ee
  show tCg (fun _ => .dK []) (tIt B Ph it) (gT B tg) tYes (fun σ2 H3 D Nx => tEp B Ph elt σ2 H3 fun y H4 => ∃ (kvs : List (L2.Key × V)) (k : L2.Key), y = kV k ∧ H4 D = some (.dK kvs) ∧ kvs.length < sizeLine ∧ Nx (upd H4 D (.dK (putK kvs k (.bl true))))) (own.map (·.2)) σ H
    (fun v H1 => ∃ (a : Addr) (kvs : List (L2.Key × V)) (ks : List Int), [v] = [V.ref a] ∧ Rd H1 a (.dK kvs) ∧ kvs.map (·.1) = ks.map Sum.inl ∧ ks.length < 64 ∧ ∀ (ys : List Int) (p : Addr), ys.Perm ks → ys.Pairwise (· ≤ ·) → H1 p = none → Q (.ref p) (upd H1 p (.lst (ys.map V.int))))
  refine cg_read (all := l) ObK (fun a => ⟨[], [], [], rfl, rfl, .nil, rfl, fun _ => Iff.rfl, Nat.le_refl _⟩) (fun _ _ _ h => h) (fun σ2 F5 H5 r4 r5 Da Nx x acc y fy E5 ey hD hob hz hal hF keep nx => ⟨_, rfl, fun hsome => ?_⟩) hio hs E e1 e2 (by rw [hn]; rfl) fun Da F' H' x E' G' hDa hF' hH' hob => ?_
  · cases e : intsOf (acc ++ [y]) with
    | none => rw [e] at hsome; cases hsome
    | some ms =>
      obtain ⟨ns0, i, h1, rfl, h3⟩ := intsOf_app e
      obtain ⟨kvs, ks, ns1, rfl, h4, h5, h6, h7, h8⟩ := hob
      rw [h1] at h6
      cases h6
      refine ⟨F5, r4, E5, _, fy, r5, ey, fun v F6 H6 E6 G6 rv => ?_⟩
      cases rv
      have hkl : kvs.length = ks.length := by
        have := congrArg List.length h4
        rwa [List.length_map, List.length_map] at this
      refine ⟨kvs, .inl i, rfl, (keep F6 H6 E6 G6).1, by omega, nx F6 H6 _ E6 G6 ?_⟩
      have hk := putK_keys kvs (Sum.inl i : L2.Key) (.bl true)
      have hmem : (Sum.inl i : L2.Key) ∈ kvs.map (·.1) ↔ i ∈ ks := by
        rw [h4, List.mem_map]
        exact ⟨fun ⟨j, hj, e⟩ => by cases e; exact hj, fun h => ⟨i, h, rfl⟩⟩
      by_cases hi2 : i ∈ ks
      · rw [if_pos (hmem.mpr hi2), h4] at hk
        refine ⟨_, ks, ms, rfl, hk, h5, e, fun k => ?_, by rw [List.length_append]; omega⟩
        rw [h7, h3, List.mem_append, List.mem_singleton]
        exact ⟨.inl, fun z => z.elim id fun z => by rw [z]; exact (h7 i).mp hi2⟩
      · rw [if_neg (fun z => hi2 (hmem.mp z)), h4] at hk
        refine ⟨_, ks ++ [i], ms, rfl, by rw [hk, List.map_append]; rfl, ?_, e, fun k => ?_, by rw [List.length_append, List.length_append]; exact Nat.add_le_add_right h8 1⟩
        · rw [List.nodup_append]
          exact ⟨h5, by simp, fun a ha b hb => by rw [List.mem_singleton.mp hb]; exact fun z => hi2 (by rw [← z]; exact ha)⟩
        · rw [List.mem_append, h7, h3, List.mem_append]
  · obtain ⟨kvs, ks, ns1, rfl, h4, h5, h6, h7, h8⟩ := hob
    rw [hn] at h6
    cases h6
    have hlen : ks.length = (usort ns).length := by rw [← usort_len h5, usort_same h7]
    refine ⟨Da, kvs, ks, rfl, .inl hH', h4, by omega, fun ys p hp hle hpn => ?_⟩
    have e3 : ys = usort ns := up_eq (up_of_le hle (hp.nodup_iff.mpr h5)) (usort_up ns) fun k => by rw [hp.mem_iff, h7, mem_usort]
    subst e3
    exact (Gives.of E' G' q).list E'.fle (RepAll.of_ints _) p hpn
/-! ### repr -/
theorem cr_reprD {k : Nat} (hgu : X.A.guards = some []) (hr : Room k X.A) : CallR X (.builtin "repr") (RVs X.K (dBi .repr)) := by
  intro pins s σ H xs us Q I r h
  obtain ⟨F, ds, dz, fr, sf, hx, e0, g⟩ := h
  have e : dRepr ds = some (dz, fr) := e0
  unfold dRepr at e
  split at e
  · rename_i d
    split at e
    · rename_i hb
      cases e
      simp only [Bool.and_eq_true, decide_eq_true_eq] at hb
      obtain ⟨⟨h0, h1⟩, h4⟩ := hb
      have h3 : d.canLay0 = true := SeqAt.canLay_of_shaped h0
      have h5 : d.depth ≤ 64 := SeqAt.depth_of_shaped h0
      have h2 : d.hasDict = false := PyData.hasDict_of_canLay d h3
      obtain ⟨v, rfl, hv⟩ := hx.one
      cases r with
      | cons rv t =>
        cases t
        have hz : d.shown.length ≤ sizeLine := by rw [← line_eq]; exact h4
        have un := hr.un
        have atom : ∀ {z : Str}, d.shown = z → Q (.str z) H := fun {z} ez => by rw [← ez]; exact g.same sf (.str _)
        cases d with
        | none =>
          cases hv
          cases rv
          exact P.repr_of_none ⟨.str _, H, I.tok _, ⟨_, rfl⟩, atom rfl⟩
        | bool b =>
          cases hv
          cases rv
          exact P.repr_of_bool ⟨.str _, H, I.tok _, ⟨_, rfl⟩, atom rfl⟩
        | int i =>
          cases hv
          obtain ⟨t, rfl⟩ := rv
          simp only [PyData.showable, decide_eq_true_eq] at h1
          exact P.repr_of_int h1 ⟨.str _, H, I.tok _, ⟨_, rfl⟩, atom rfl⟩
        | str z =>
          cases hv
          obtain ⟨t, rfl⟩ := rv
          exact P.repr_of_str ⟨.str _, H, I.tok _, ⟨_, rfl⟩, atom rfl⟩ (by simpa only [PyData.shown] using hz)
        | dict kvs => simp [PyData.canLay0] at h3
        | list l =>
          obtain ⟨as, rd⟩ := Dp.reads I _ _ _ ((hv.mono sf).dp h3) rv
          obtain ⟨a, xs, rfl, _, _⟩ := hv.lst_inv
          cases rv
          exact repr_of_reads' rd h1 (fun z => by rw [h2] at z; cases z) hgu (by omega) (fun _ _ e => e) (fun h' u tk hk => ⟨.str _, H, I.kept (t' := tk) hk, ⟨_, rfl⟩, g.same sf (.str _)⟩) hz
        | tuple l =>
          obtain ⟨as, rd⟩ := Dp.reads I _ _ _ ((hv.mono sf).dp h3) rv
          obtain ⟨a, xs, rfl, _, _⟩ := hv.tup_inv
          cases rv
          exact repr_of_reads' rd h1 (fun z => by rw [h2] at z; cases z) hgu (by omega) (fun _ _ e => e) (fun h' u tk hk => ⟨.str _, H, I.kept (t' := tk) hk, ⟨_, rfl⟩, g.same sf (.str _)⟩) hz
    · cases e
  · cases e
end
end TP

set_option Elab.async false
set_option linter.all false
set_option maxRecDepth 100000
/-! TPs7: {'a': x, 'b': y}.get(k, e). -/
namespace TP
open PySem PySem.Spec PyProof.Rows L2 PpSet

theorem mergeK_new : ∀ (more kvs : List (L2.Key × V)), (more.map (·.1)).Nodup → (∀ k ∈ more.map (·.1), k ∉ kvs.map (·.1)) → mergeK kvs more = kvs ++ more
  | [], kvs, _, _ => by show kvs = kvs ++ []; rw [List.append_nil]
  | p :: r, kvs, nd, h => by
    rw [List.map_cons, List.nodup_cons] at nd
    have e : putK kvs p.1 p.2 = kvs ++ [p] := by
      unfold putK
      rw [if_neg]
      intro z
      obtain ⟨kv, hm, e⟩ := List.any_eq_true.mp z
      exact h p.1 List.mem_cons_self (List.mem_map.mpr ⟨kv, hm, of_decide_eq_true e⟩)
    show mergeK (putK kvs p.1 p.2) r = _
    rw [e, mergeK_new r (kvs ++ [p]) nd.2 (fun k hk hm => ?_), List.append_assoc]
    · rfl
    · rw [List.map_append, List.mem_append] at hm
      rcases hm with z | z
      · exact h k (List.mem_cons_of_mem _ hk) z
      · have : k = p.1 := by simpa using z
        rw [this] at hk
        exact nd.1 hk
def strKs (ks : List Str) (vs : List V) : List (L2.Key × V) := (ks.zip vs).map fun p => (Sum.inr p.1, p.2)
theorem strKs_val {K : PySem.W.Frag} {F : Hp} (s : Str) : ∀ {ks : List Str} {vs : List V} {ds : List D}, RepAll K F vs ds → ks.length = ds.length →
    (∃ v d, valV (strKs ks vs) (Sum.inr s) = some v ∧ (ks.zip ds).lookup s = some d ∧ Rep K F v d) ∨ (valV (strKs ks vs) (Sum.inr s) = none ∧ (ks.zip ds).lookup s = none)
  | [], _, _, _, _ => .inr ⟨rfl, rfl⟩
  | k :: ks, _, _, .nil, h => by cases h
  | k :: ks, _, _, .cons (v := v) (vs := vs) (d := d) (ds := ds) r t, h => by
    have ih := strKs_val s (ks := ks) t (by simpa using h)
    have e1 : valV (strKs (k :: ks) (v :: vs)) (Sum.inr s) = if k = s then some v else valV (strKs ks vs) (Sum.inr s) := by
      unfold valV strKs
      rw [List.zip_cons_cons, List.map_cons, List.find?_cons]
      by_cases hk : k = s
      · subst hk
        simp
      · rw [if_neg hk]
        have : decide ((Sum.inr k : L2.Key) = Sum.inr s) = false := decide_eq_false fun z => hk (Sum.inr.inj z)
        simp only [this]
    have e2 : ((k :: ks).zip (d :: ds)).lookup s = if k = s then some d else (ks.zip ds).lookup s := by
      rw [List.zip_cons_cons, List.lookup_cons]
      by_cases hk : k = s
      · subst hk; simp
      · rw [if_neg hk]
        have : (s == k) = false := by simpa using fun z : s = k => hk z.symm
        simp only [this]
    rw [e1, e2]
    by_cases hk : k = s
    · rw [if_pos hk, if_pos hk]; exact .inl ⟨v, d, rfl, rfl, r⟩
    · rw [if_neg hk, if_neg hk]; exact ih
section
variable {B : Bs} {Ph : Nat → List D → Rs} {X : Cx} {T : List FT} {k : Nat}
/-- pairs of a display: written texts and what they stand for -/
def tKs (B : Bs) (Ph : Nat → List D → Rs) (ks : List Str) (c : CE) : L2.St → Hp → (List (V × V) → Hp → Prop) → Prop := fun σ H Q => ∃ F r, EnvOk B F H σ r ∧ ∃ l fr r', ev Ph c r = .ok (.tuple l) fr r' ∧ l.length = ks.length ∧
  ∀ vs F' H', EnvOk B F' H' σ r' → Grow F H σ r F' H' r' → RepAll B.K F' vs l → Q ((ks.zip vs).map fun p => (V.str p.1, p.2)) H'
structure PKs (B : Bs) (Ph : Nat → List D → Rs) (X : Cx) (ks : List Str) (keys : List (Option Expr)) (values : List Expr) (c : CE) : Prop where
  ex : ∀ pos, ∃ trs, PPs X pos keys values trs ∧ ∀ σ H Q, tKs B Ph ks c σ H Q → tPairs trs σ H Q
  len : keys.length = values.length
  some_ : keys.all (·.isSome) = true
  kl : keys.length = ks.length
theorem pks_nil : PKs B Ph X [] [] [] .nil where
  ex := fun pos => ⟨[], pps_nil, fun σ H Q ⟨F, r, E, l, fr, r', ee, hl, q⟩ => by
    simp only [ev] at ee
    cases ee
    exact q [] F H E Grow.refl .nil⟩
  len := rfl
  some_ := rfl
  kl := rfl
theorem pks_cons {ks : List Str} {keys : List (Option Expr)} {values : List Expr} {a b : CE} {s : Str} {kk : Nat} {p : Pos} {x : Expr} (ha : PE X x (tEv B Ph a)) (hb : PKs B Ph X ks keys values b) : PKs B Ph X (s :: ks) (some (.Constant (.str s) kk p) :: keys) (x :: values) (.cons a b) where
  ex := fun pos => by
    obtain ⟨trs, h1, h2⟩ := hb.ex pos
    refine ⟨_, pps_cons pe_str (pe_p ha) h1, fun σ H Q ⟨F, r, E, l, fr, r', ee, hl, q⟩ => ?_⟩
    simp only [ev] at ee
    obtain ⟨d1, f1, r1, e1, ee⟩ := Out.bind_ok ee
    obtain ⟨d2, f2, r2, e2, ee⟩ := Out.bind_ok ee
    split at ee
    · rename_i m
      cases ee
      refine ⟨F, r, E, d1, f1, r1, e1, fun v F1 H1 E1 G1 rv => h2 σ H1 _ ⟨F1, r1, E1, m, f2, r', e2, by simpa using hl, fun vs F2 H2 E2 G2 rvs => ?_⟩⟩
      exact q (v :: vs) F2 H2 E2 (G1.trans G2) (.cons (rv.mono G2.gf) rvs)
    · cases ee
  len := congrArg (· + 1) hb.len
  some_ := by rw [List.all_cons]; exact hb.some_
  kl := congrArg (· + 1) hb.kl
theorem pe_dgetT {ks : List Str} {vc kc ec : CE} {m : Str} {keys : List (Option Expr)} {values : List Expr} {xk xe : Expr} {p apos cpos : Pos} (C : Ctx X B Ph T k) (hm : m = "get") (hnd : ks.Nodup) (h0 : ks ≠ []) (h15 : ks.length ≤ 15)
    (hv : PKs B Ph X ks keys values vc) (hk : PE X xk (tEv B Ph kc)) (he : PE X xe (tEv B Ph ec)) (s1 : nstar xk = true) (s2 : nstar xe = true) (hl : (apos.endLine == cpos.line) = true) :
    PE X (.Call (.Attribute (.Dict keys values p) m apos) [xk, xe] [] cpos) (tEv B Ph (.dget ks vc kc ec)) := by
  subst hm
  obtain ⟨trs, hp, htr⟩ := hv.ex p
  have hall : [xk, xe].all nstar = true := by rw [List.all_cons, List.all_cons, s1, s2]; rfl
  have m2 : M2 X (.Dict keys values p) "get" apos xk xe cpos := ⟨rfl, by rw [back_allF hall]; rfl, hl, by rw [star_all hall]; rfl⟩
  have un := C.room.un
  refine pe_mono (pe_dget2 (by omega) (pe_disp hp hv.some_ hv.len (fun z => h0 (List.eq_nil_of_length_eq_zero (by rw [← hv.kl, z]; rfl))) (by rw [hv.kl]; exact h15)) (pe_p hk) (pe_p he) m2) fun σ H Q ⟨F, r, E, d, fr, r', ee, q⟩ => ?_
  simp only [ev] at ee
  obtain ⟨d1, f1, r1, e1, ea⟩ := Out.bind_ok ee
  obtain ⟨d2, f2, r2, e2, eb⟩ := Out.bind_ok ea
  obtain ⟨d3, f3, r3, e3, ec⟩ := Out.bind_ok eb
  clear ee ea eb
  split at ec
  · rename_i l s
    split at ec
    · rename_i hlen
      obtain ⟨e4, rfl, rfl⟩ := okD_ok ec
      intro pa hpa
      obtain ⟨E0, G0⟩ := E.grow (F' := F) (H' := upd H pa (.dK [])) ⟨Sub.refl _, sub_upd hpa, E.fle.trans (sub_upd hpa), fun _ _ e => .inl e⟩
      refine htr σ _ _ ⟨F, r, E0, l, f1, r1, e1, hlen, fun vs F1 H1 E1 G1 rvs => ?_⟩
      have nslot : ∀ i e, getO r i = some e → σ[i]? ≠ some (some (.ref pa)) := E.own_ne hpa
      have at1 : H1 pa = some (.dK []) := G1.gk pa _ upd_same nslot
      have f1n : F1 pa = none := by
        cases z : F1 pa with
        | none => rfl
        | some o =>
          rcases G1.gn pa o z with w | w
          · rw [none_sub E.fle hpa] at w; cases w
          · rw [upd_same] at w; cases w
      have ek : (ks.zip vs).map (fun p => (V.str p.1, p.2)) = (strKs ks vs).map fun kv => (kV kv.1, kv.2) := by
        unfold strKs
        rw [List.map_map]
        rfl
      have kmap : (strKs ks vs).map (·.1) = ks.map Sum.inr := by
        unfold strKs
        rw [List.map_map]
        have : ks.length ≤ vs.length := by rw [rvs.length, hlen]; exact Nat.le_refl _
        rw [show ((fun x : L2.Key × V => x.1) ∘ fun p : Str × V => (Sum.inr p.1, p.2)) = Sum.inr ∘ Prod.fst from rfl, ← List.map_map, List.map_fst_zip this]
      have klen : (strKs ks vs).length = ks.length := by
        have := congrArg List.length kmap
        rwa [List.length_map, List.length_map] at this
      refine ⟨at1, strKs ks vs, ek, by rw [klen]; exact h15, ?_⟩
      rw [mergeK_new _ [] (by rw [kmap]; exact List.Pairwise.map _ (fun a b hne z => hne (Sum.inr.inj z)) hnd) (fun _ _ z => by cases z), List.nil_append]
      -- the filled dict
      have nslot1 : ∀ i e, getO r1 i = some e → σ[i]? ≠ some (some (.ref pa)) := fun i e g => by
        obtain ⟨e', g'⟩ := G1.kd i e g
        exact nslot i e' g'
      have E1' := E1.updD (x := .dK (strKs ks vs)) f1n nslot1 (E.dm pa hpa)
      have G1' : Grow F H σ r F1 (upd H1 pa (.dK (strKs ks vs))) r1 := (G0.trans G1).updD hpa
      refine ⟨pa, rfl, .inl ⟨_, .inl upd_same⟩, F1, r1, E1', _, f2, r2, e2, fun kv F2 H2 E2 G2 rk => ⟨F2, r2, E2, _, f3, _, e3, fun ev3 F3 H3 E3 G3 re => ?_⟩⟩
      have at3 : H3 pa = some (.dK (strKs ks vs)) := G3.gk pa _ (G2.gk pa _ upd_same nslot1) fun i e g => by
        obtain ⟨e', g'⟩ := G2.kd i e g
        exact nslot1 i e' g'
      cases rk
      refine ⟨_, DGet.k (k := Sum.inr s) at3, ?_⟩
      have rvs3 := rvs.mono (G2.gf.trans G3.gf)
      refine q _ F3 H3 E3 ((G1'.trans G2).trans G3) (ValOk.rep0 ?_)
      rcases strKs_val s rvs3 hlen.symm with ⟨v, dd, z1, z2, z3⟩ | ⟨z1, z2⟩
      · rw [z1]
        rw [z2] at e4
        cases e4
        exact z3
      · rw [z1]
        rw [z2] at e4
        cases e4
        exact re
    · cases ec
  · cases ec
theorem pe_reprT {es : CE} {x : Str} {p pos : Pos} {e : Expr} {l : List Expr} (C : Ctx X B Ph T k) (hx : x = (bkOf .repr).2) (hg : Gl X x) (ha : PA X (e :: l) (tAs B Ph es))
    (he : starEach (e :: l) X.env = (false, eval e X.env) :: starEach l X.env) (hpl : (backTo pos (starEach l X.env)).any (·.1) = false) : PE X (.Call (.Name x p) (e :: l) [] pos) (tEv B Ph (.bi .repr es)) := by
  subst hx
  refine pe_mono (pe_callB (cr_reprD C.gu C.room) hg (C.bn _ (by decide)) (bk_boot .repr) ha (by decide) (by decide) he hpl) fun σ H Q ⟨F, r, E, d, fr, r', ee, q⟩ => ?_
  simp only [ev] at ee
  obtain ⟨d1, f1, r1, e1, ee⟩ := Out.bind_ok ee
  split at ee
  · rename_i m
    obtain ⟨e3, rfl⟩ := okO_ok ee
    refine ⟨F, r, E, m, f1, r', e1, fun vs F1 H1 E1 G1 rv1 => ?_⟩
    rw [← C.hK]
    exact ⟨F1, m, d, fr, E1.fle, rv1, e3, Gives.of E1 G1 q⟩
  · cases ee
end
end TP

set_option Elab.async false
set_option linter.all false
set_option maxRecDepth 100000
/-! TP17: the look whether code is the code of a text: expressions. -/
namespace TP
open PySem PySem.Spec PyProof.Rows L2

structure SC where
  N : List Str
  sc : Scope
  blk : Option Scope
structure Gb where
  T : List FT
  G : List (Str × D)
  M : List (Str × List (Str × Nat))
  io : Bool

def sDbg : Str := "__debug__"
def sCld : Str := "__classdict__"
def visK : Option NameKind → Bool
  | some .local => true
  | some .cell => true
  | some .free => true
  | _ => false
def SC.vis (S : SC) (i : Nat) (n : Str) : Bool := decide (S.N[i]? = some n) && visK (S.sc.names.lookup n) && !(n == ("__debug__" : Str)) && !(n == ("__classdict__" : Str))
def SC.gl (S : SC) (x : Str) : Bool := decide (S.sc.names.lookup x = some .globalImplicit)
def SC.loc (S : SC) (i : Nat) (n : Str) : Bool := decide (S.N[i]? = some n) && (decide (S.sc.names.lookup n = some .local) || (decide (S.sc.names.lookup n = some .cell) && (match S.blk with | none => true | some o => decide (o.names.lookup n = some .cell))))
def relabelS (scope sc : Scope) : Scope :=
  { scope with names := scope.names.map fun (n, k) => if (k == .free && sc.kind == .function && sc.names.lookup n == some .cell) then (n, .cell) else (n, k) }
structure Sta (X : Cx) (S : SC) : Prop where
  N : X.N = S.N
  sc : X.env.scope = S.sc
  fn : ∀ x, match S.blk with | none => X.fn x = true | some o => X.fn x = (o.names.lookup x == some .cell)
theorem visK_of {k : Option NameKind} (h : visK k = true) : k = some .local ∨ k = some .cell ∨ k = some .free := by
  cases k with
  | none => cases h
  | some k => cases k <;> first | exact .inl rfl | exact .inr (.inl rfl) | exact .inr (.inr rfl) | cases h
section
variable {X : Cx} {S : SC}
theorem Sta.vis (A : Sta X S) {i : Nat} {n : Str} (h : S.vis i n = true) : X.N[i]? = some n ∧ Vis X.env.scope n ∧ (n == ("__debug__" : Str)) = false ∧ (n == ("__classdict__" : Str)) = false := by
  unfold SC.vis at h
  simp only [Bool.and_eq_true, decide_eq_true_eq, Bool.not_eq_true'] at h
  refine ⟨by rw [A.N]; exact h.1.1.1, ?_, h.1.2, h.2⟩
  unfold Vis
  rw [A.sc]
  exact visK_of h.1.1.2
theorem Sta.gl (A : Sta X S) {x : Str} (h : S.gl x = true) : Gl X x := by
  unfold SC.gl at h
  rw [decide_eq_true_eq] at h
  show X.env.scope.names.lookup x = _
  rw [A.sc]; exact h
theorem Sta.loc (A : Sta X S) {i : Nat} {n : Str} (h : S.loc i n = true) : X.N[i]? = some n ∧ L2.Loc X.env.scope n ∧ (X.fn n = true ∨ X.env.scope.names.lookup n = some .local) := by
  unfold SC.loc at h
  simp only [Bool.and_eq_true, Bool.or_eq_true, decide_eq_true_eq] at h
  refine ⟨by rw [A.N]; exact h.1, ?_, ?_⟩
  · unfold L2.Loc
    rw [A.sc]
    exact h.2.imp id fun z => z.1
  · rw [A.sc]
    rcases h.2 with z | z
    · exact .inr z
    · left
      have f := A.fn n
      cases e : S.blk with
      | none => rw [e] at f; exact f
      | some o =>
        rw [e] at f
        have z2 := z.2
        rw [e] at z2
        simp only [decide_eq_true_eq] at z2
        rw [f, z2]
        rfl
theorem Sta.blk (A : Sta X S) (s : Shared) (H : Hp) (scope : Scope) (cl : List (Str × Addr)) (Ca : Addr) (fp : List Addr) : Sta (X.blk s H scope (compEnvC scope cl Ca X.env) fp) ⟨S.N, relabelS scope S.sc, some scope⟩ :=
  ⟨A.N, by show relabel scope X.env = _; rw [← A.sc]; rfl, fun _ => rfl⟩
end
structure Ctx2 (X : Cx) (B : Bs) (Ph : Nat → List D → Rs) (g : Gb) (k : Nat) : Prop where
  c : Ctx X B Ph g.T k
  cs : ∀ x d, (x, d) ∈ g.G → ∃ v u, X.mg x = some u ∧ RelV v u ∧ ∀ F, Rep B.K F v d
  tb : ∀ x t, (x, t) ∈ g.M → TabOk X B x t
  io : B.io = [] ∨ g.io = true
  all : ∀ f, B.fa f ≠ none → ∃ t, g.T[f]? = some t
  ph : ∀ f t ds d fr, g.T[f]? = some t → Ph f ds = .ok d fr none → ds.length = t.fd.nP ∧ t.fd.io = false
theorem Ctx2.blk {X : Cx} {B : Bs} {Ph : Nat → List D → Rs} {g : Gb} {k : Nat} (C : Ctx2 X B Ph g k) (s : Shared) (H : Hp) (scope : Scope) (ce : Env) (fp : List Addr) : Ctx2 (X.blk s H scope ce fp) B Ph g k :=
  ⟨⟨rfl, C.c.calm, C.c.nd, C.c.room, C.c.gu, C.c.hK, C.c.bn, C.c.fn⟩, C.cs, C.tb, C.io, C.all, C.ph⟩

inductive Md where
  | e (x : Expr)
  | a (xs : List Expr)
  | t (x : Expr)
  | w (x : Expr)
  | i (tg it : Expr)
  | f (xs : List Expr)
  | o (x : Option Expr)
  | p (ks : List Str) (keys : List (Option Expr)) (values : List Expr)
def nmT (x : Expr) : Md :=
  match x with
  | .BoolOp _ _ _ => .w x
  | .UnaryOp .Not _ _ => .t x
  | .Compare _ _ _ _ => .t x
  | .IfExp _ _ _ _ => .t x
  | _ => .e x
def nm : Md → Md
  | .f [x] => nmT x
  | .t x => nmT x
  | .w (.BoolOp _ [y] _) => nmT y
  | .e (.BoolOp _ [y] _) => .e y
  | .o (some x) => .e x
  | m => m
def Snd (B : Bs) (Ph : Nat → List D → Rs) (X : Cx) (c : CE) : Md → Prop
  | .e x => PE X x (tEv B Ph c)
  | .a xs => PA X xs (tAs B Ph c)
  | .t x => PT X x (tTr B Ph c)
  | .w x => PW X x (tTr B Ph c)
  | .i tg it => PI X tg it (tIt B Ph c)
  | .f xs => PTs X xs (tTr B Ph c)
  | .o x => PO X x (tPt B Ph c)
  | .p ks keys values => PKs B Ph X ks keys values c

section
variable {B : Bs} {Ph : Nat → List D → Rs} {X : Cx} {c : CE}
theorem nmT_snd (hK : B.K = X.K) {x : Expr} (h : Snd B Ph X c (nmT x)) : PT X x (tTr B Ph c) := by
  have key : plainT x = true → nmT x = .e x → PT X x (tTr B Ph c) := fun hp he => by
    rw [he] at h
    exact pt_of hK h fun whole => isTrue_plain hp whole
  cases x <;> first | exact key rfl rfl | exact PW.pt h | exact h | skip
  rename_i op y pos
  cases op <;> first | exact key rfl rfl | exact h
theorem po_someA (hK : B.K = X.K) {x : Expr} (h : PE X x (tEv B Ph c)) : PO X (some x) (tPt B Ph c) := by
  refine ⟨fun pins s σ H Q I q => ?_⟩
  obtain ⟨F, r, E, d, fr, r', p, ee, ep, q⟩ := q
  rw [evalPart_some]
  refine thn ((pe_p h).run pins s σ H (fun v H' => ∃ F', EnvOk B F' H' σ r' ∧ Grow F H σ r F' H' r' ∧ Rep B.K F' v d) I ⟨F, r, E, d, fr, r', ee, fun v F' H' E' G rv => ⟨F', E', G, rv⟩⟩) fun u s1 ⟨v, H1, I1, r1, F', E', G, rv⟩ => ?_
  cases d <;> simp only [dPart] at ep <;> try (cases ep; done)
  · cases ep
    cases rv
    obtain rfl : u = Value.none := r1
    exact ⟨none, H1, I1, .none, q F' H1 E' G⟩
  · cases ep
    cases rv
    obtain ⟨t, rfl⟩ := r1
    exact ⟨_, H1, I1, .int _ t, q F' H1 E' G⟩
theorem pts_yes : PTs X [] (tTr B Ph (.cst (.bool true))) := ⟨fun pins s σ H Q I h => pts_nil.run pins s σ H Q I (by
  obtain ⟨F, r, E, d, fr, r', b, ee, et, q⟩ := h
  simp only [ev] at ee
  cases ee
  cases et
  exact q F H E Grow.refl)⟩
theorem nm_snd (hK : B.K = X.K) {m : Md} (h : Snd B Ph X c (nm m)) : Snd B Ph X c m := by
  cases m with
  | e x =>
    cases x <;> try exact h
    rename_i op vs pos
    cases vs with
    | nil => exact h
    | cons y r => cases r with
      | nil => exact pe_one h
      | cons _ _ => exact h
  | a xs => exact h
  | t x => exact nmT_snd hK h
  | w x =>
    cases x <;> try exact h
    rename_i op vs pos
    cases vs with
    | nil => exact h
    | cons y r => cases r with
      | nil => cases op with
        | And => exact pw_and1 (nmT_snd hK h)
        | Or => exact pw_or1 (nmT_snd hK h)
      | cons _ _ => exact h
  | i tg it => exact h
  | f xs =>
    cases xs with
    | nil => exact h
    | cons y r => cases r with
      | nil => exact pts_one (nmT_snd hK h)
      | cons _ _ => exact h
  | o x => cases x with
    | none => exact h
    | some x => exact po_someA hK h
  | p ks keys values => exact h
end
end TP

set_option Elab.async false
set_option linter.all false
set_option maxRecDepth 100000
/-! TP18: the look, and that it is right: expressions. -/
namespace TP
open PySem PySem.Spec PyProof.Rows L2

mutual
def sameD : D → D → Bool
  | .none, .none => true
  | .bool a, .bool b => a == b
  | .int a, .int b => decide (a = b)
  | .str a, .str b => decide (a = b)
  | .list a, .list b => sameDs a b
  | .tuple a, .tuple b => sameDs a b
  | _, _ => false
def sameDs : List D → List D → Bool
  | [], [] => true
  | a :: r, b :: t => sameD a b && sameDs r t
  | _, _ => false
end
mutual
theorem sameD_eq : ∀ {a b : D}, sameD a b = true → a = b
  | .none, b, h => by cases b <;> first | rfl | (simp [sameD] at h; done)
  | .bool a, b, h => by cases b <;> first | (simp [sameD] at h; rw [h]) | (simp [sameD] at h; done)
  | .int a, b, h => by cases b <;> first | (simp [sameD] at h; rw [h]) | (simp [sameD] at h; done)
  | .str a, b, h => by cases b <;> first | (simp [sameD] at h; rw [h]) | (simp [sameD] at h; done)
  | .list a, b, h => by
    cases b <;> first | (simp only [sameD] at h; rw [sameDs_eq h]) | (simp [sameD] at h; done)
  | .tuple a, b, h => by
    cases b <;> first | (simp only [sameD] at h; rw [sameDs_eq h]) | (simp [sameD] at h; done)
  | .dict a, b, h => by cases b <;> (simp [sameD] at h; done)
theorem sameDs_eq : ∀ {a b : List D}, sameDs a b = true → a = b
  | [], [], _ => rfl
  | [], _ :: _, h => by simp [sameDs] at h
  | _ :: _, [], h => by simp [sameDs] at h
  | a :: r, b :: t, h => by
    simp only [sameDs, Bool.and_eq_true] at h
    rw [sameD_eq h.1, sameDs_eq h.2]
end
def inG : List (Str × D) → Str → D → Bool
  | [], _, _ => false
  | (y, e) :: r, x, d => (y == x && sameD e d) || inG r x d
theorem inG_mem : ∀ {l : List (Str × D)} {x : Str} {d : D}, inG l x d = true → (x, d) ∈ l
  | (y, e) :: r, x, d, h => by
    simp only [inG, Bool.or_eq_true, Bool.and_eq_true, beq_iff_eq] at h
    rcases h with h | h
    · rw [← h.1, ← sameD_eq h.2]; exact List.mem_cons_self
    · exact List.mem_cons_of_mem _ (inG_mem h)

def gOk (g : Gb) (i : Nat) : Bool := !g.io || !(i == 0)
theorem gOk_of {X : Cx} {B : Bs} {Ph : Nat → List D → Rs} {g : Gb} {k : Nat} (C : Ctx2 X B Ph g k) {i : Nat} (h : gOk g i = true) : B.io = [] ∨ i ≠ 0 := by
  rcases C.io with z | z
  · exact .inl z
  · unfold gOk at h
    rw [z] at h
    right
    simpa using h

inductive Mg where
  | one (e : Expr)
  | many (es : List Expr)
def chkG (g : Gb) (S : SC) : CT → Mg → Bool
  | .nm i, m => match m with
    | .one (.Name n _) => S.loc i n && gOk g i
    | _ => false
  | .nil, m => match m with
    | .many [] => true
    | _ => false
  | .cons t r, m => match m with
    | .one (.Tuple (e :: es) _ _) => tgt (.cons t r) && (e :: es).all nstar && es.length == r.len && chkG g S t (.one e) && chkG g S r (.many es)
    | .many (e :: es) => nstar e && chkG g S t (.one e) && chkG g S r (.many es)
    | _ => false
def SndG (B : Bs) (X : Cx) (t : CT) : Mg → Prop
  | .one e => PG X e (gT B t)
  | .many es => PGs X es (gTs B t)
theorem chkG_ok {X : Cx} {B : Bs} {Ph : Nat → List D → Rs} {g : Gb} {k : Nat} {S : SC} (A : Sta X S) (C : Ctx2 X B Ph g k) : ∀ (t : CT) (m : Mg), chkG g S t m = true → SndG B X t m := by
  intro t
  induction t with
  | nm i =>
    intro m h
    unfold chkG at h
    split at h
    · rw [Bool.and_eq_true] at h
      obtain ⟨h1, h2, h3⟩ := A.loc h.1
      exact pg_nmT (gOk_of C h.2) C.c.nd h1 h2 h3
    · cases h
  | nil =>
    intro m h
    unfold chkG at h
    split at h
    · exact pgs_nilT
    · cases h
  | cons t r iht ihr =>
    intro m h
    unfold chkG at h
    split at h
    · rename_i e es kk pos
      simp only [Bool.and_eq_true, beq_iff_eq] at h
      obtain ⟨⟨⟨⟨h1, h2⟩, h3⟩, h4⟩, h5⟩ := h
      have h2' := h2
      rw [List.all_cons, Bool.and_eq_true] at h2'
      refine pg_tupT C.c.hK (fun i z => nomatch z) C.c.calm (pgs_consT (iht _ h4) (ihr _ h5) (asg_map h2'.1)) (n := (CT.cons t r).len) ?_ (fun d r1 r2 hb => bindT_tl (fun i z => nomatch z) hb h1) (asg_nost h2)
      rw [asg_len, List.length_cons, h3]
      rfl
    · rename_i e es
      simp only [Bool.and_eq_true] at h
      exact pgs_consT (iht _ h.1.2) (ihr _ h.2) (asg_map h.1.1)
    · cases h

def isZ : CE → Bool
  | .cst (.int i) => decide (i = 0)
  | _ => false
theorem isZ_eq {c : CE} (h : isZ c = true) : c = .cst (.int 0) := by
  cases c <;> try (simp [isZ] at h; done)
  rename_i d
  cases d <;> try (simp [isZ] at h; done)
  simp [isZ] at h
  rw [h]
def ownOf (N : List Str) (vs : List Nat) : List (Str × Nat) := vs.map fun v => (N.getD v "", v)
theorem own_map (N : List Str) (vs : List Nat) : (ownOf N vs).map (·.2) = vs := by
  unfold ownOf
  rw [List.map_map]
  exact List.map_id' vs
def cstOk : D → Const → Bool
  | .none, .none => true
  | .bool a, .bool b => a == b
  | .int a, .int b => decide (a = b)
  | .str a, .str b => decide (a = b)
  | _, _ => false
def seq8 (a b : Str) : Bool := decide (a = b)

section
variable (g : Gb)
/-- is c the code of the text m? -/
def chk : CE → SC → Md → Bool
  | .var i, S, m => match m with
    | .e (.Name n _) => S.vis i n
    | _ => false
  | .cst d, S, m => match m with
    | .e (.Constant c _ _) => cstOk d c
    | .f [] => (match d with | .bool b => b | _ => false)
    | _ => false
  | .glo x d, S, m => match m with
    | .e (.Name n _) => seq8 n x && S.gl x && !(x == ("__debug__" : Str)) && inG g.G x d
    | _ => false
  | .bin o a b, S, m => match m with
    | .e (.BinOp x op y _) => decide (op = opB o) && chk a S (nm (.e x)) && chk b S (nm (.e y))
    | _ => false
  | .neg a, S, m => match m with
    | .e (.UnaryOp .USub x _) => chk a S (nm (.e x))
    | _ => false
  | .not a, S, m => match m with
    | .e (.UnaryOp .Not x _) => chk a S (nm (.e x))
    | .t (.UnaryOp .Not x _) => chk a S (nm (.t x))
    | _ => false
  | .and a b, S, m => match m with
    | .e (.BoolOp .And (x :: y :: r) p) => chk a S (nm (.e x)) && chk b S (nm (.e (.BoolOp .And (y :: r) p)))
    | .w (.BoolOp .And (x :: y :: r) p) => chk a S (nm (.t x)) && chk b S (nm (.w (.BoolOp .And (y :: r) p)))
    | _ => false
  | .or a b, S, m => match m with
    | .e (.BoolOp .Or (x :: y :: r) p) => chk a S (nm (.e x)) && chk b S (nm (.e (.BoolOp .Or (y :: r) p)))
    | .w (.BoolOp .Or (x :: y :: r) p) => chk a S (nm (.t x)) && chk b S (nm (.w (.BoolOp .Or (y :: r) p)))
    | _ => false
  | .cmp o a b, S, m => match m with
    | .e (.Compare x [op] [y] _) => decide (op = opC o) && !behindInMarks op y && chk a S (nm (.e x)) && chk b S (nm (.e y))
    | .t (.Compare x [op] [y] _) => decide (op = opC o) && !behindInMarks op y && chk a S (nm (.e x)) && chk b S (nm (.e y))
    | _ => false
  | .chain o o' a b c, S, m => match m with
    | .e (.Compare x [p, p'] [y, z] _) => decide (p = opC o) && decide (p' = opC o') && !lastMarks [p, p'] [y, z] && chk a S (nm (.e x)) && chk b S (nm (.e y)) && chk c S (nm (.e z))
    | .t (.Compare x [p, p'] [y, z] _) => decide (p = opC o) && decide (p' = opC o') && !lastMarks [p, p'] [y, z] && chk a S (nm (.e x)) && chk b S (nm (.e y)) && chk c S (nm (.e z))
    | _ => false
  | .ite t a b, S, m => match m with
    | .e (.IfExp z x y _) => chk t S (nm (.t z)) && chk a S (nm (.e x)) && chk b S (nm (.e y))
    | _ => false
  | .tup es, S, m => match m with
    | .e (.Tuple xs _ _) => chk es S (.a xs)
    | _ => false
  | .lst es, S, m => match m with
    | .e (.List xs _) => chk es S (.a xs)
    | _ => false
  | .nil, S, m => match m with
    | .a [] => true
    | .p [] [] [] => true
    | _ => false
  | .cons a b, S, m => match m with
    | .a (x :: xs) => nstar x && chk a S (nm (.e x)) && chk b S (.a xs)
    | .p (k :: ks) (some (.Constant (.str z) _ _) :: keys) (x :: values) => seq8 z k && chk a S (nm (.e x)) && chk b S (.p ks keys values)
    | _ => false
  | .idx a b, S, m => match m with
    | .e (.Subscript x y _) => nslice y && chk a S (nm (.e x)) && chk b S (nm (.e y))
    | _ => false
  | .sli a lo hi, S, m => match m with
    | .e (.Subscript x (.Slice l h none _) _) => chk a S (nm (.e x)) && chk lo S (nm (.o l)) && chk hi S (nm (.o h))
    | _ => false
  | .none, S, m => match m with
    | .o none => true
    | _ => false
  | .rev a, S, m => match m with
    | .e (.Subscript x (.Slice none none (some (.UnaryOp .USub (.Constant (.int 1) _ _) _)) _) _) => chk a S (nm (.e x))
    | _ => false
  | .bi f es, S, m => match m with
    | .e (.Call (.Name x _) (e :: l) [] _) => seq8 x (bkOf f).2 && S.gl x && (e :: l).all nstar && chk es S (.a (e :: l))
    | _ => false
  | .isi T a, S, m => match m with
    | .e (.Call (.Name x _) [e, .Name y _] [] _) => seq8 x "isinstance" && S.gl x && seq8 y (tyS T) && S.gl y && nstar e && chk a S (nm (.e e))
    | _ => false
  | .call f es, S, m => match m with
    | .e (.Call (.Name x _) l [] _) => (match g.T[f]? with
      | some t => seq8 x t.name && !t.fd.io && S.gl x && !(x == ("__debug__" : Str)) && decide (spineLen es = some t.fd.nP) && l.all nstar && (match l with | [] => (match es with | .nil => true | _ => false) | _ => true) && chk es S (.a l)
      | none => false)
    | _ => false
  | .callM f i es, S, m => match m with
    | .e (.Call (.Name x _) (.Name n _ :: l) [] _) => (match g.T[f]? with
      | some t => seq8 x t.name && t.fd.io && S.gl x && !(x == ("__debug__" : Str)) && decide ((spineLen es).map (· + 1) = some t.fd.nP) && l.all nstar && S.vis i n && chk es S (.a l)
      | none => false)
    | _ => false
  | .callV i es, S, m => match m with
    | .e (.Call (.Name x _) (e :: l) [] _) => S.vis i x && (e :: l).all nstar && chk es S (.a (e :: l))
    | _ => false
  | .lenO i, S, m => match m with
    | .e (.Call (.Name x _) [.Name n _] [] _) => seq8 x "len" && S.gl x && S.vis i n
    | _ => false
  | .popO i e, S, m => match m with
    | .e (.Call (.Attribute (.Name n _) mm p) [x] [] pos) => seq8 mm "pop" && S.vis i n && nstar x && p.endLine == pos.line && chk e S (nm (.e x))
    | _ => false
  | .lc elt tg it ifs vs, S, m => match m with
    | .e (.ListComp ex [⟨tgx, iterx, ifx, kk⟩] scope _) => decide (kk = 0) && (!g.io || !vs.contains 0) && tg.slots.all (fun j => vs.contains j) && chk it S (.i tgx iterx) && blkC S.N S.sc scope (ownOf S.N vs) && nset iterx
        && chkG g ⟨S.N, relabelS scope S.sc, some scope⟩ tg (.one tgx) && chk ifs ⟨S.N, relabelS scope S.sc, some scope⟩ (nm (.f ifx)) && chk elt ⟨S.N, relabelS scope S.sc, some scope⟩ (nm (.e ex))
    | _ => false
  | .seq e, S, m => match m with
    | .i _ it => chk e S (nm (.e it))
    | _ => false
  | .rng a b, S, m => match m with
    | .i _ (.Call (.Name x _) [y, z] [] _) => seq8 x "range" && S.gl x && nstar y && nstar z && chk a S (nm (.e y)) && chk b S (nm (.e z))
    | .i _ (.Call (.Name x _) [z] [] _) => seq8 x "range" && S.gl x && nstar z && isZ a && chk b S (nm (.e z))
    | _ => false
  | .enum e, S, m => match m with
    | .i (.Tuple _ _ _) (.Call (.Name x _) [z] [] _) => seq8 x "enumerate" && S.gl x && nstar z && chk e S (nm (.e z))
    | _ => false
  | .zip a b, S, m => match m with
    | .i (.Tuple _ _ _) (.Call (.Name x _) [y, z] [] _) => seq8 x "zip" && S.gl x && nstar y && nstar z && chk a S (nm (.e y)) && chk b S (nm (.e z))
    | _ => false
  | .lrng a b, S, m => match m with
    | .e (.Call (.Name x _) [.Call (.Name x2 _) [y, z] [] _] [] _) => seq8 x "list" && S.gl x && seq8 x2 "range" && S.gl x2 && nstar y && nstar z && chk a S (nm (.e y)) && chk b S (nm (.e z))
    | .e (.Call (.Name x _) [.Call (.Name x2 _) [z] [] _] [] _) => seq8 x "list" && S.gl x && seq8 x2 "range" && S.gl x2 && nstar z && isZ a && chk b S (nm (.e z))
    | _ => false
  | .sset e, S, m => match m with
    | .e (.Call (.Name x _) [.Call (.Name y _) [z] [] _] [] _) => seq8 x "sorted" && S.gl x && seq8 y "set" && S.gl y && nstar z && chk e S (nm (.e z))
    | _ => false
  | .lset e, S, m => match m with
    | .e (.Call (.Name x _) [.Call (.Name y _) [z] [] _] [] _) => seq8 x "len" && S.gl x && seq8 y "set" && S.gl y && nstar z && chk e S (nm (.e z))
    | _ => false
  | .sdc elt tg it vs, S, m => match m with
    | .e (.Call (.Name x _) [.DictComp ex (.Constant (.bool true) _ _) [⟨tgx, iterx, [], kk⟩] scope _] [] _) => seq8 x "sorted" && S.gl x && decide (kk = 0) && (!g.io || !vs.contains 0) && tg.slots.all (fun j => vs.contains j) && chk it S (.i tgx iterx) && blkC S.N S.sc scope (ownOf S.N vs) && nset iterx
        && chkG g ⟨S.N, relabelS scope S.sc, some scope⟩ tg (.one tgx) && chk elt ⟨S.N, relabelS scope S.sc, some scope⟩ (nm (.e ex))
    | _ => false
  | .lsc elt tg it vs, S, m => match m with
    | .e (.Call (.Name x _) [.SetComp ex [⟨tgx, iterx, [], kk⟩] scope _] [] _) => seq8 x "len" && S.gl x && decide (kk = 0) && (!g.io || !vs.contains 0) && tg.slots.all (fun j => vs.contains j) && chk it S (.i tgx iterx) && blkC S.N S.sc scope (ownOf S.N vs) && nset iterx
        && chkG g ⟨S.N, relabelS scope S.sc, some scope⟩ tg (.one tgx) && chk elt ⟨S.N, relabelS scope S.sc, some scope⟩ (nm (.e ex))
    | _ => false
  | .dget ks vc kc ec, S, m => match m with
    | .e (.Call (.Attribute (.Dict keys values _) mm p) [xk, xe] [] pos) => seq8 mm "get" && decide ks.Nodup && !ks.isEmpty && decide (ks.length ≤ 15) && nstar xk && nstar xe && p.endLine == pos.line && chk vc S (.p ks keys values) && chk kc S (nm (.e xk)) && chk ec S (nm (.e xe))
    | _ => false
end
end TP

set_option Elab.async false
set_option linter.all false
set_option maxRecDepth 100000
/-! TP19: the look is right: expressions. -/
namespace TP
open PySem PySem.Spec PyProof.Rows L2
theorem seq8_eq {a b : Str} (h : seq8 a b = true) : a = b := of_decide_eq_true h
theorem bnot {b : Bool} (h : (!b) = true) : b = false := by cases b <;> first | rfl | cases h

section
variable {B : Bs} {Ph : Nat → List D → Rs} {g : Gb} {k : Nat}
def Good (B : Bs) (Ph : Nat → List D → Rs) (g : Gb) (k : Nat) (c : CE) : Prop := ∀ (S : SC) (m : Md) (X : Cx), Sta X S → Ctx2 X B Ph g k → chk g c S (nm m) = true → Snd B Ph X c m
def Good0 (B : Bs) (Ph : Nat → List D → Rs) (g : Gb) (k : Nat) (c : CE) : Prop := ∀ (S : SC) (m : Md) (X : Cx), Sta X S → Ctx2 X B Ph g k → chk g c S m = true → Snd B Ph X c m
theorem Good0.good {c : CE} (h : Good0 B Ph g k c) : Good B Ph g k c := fun S m X A C e => nm_snd C.c.hK (h S _ X A C e)

theorem gd_var (i : Nat) : Good0 B Ph g k (.var i) := by
  intro S m X A C h
  unfold chk at h
  split at h
  · obtain ⟨h1, h2, h3, h4⟩ := A.vis h
    exact pe_varT h1 h2 h3 h4
  · cases h
theorem gd_cst (d : D) : Good0 B Ph g k (.cst d) := by
  intro S m X A C h
  unfold chk at h
  split at h
  · rename_i c kk pos
    cases d <;> cases c <;> simp only [cstOk, Bool.false_eq_true, beq_iff_eq, decide_eq_true_eq] at h <;> try (cases h; done)
    · exact pe_constT pe_non (fun F => .non) fun r => rfl
    · subst h; exact pe_constT pe_bl (fun F => .bl _) fun r => rfl
    · subst h; exact pe_constT pe_int (fun F => .int _) fun r => rfl
    · subst h; exact pe_constT pe_str (fun F => .str _) fun r => rfl
  · cases d <;> simp only [Bool.false_eq_true] at h
    subst h
    exact pts_yes
  · cases h
theorem gd_glo (x : Str) (d : D) : Good0 B Ph g k (.glo x d) := by
  intro S m X A C h
  unfold chk at h
  split at h
  · simp only [Bool.and_eq_true] at h
    obtain ⟨⟨⟨h1, h2⟩, h3⟩, h4⟩ := h
    cases seq8_eq h1
    obtain ⟨v, u, e1, e2, e3⟩ := C.cs _ _ (inG_mem h4)
    exact pe_constT (pe_glob (A.gl h2) e1 e2 (bnot h3)) e3 fun r => rfl
  · cases h
theorem gd_bin {o : BO} {a b : CE} (ia : Good B Ph g k a) (ib : Good B Ph g k b) : Good0 B Ph g k (.bin o a b) := by
  intro S m X A C h
  unfold chk at h
  split at h
  · simp only [Bool.and_eq_true, decide_eq_true_eq] at h
    obtain ⟨⟨h1, h2⟩, h3⟩ := h
    subst h1
    exact pe_binT C.c.hK (ia S _ X A C h2) (ib S _ X A C h3)
  · cases h
theorem gd_neg {a : CE} (ia : Good B Ph g k a) : Good0 B Ph g k (.neg a) := by
  intro S m X A C h
  unfold chk at h
  split at h
  · exact pe_negT C.c.hK (ia S _ X A C h)
  · cases h
theorem gd_not {a : CE} (ia : Good B Ph g k a) : Good0 B Ph g k (.not a) := by
  intro S m X A C h
  unfold chk at h
  split at h
  · exact pe_notT' C.c.hK (ia S _ X A C h)
  · exact pt_notT (ia S (.t _) X A C h)
  · cases h
theorem gd_and {a b : CE} (ia : Good B Ph g k a) (ib : Good B Ph g k b) : Good0 B Ph g k (.and a b) := by
  intro S m X A C h
  unfold chk at h
  split at h
  · rw [Bool.and_eq_true] at h
    exact pe_andT' C.c.hK (ia S _ X A C h.1) (ib S (.e _) X A C h.2)
  · rw [Bool.and_eq_true] at h
    exact pw_andT (ia S (.t _) X A C h.1) (ib S (.w _) X A C h.2)
  · cases h
theorem gd_or {a b : CE} (ia : Good B Ph g k a) (ib : Good B Ph g k b) : Good0 B Ph g k (.or a b) := by
  intro S m X A C h
  unfold chk at h
  split at h
  · rw [Bool.and_eq_true] at h
    exact pe_orT' C.c.hK (ia S _ X A C h.1) (ib S (.e _) X A C h.2)
  · rw [Bool.and_eq_true] at h
    exact pw_orT (ia S (.t _) X A C h.1) (ib S (.w _) X A C h.2)
  · cases h
theorem gd_cmp {o : CO} {a b : CE} (ia : Good B Ph g k a) (ib : Good B Ph g k b) : Good0 B Ph g k (.cmp o a b) := by
  intro S m X A C h
  unfold chk at h
  split at h
  · simp only [Bool.and_eq_true, decide_eq_true_eq] at h
    obtain ⟨⟨⟨h1, h0⟩, h2⟩, h3⟩ := h
    subst h1
    exact pe_cmpT C.c.room C.c.hK (ia S _ X A C h2) (ib S _ X A C h3) (bnot h0)
  · simp only [Bool.and_eq_true, decide_eq_true_eq] at h
    obtain ⟨⟨⟨h1, h0⟩, h2⟩, h3⟩ := h
    subst h1
    exact pt_cmpT C.c.room C.c.hK (ia S (.e _) X A C h2) (ib S (.e _) X A C h3) (bnot h0)
  · cases h
theorem gd_chain {o o' : CO} {a b c : CE} (ia : Good B Ph g k a) (ib : Good B Ph g k b) (ic : Good B Ph g k c) : Good0 B Ph g k (.chain o o' a b c) := by
  intro S m X A C h
  unfold chk at h
  split at h
  · simp only [Bool.and_eq_true, decide_eq_true_eq] at h
    obtain ⟨⟨⟨⟨⟨h1, h1'⟩, h0⟩, h2⟩, h3⟩, h4⟩ := h
    subst h1
    subst h1'
    exact pe_chainT C.c.room C.c.hK (ia S _ X A C h2) (ib S _ X A C h3) (ic S _ X A C h4) (bnot h0)
  · simp only [Bool.and_eq_true, decide_eq_true_eq] at h
    obtain ⟨⟨⟨⟨⟨h1, h1'⟩, h0⟩, h2⟩, h3⟩, h4⟩ := h
    subst h1
    subst h1'
    exact pt_chainT C.c.room C.c.hK (ia S (.e _) X A C h2) (ib S (.e _) X A C h3) (ic S (.e _) X A C h4) (bnot h0)
  · cases h
theorem gd_ite {t a b : CE} (it : Good B Ph g k t) (ia : Good B Ph g k a) (ib : Good B Ph g k b) : Good0 B Ph g k (.ite t a b) := by
  intro S m X A C h
  unfold chk at h
  split at h
  · simp only [Bool.and_eq_true] at h
    exact pe_iteT (it S (.t _) X A C h.1.1) (ia S _ X A C h.1.2) (ib S _ X A C h.2)
  · cases h
theorem gd_tup {es : CE} (i : Good0 B Ph g k es) : Good0 B Ph g k (.tup es) := by
  intro S m X A C h
  unfold chk at h
  split at h
  · exact pe_tupT (i S _ X A C h)
  · cases h
theorem gd_lst {es : CE} (i : Good0 B Ph g k es) : Good0 B Ph g k (.lst es) := by
  intro S m X A C h
  unfold chk at h
  split at h
  · exact pe_lstT (i S _ X A C h)
  · cases h
theorem gd_nil : Good0 B Ph g k .nil := by
  intro S m X A C h
  unfold chk at h
  split at h
  · exact pa_nilT
  · exact pks_nil
  · cases h
theorem gd_cons {a b : CE} (ia : Good B Ph g k a) (ib : Good0 B Ph g k b) : Good0 B Ph g k (.cons a b) := by
  intro S m X A C h
  unfold chk at h
  split at h
  · simp only [Bool.and_eq_true] at h
    exact pa_consT (ia S (.e _) X A C h.1.2) (ib S (.a _) X A C h.2) (star_cons h.1.1)
  · simp only [Bool.and_eq_true] at h
    cases seq8_eq h.1.1
    exact pks_cons (ia S (.e _) X A C h.1.2) (ib S (.p _ _ _) X A C h.2)
  · cases h
theorem gd_idx {a b : CE} (ia : Good B Ph g k a) (ib : Good B Ph g k b) : Good0 B Ph g k (.idx a b) := by
  intro S m X A C h
  unfold chk at h
  split at h
  · simp only [Bool.and_eq_true] at h
    exact pe_idxT C.c.hK (ia S _ X A C h.1.2) (ib S _ X A C h.2) (plainIx_of h.1.1)
  · cases h
theorem gd_sli {a b c : CE} (ia : Good B Ph g k a) (ib : Good B Ph g k b) (ic : Good B Ph g k c) : Good0 B Ph g k (.sli a b c) := by
  intro S m X A C h
  unfold chk at h
  split at h
  · simp only [Bool.and_eq_true] at h
    exact pe_sliT C.c.hK (ia S _ X A C h.1.1) (ib S (.o _) X A C h.1.2) (ic S (.o _) X A C h.2)
  · cases h
theorem gd_none : Good0 B Ph g k .none := by
  intro S m X A C h
  unfold chk at h
  split at h
  · exact po_noneT
  · cases h
theorem gd_rev {a : CE} (ia : Good B Ph g k a) : Good0 B Ph g k (.rev a) := by
  intro S m X A C h
  unfold chk at h
  split at h
  · exact pe_revT C.c.hK (ia S _ X A C h)
  · cases h
theorem gd_bi {f : BI} {es : CE} (i : Good0 B Ph g k es) : Good0 B Ph g k (.bi f es) := by
  intro S m X A C h
  unfold chk at h
  split at h
  · simp only [Bool.and_eq_true] at h
    obtain ⟨⟨⟨h1, h2⟩, h3⟩, h4⟩ := h
    have h3' := h3
    rw [List.all_cons, Bool.and_eq_true] at h3'
    by_cases h0 : f = .repr
    · subst h0
      exact pe_reprT C.c (seq8_eq h1) (A.gl h2) (i S (.a _) X A C h4) (star_cons h3'.1) (back_any h3'.2)
    · exact pe_biT h0 C.c (seq8_eq h1) (A.gl h2) (i S (.a _) X A C h4) (star_cons h3'.1) (back_any h3'.2)
  · cases h
theorem gd_isi {T : TY} {a : CE} (i : Good B Ph g k a) : Good0 B Ph g k (.isi T a) := by
  intro S m X A C h
  unfold chk at h
  split at h
  · simp only [Bool.and_eq_true] at h
    obtain ⟨⟨⟨⟨⟨h1, h2⟩, h3⟩, h4⟩, h5⟩, h6⟩ := h
    cases seq8_eq h1
    exact pe_isiT C.c (seq8_eq h3) (A.gl h2) (A.gl h4) (i S (.e _) X A C h6) (star_cons h5)
  · cases h
theorem gd_call {f : Nat} {es : CE} (i : Good0 B Ph g k es) : Good0 B Ph g k (.call f es) := by
  intro S m X A C h
  unfold chk at h
  split at h
  · rename_i x p l pos
    split at h
    · rename_i t ht
      simp only [Bool.and_eq_true, decide_eq_true_eq] at h
      obtain ⟨⟨⟨⟨⟨⟨⟨h1, h2⟩, h3⟩, h4⟩, h5⟩, h6⟩, h7⟩, h8⟩ := h
      cases l with
      | nil =>
        cases es <;> first | (cases h7; done) | skip
        exact pe_call0T C.c ht (seq8_eq h1) (bnot h2) (Option.some.inj h5).symm (A.gl h3) (bnot h4)
      | cons e l =>
        have h6' := h6
        rw [List.all_cons, Bool.and_eq_true] at h6'
        exact pe_callT C.c ht (seq8_eq h1) (bnot h2) (A.gl h3) (i S (.a _) X A C h8) (bnot h4) (fun r d fr r' e => spine_len h5 e) (star_cons h6'.1) (back_any h6'.2)
    · cases h
  · cases h
theorem gd_callM {f j : Nat} {es : CE} (i : Good0 B Ph g k es) : Good0 B Ph g k (.callM f j es) := by
  intro S m X A C h
  unfold chk at h
  split at h
  · rename_i x p n p2 l pos
    split at h
    · rename_i t ht
      simp only [Bool.and_eq_true, decide_eq_true_eq] at h
      obtain ⟨⟨⟨⟨⟨⟨⟨h1, h2⟩, h3⟩, h4⟩, h5⟩, h6⟩, h7⟩, h8⟩ := h
      obtain ⟨v1, v2, v3, v4⟩ := A.vis h7
      refine pe_callMT C.c ht (seq8_eq h1) h2 (A.gl h3) v1 v2 v3 v4 (i S (.a _) X A C h8) (bnot h4) (fun r d fr r' e => ?_) (back_any h6)
      cases hs : spineLen es with
      | none => rw [hs] at h5; cases h5
      | some n =>
        rw [hs] at h5
        rw [spine_len hs e]
        exact Option.some.inj h5
    · cases h
  · cases h
theorem gd_callV {j : Nat} {es : CE} (i : Good0 B Ph g k es) : Good0 B Ph g k (.callV j es) := by
  intro S m X A C h
  unfold chk at h
  split at h
  · simp only [Bool.and_eq_true] at h
    obtain ⟨⟨h1, h2⟩, h3⟩ := h
    obtain ⟨v1, v2, v3, v4⟩ := A.vis h1
    have h2' := h2
    rw [List.all_cons, Bool.and_eq_true] at h2'
    exact pe_callVT C.c v1 v2 (i S (.a _) X A C h3) C.all C.ph v3 v4 (star_cons h2'.1) (back_any h2'.2)
  · cases h
theorem gd_lenO {j : Nat} : Good0 B Ph g k (.lenO j) := by
  intro S m X A C h
  unfold chk at h
  split at h
  · simp only [Bool.and_eq_true] at h
    obtain ⟨⟨h1, h2⟩, h3⟩ := h
    obtain ⟨v1, v2, v3, v4⟩ := A.vis h3
    exact pe_lenOT C.c (seq8_eq h1) (A.gl h2) v1 v2 v3 v4
  · cases h
theorem gd_popO {j : Nat} {e : CE} (i : Good B Ph g k e) : Good0 B Ph g k (.popO j e) := by
  intro S m X A C h
  unfold chk at h
  split at h
  · simp only [Bool.and_eq_true] at h
    obtain ⟨⟨⟨⟨h1, h2⟩, h3⟩, h4⟩, h5⟩ := h
    obtain ⟨v1, v2, v3, v4⟩ := A.vis h2
    exact pe_popT C.c (seq8_eq h1) v1 v2 v3 v4 (i S (.e _) X A C h5) (star_cons h3) h4 (few_one h3)
  · cases h
theorem io_vs {X : Cx} (C : Ctx2 X B Ph g k) {vs : List Nat} (h : (!g.io || !vs.contains 0) = true) : B.io = [] ∨ 0 ∉ vs := by
  rcases C.io with z | z
  · exact .inl z
  · rw [z] at h
    right
    simpa using h
theorem gd_lc {elt it ifs : CE} {tg : CT} {vs : List Nat} (ie : Good B Ph g k elt) (ii : Good0 B Ph g k it) (if' : Good B Ph g k ifs) : Good0 B Ph g k (.lc elt tg it ifs vs) := by
  intro S m X A C h
  unfold chk at h
  split at h
  · rename_i ex tgx iterx ifx kk scope pos
    simp only [Bool.and_eq_true, decide_eq_true_eq] at h
    obtain ⟨⟨⟨⟨⟨⟨⟨⟨h1, h2⟩, h3⟩, h4⟩, h5⟩, h6⟩, h7⟩, h8⟩, h9⟩ := h
    subst h1
    have ok : BlkOk X.N X.env.scope scope (ownOf S.N vs) := by rw [A.N, A.sc]; exact blkOk_by h5
    have hs : ∀ j ∈ tg.slots, j ∈ (ownOf S.N vs).map (·.2) := fun j hj => by
      rw [own_map]
      rw [List.all_eq_true] at h3
      simpa using h3 j hj
    have r := pe_lcT (B := B) (Ph := Ph) (elt := elt) (it := it) (ifs := ifs) (tg := tg) (pos := pos) C.c (by rw [own_map]; exact io_vs C h2) hs (ii S (.i _ _) X A C h4) ok
      (fun s H Ca cl fp => chkG_ok (A.blk s H scope cl Ca fp) (C.blk s H scope _ fp) tg (.one tgx) h7)
      (fun s H Ca cl fp => if' _ (.f ifx) _ (A.blk s H scope cl Ca fp) (C.blk s H scope _ fp) h8)
      (fun s H Ca cl fp => ie _ (.e ex) _ (A.blk s H scope cl Ca fp) (C.blk s H scope _ fp) h9)
      (fun x => folded_plain h6)
    rw [own_map] at r
    exact r
  · cases h
theorem gd_seq {e : CE} (i : Good B Ph g k e) : Good0 B Ph g k (.seq e) := by
  intro S m X A C h
  unfold chk at h
  split at h
  · exact pi_seqT C.c.hK (i S (.e _) X A C h)
  · cases h
theorem gd_rng {a b : CE} (ia : Good B Ph g k a) (ib : Good B Ph g k b) : Good0 B Ph g k (.rng a b) := by
  intro S m X A C h
  unfold chk at h
  split at h
  · simp only [Bool.and_eq_true] at h
    obtain ⟨⟨⟨⟨⟨h1, h2⟩, h3⟩, h4⟩, h5⟩, h6⟩ := h
    exact pi_rng2T C.c (seq8_eq h1) (A.gl h2) (ia S (.e _) X A C h5) (ib S (.e _) X A C h6) (by rw [star_cons h3, star_cons h4]; rfl) (by rw [star_cons h4]; rfl)
  · simp only [Bool.and_eq_true] at h
    obtain ⟨⟨⟨⟨h1, h2⟩, h3⟩, h4⟩, h5⟩ := h
    rw [isZ_eq h4]
    exact pi_rng1T C.c (seq8_eq h1) (A.gl h2) (ib S (.e _) X A C h5) (by rw [star_cons h3]; rfl)
  · cases h
theorem gd_enum {e : CE} (i : Good B Ph g k e) : Good0 B Ph g k (.enum e) := by
  intro S m X A C h
  unfold chk at h
  split at h
  · simp only [Bool.and_eq_true] at h
    obtain ⟨⟨⟨h1, h2⟩, h3⟩, h4⟩ := h
    exact pi_enumT C.c (seq8_eq h1) (A.gl h2) (i S (.e _) X A C h4) (by rw [star_cons h3]; rfl)
  · cases h
theorem gd_zip {a b : CE} (ia : Good B Ph g k a) (ib : Good B Ph g k b) : Good0 B Ph g k (.zip a b) := by
  intro S m X A C h
  unfold chk at h
  split at h
  · simp only [Bool.and_eq_true] at h
    obtain ⟨⟨⟨⟨⟨h1, h2⟩, h3⟩, h4⟩, h5⟩, h6⟩ := h
    exact pi_zipT C.c (seq8_eq h1) (A.gl h2) (ia S (.e _) X A C h5) (ib S (.e _) X A C h6) (star_cons h3) (by rw [star_cons h4]; rfl)
  · cases h
theorem gd_lrng {a b : CE} (ia : Good B Ph g k a) (ib : Good B Ph g k b) : Good0 B Ph g k (.lrng a b) := by
  intro S m X A C h
  unfold chk at h
  split at h
  · simp only [Bool.and_eq_true] at h
    obtain ⟨⟨⟨⟨⟨⟨⟨h1, h2⟩, h3⟩, h4⟩, h5⟩, h6⟩, h7⟩, h8⟩ := h
    exact pe_lrng2T C.c (seq8_eq h1) (seq8_eq h3) (A.gl h2) (A.gl h4) (ia S (.e _) X A C h7) (ib S (.e _) X A C h8) (star_cons h5) (star_cons h6)
  · simp only [Bool.and_eq_true] at h
    obtain ⟨⟨⟨⟨⟨⟨h1, h2⟩, h3⟩, h4⟩, h5⟩, h6⟩, h7⟩ := h
    rw [isZ_eq h6]
    exact pe_lrng1T C.c (seq8_eq h1) (seq8_eq h3) (A.gl h2) (A.gl h4) (ib S (.e _) X A C h7) (star_cons h5)
  · cases h
theorem gd_sset {e : CE} (i : Good B Ph g k e) : Good0 B Ph g k (.sset e) := by
  intro S m X A C h
  unfold chk at h
  split at h
  · simp only [Bool.and_eq_true] at h
    obtain ⟨⟨⟨⟨⟨h1, h2⟩, h3⟩, h4⟩, h5⟩, h6⟩ := h
    exact pe_ssetT C.c (seq8_eq h1) (seq8_eq h3) (A.gl h2) (A.gl h4) (i S (.e _) X A C h6) h5
  · cases h
theorem gd_lset {e : CE} (i : Good B Ph g k e) : Good0 B Ph g k (.lset e) := by
  intro S m X A C h
  unfold chk at h
  split at h
  · simp only [Bool.and_eq_true] at h
    obtain ⟨⟨⟨⟨⟨h1, h2⟩, h3⟩, h4⟩, h5⟩, h6⟩ := h
    exact pe_lsetT C.c (seq8_eq h1) (seq8_eq h3) (A.gl h2) (A.gl h4) (i S (.e _) X A C h6) h5
  · cases h
theorem slots_in {vs : List Nat} {N : List Str} {tg : CT} (h : (tg.slots.all fun j => vs.contains j) = true) : ∀ j ∈ tg.slots, j ∈ (ownOf N vs).map (·.2) := fun j hj => by
  rw [own_map]
  rw [List.all_eq_true] at h
  simpa using h j hj
theorem gd_sdc {elt it : CE} {tg : CT} {vs : List Nat} (ie : Good B Ph g k elt) (ii : Good0 B Ph g k it) : Good0 B Ph g k (.sdc elt tg it vs) := by
  intro S m X A C h
  unfold chk at h
  split at h
  · rename_i x p ex kk2 p3 tgx iterx kk scope p2 pos
    simp only [Bool.and_eq_true, decide_eq_true_eq] at h
    obtain ⟨⟨⟨⟨⟨⟨⟨⟨⟨n1, n2⟩, h1⟩, h2⟩, h3⟩, h4⟩, h5⟩, h6⟩, h7⟩, h9⟩ := h
    subst h1
    have ok : BlkOk X.N X.env.scope scope (ownOf S.N vs) := by rw [A.N, A.sc]; exact blkOk_by h5
    have r := pe_sdcT (B := B) (Ph := Ph) (elt := elt) (it := it) (tg := tg) (p := p) (p2 := p2) (p3 := p3) (pos := pos) (kk := kk2) C.c (seq8_eq n1) (A.gl n2) (by rw [own_map]; exact io_vs C h2) (slots_in h3) (ii S (.i _ _) X A C h4) ok
      (fun s H Ca cl fp => chkG_ok (A.blk s H scope cl Ca fp) (C.blk s H scope _ fp) tg (.one tgx) h7)
      (fun s H Ca cl fp => ie _ (.e ex) _ (A.blk s H scope cl Ca fp) (C.blk s H scope _ fp) h9)
      (fun x => folded_plain h6)
    rw [own_map] at r
    exact r
  · cases h
theorem gd_lsc {elt it : CE} {tg : CT} {vs : List Nat} (ie : Good B Ph g k elt) (ii : Good0 B Ph g k it) : Good0 B Ph g k (.lsc elt tg it vs) := by
  intro S m X A C h
  unfold chk at h
  split at h
  · rename_i x p ex tgx iterx kk scope p2 pos
    simp only [Bool.and_eq_true, decide_eq_true_eq] at h
    obtain ⟨⟨⟨⟨⟨⟨⟨⟨⟨n1, n2⟩, h1⟩, h2⟩, h3⟩, h4⟩, h5⟩, h6⟩, h7⟩, h9⟩ := h
    subst h1
    have ok : BlkOk X.N X.env.scope scope (ownOf S.N vs) := by rw [A.N, A.sc]; exact blkOk_by h5
    have r := pe_lscT (B := B) (Ph := Ph) (elt := elt) (it := it) (tg := tg) (p := p) (p2 := p2) (pos := pos) C.c (seq8_eq n1) (A.gl n2) (by rw [own_map]; exact io_vs C h2) (slots_in h3) (ii S (.i _ _) X A C h4) ok
      (fun s H Ca cl fp => chkG_ok (A.blk s H scope cl Ca fp) (C.blk s H scope _ fp) tg (.one tgx) h7)
      (fun s H Ca cl fp => ie _ (.e ex) _ (A.blk s H scope cl Ca fp) (C.blk s H scope _ fp) h9)
      (fun x => folded_plain h6)
    rw [own_map] at r
    exact r
  · cases h
theorem gd_dget {ks : List Str} {vc kc ec : CE} (iv : Good0 B Ph g k vc) (ik : Good B Ph g k kc) (ie : Good B Ph g k ec) : Good0 B Ph g k (.dget ks vc kc ec) := by
  intro S m X A C h
  unfold chk at h
  split at h
  · simp only [Bool.and_eq_true, decide_eq_true_eq] at h
    obtain ⟨⟨⟨⟨⟨⟨⟨⟨⟨h1, h2⟩, h3⟩, h4⟩, h5⟩, h6⟩, h7⟩, h8⟩, h9⟩, h10⟩ := h
    exact pe_dgetT C.c (seq8_eq h1) h2 (fun z => by subst z; cases h3) h4 (iv S (.p _ _ _) X A C h8) (ik S (.e _) X A C h9) (ie S (.e _) X A C h10) h5 h6 h7
  · cases h
theorem chk_ok (c : CE) : Good0 B Ph g k c := by
  induction c with
  | var i => exact gd_var i
  | cst d => exact gd_cst d
  | glo x d => exact gd_glo x d
  | bin o a b ia ib => exact gd_bin ia.good ib.good
  | neg a i => exact gd_neg i.good
  | not a i => exact gd_not i.good
  | and a b ia ib => exact gd_and ia.good ib.good
  | or a b ia ib => exact gd_or ia.good ib.good
  | cmp o a b ia ib => exact gd_cmp ia.good ib.good
  | chain o o' a b c ia ib ic => exact gd_chain ia.good ib.good ic.good
  | ite t a b it ia ib => exact gd_ite it.good ia.good ib.good
  | tup es i => exact gd_tup i
  | lst es i => exact gd_lst i
  | nil => exact gd_nil
  | cons a b ia ib => exact gd_cons ia.good ib
  | idx a b ia ib => exact gd_idx ia.good ib.good
  | sli a b c ia ib ic => exact gd_sli ia.good ib.good ic.good
  | none => exact gd_none
  | rev a i => exact gd_rev i.good
  | bi f es i => exact gd_bi i
  | isi T a i => exact gd_isi i.good
  | call f es i => exact gd_call i
  | callM f j es i => exact gd_callM i
  | callV j es i => exact gd_callV i
  | lenO j => exact gd_lenO
  | popO j e i => exact gd_popO i.good
  | lc elt tg it ifs vs ie ii ij => exact gd_lc ie.good ii ij.good
  | seq e i => exact gd_seq i.good
  | rng a b ia ib => exact gd_rng ia.good ib.good
  | enum e i => exact gd_enum i.good
  | zip a b ia ib => exact gd_zip ia.good ib.good
  | lrng a b ia ib => exact gd_lrng ia.good ib.good
  | sset e i => exact gd_sset i.good
  | lset e i => exact gd_lset i.good
  | sdc elt tg it vs ie ii => exact gd_sdc ie.good ii
  | lsc elt tg it vs ie ii => exact gd_lsc ie.good ii
  | dget ks vs k e iv ik ie => exact gd_dget iv ik.good ie.good
end
end TP

set_option Elab.async false
set_option linter.all false
set_option maxRecDepth 100000
/-! TP20: the look at statements, and that it is right. -/
namespace TP
open PySem PySem.Spec PyProof.Rows L2

inductive Ms where
  | s (st : Stmt)
  | b (l : List Stmt)

section
variable {B : Bs} {Ph : Nat → List D → Rs} {X : Cx} {T : List FT} {k : Nat}
theorem ps_retNT {pos : Pos} : PS X (.Return none pos) (tSt B Ph (.ret [] .none)) :=
  ps_mono ps_retN fun E' σ H ⟨F, r, E, h⟩ => by
    simp only [evS, evL, ev, lend, unlend, Out.flow, ite_self] at h
    exact h .non σ F H E (Sub.refl _) ⟨ValOk.rep0 .non, fun z => nomatch z⟩
end

def allFold (l : List Expr) : Bool := l.all (foldedForSure 8)
def allCst (l : List Expr) : Bool := l.all (constantsAlone 8)
def fnKind (sc : Scope) : Bool := (if sc.kind.isAnnotationScope then ScopeKind.function else sc.kind) == .function
theorem swap_two {x y : Str} {px py pt pt2 : Pos} {kt k2 : Nat} {a b : Expr} {env : Env} (h0 : fnKind env.scope = true) (ha : nstar a = true) (hb : nstar b = true) (hx : env.scope.names.lookup x = some .local) (hy : env.scope.names.lookup y = some .local)
    (hl : px.line == py.line) (hn : x ≠ y) (h1 : allFold [a, b] = false) (h2 : allCst [a, b] = false) :
    swappedStores [.Tuple [.Name x px, .Name y py] kt pt] (.Tuple [a, b] k2 pt2) env = pure (some [x, y]) := by
  have hl' : px.line = py.line := by simpa using hl
  have hk : env.blockKind = .function := by
    unfold Env.blockKind
    unfold fnKind at h0
    simpa using h0
  have e1 : env.kindOf x = some .local := hx
  have e2 : env.kindOf y = some .local := hy
  unfold allFold at h1
  unfold allCst at h2
  unfold swappedStores
  simp only [hk, h1, h2]
  have nb : (x == y) = false := by simpa using hn
  have nb2 : (y == x) = false := by simpa using fun z : y = x => hn z.symm
  rw [if_neg (by simp), if_neg (fun z => by
    obtain ⟨e, he, hm⟩ := List.any_eq_true.mp z
    have hs : nstar e = true := by
      rcases List.mem_cons.mp he with q | q
      · rw [q]; exact ha
      · rw [List.mem_singleton.mp q]; exact hb
    cases e <;> first | (cases hm; done) | cases hs)]
  simp [e1, e2, hl', Expr.pos, List.eraseDups_cons, nb, nb2, List.filter]
def nonLoc (sc : Scope) : Expr → Bool
  | .Name x _ => !decide (sc.names.lookup x = some .local)
  | _ => true
theorem fm_len {α β : Type} (f : α → Option β) : ∀ {l : List α}, (∃ a ∈ l, f a = none) → (l.filterMap f).length < l.length
  | [], ⟨_, h, _⟩ => by cases h
  | a :: r, h => by
    cases e : f a with
    | none =>
      rw [List.filterMap_cons_none e, List.length_cons]
      exact Nat.lt_succ_of_le (List.length_filterMap_le f r)
    | some b =>
      rw [List.filterMap_cons_some e, List.length_cons, List.length_cons]
      refine Nat.succ_lt_succ (fm_len f ?_)
      obtain ⟨c, hc, ec⟩ := h
      rcases List.mem_cons.mp hc with q | q
      · subst q; rw [e] at ec; cases ec
      · exact ⟨c, q, ec⟩
theorem swap_cell {ts vs : List Expr} {k k2 : Nat} {p p2 : Pos} {env : Env} (h : ts.any (nonLoc env.scope) = true) : swappedStores [.Tuple ts k p] (.Tuple vs k2 p2) env = pure none := by
  unfold swappedStores
  dsimp only
  split
  · rfl
  · split
    · rfl
    · rw [if_pos]
      rw [Bool.or_eq_true]
      left
      rw [bne_iff_ne]
      refine Nat.ne_of_lt (fm_len _ ?_)
      obtain ⟨a, ha, hn⟩ := List.any_eq_true.mp h
      refine ⟨a, ha, ?_⟩
      cases a <;> first | rfl | skip
      rename_i x px
      simp only [nonLoc, Bool.not_eq_true', decide_eq_false_iff_not] at hn
      show (if _ then _ else _) = _
      rw [if_neg]
      rw [Bool.and_eq_true]
      intro z
      have z1 := z.1
      rw [beq_iff_eq] at z1
      exact hn z1

section
variable (g : Gb)
/-- is c the code of the statement, the block? -/
def chkS : CS → SC → Ms → Bool
  | .skip, S, m => match m with
    | .s (.Pass _) => true
    | .b [] => true
    | _ => false
  | .seq a b, S, m => match m with
    | .b (st :: r) => chkS a S (.s st) && chkS b S (.b r)
    | _ => false
  | .asg i ld e, S, m => match m with
    | .s (.Assign [.Name x p] ex pos) =>
      (match e, ex with
        | .lc elt tg it ifs vs, .ListComp lx [⟨tgx, iterx, ifx, kk⟩] scope pp =>
          if swLc S.sc scope x p.line pp.line then
            gOk g i && decide (S.N[i]? = some x) && decide (kk = 0) && (!g.io || !vs.contains 0) && tg.slots.all (fun j => vs.contains j) && chk g it S (.i tgx iterx) && blkC S.N S.sc scope (ownOf S.N vs) && nset iterx
              && chkG g ⟨S.N, relabelS scope S.sc, some scope⟩ tg (.one tgx) && chk g ifs ⟨S.N, relabelS scope S.sc, some scope⟩ (nm (.f ifx)) && chk g elt ⟨S.N, relabelS scope S.sc, some scope⟩ (nm (.e lx))
          else S.loc i x && gOk g i && chk g e S (nm (.e ex))
        | _, _ => S.loc i x && gOk g i && ncomp ex && chk g e S (nm (.e ex)))
    | _ => false
  | .unp t ld e, S, m => match m with
    | .s (.Assign [.Tuple es kk p] ex _) => (match t with | .nm _ => false | _ => true) && tgt t && es.all nstar && es.length == t.len && chkG g S t (.many es) && ncomp ex && (ntup ex || es.any (nonLoc S.sc)) && chk g e S (nm (.e ex))
    | _ => false
  | .star t n ld e, S, m => match m with
    | .s (.Assign [.Tuple es kk p] ex _) => starLast es && decide (es.length = n + 1) && (unstar es).all nstar && chkG g S t (.many (unstar es)) && ncomp ex && ntup ex && chk g e S (nm (.e ex))
    | _ => false
  | .par i j ld e e', S, m => match m with
    | .s (.Assign [.Tuple [.Name x px, .Name y py] _ _] (.Tuple [a, b] _ _) _) => gOk g i && gOk g j && !(i == j) && decide (S.N[i]? = some x) && decide (S.N[j]? = some y) && decide (S.sc.names.lookup x = some .local) && decide (S.sc.names.lookup y = some .local)
        && fnKind S.sc && nstar a && nstar b && px.line == py.line && !decide (x = y) && !allFold [a, b] && !allCst [a, b] && chk g e S (nm (.e a)) && chk g e' S (nm (.e b))
    | _ => false
  | .sto i ld k e, S, m => match m with
    | .s (.Assign [.Subscript (.Name x _) ek _] ex _) => S.vis i x && nslice ek && ncomp ex && chk g k S (nm (.e ek)) && chk g e S (nm (.e ex))
    | _ => false
  | .mut u i ld e, S, m => match m with
    | .s (.Expr (.Call (.Attribute (.Name x _) mm p) [ex] [] pos) _) => (match u, e with
      | .append, .cons ce .nil => seq8 mm "append" && S.vis i x && !ld.contains i && nstar ex && p.endLine == pos.line && chk g ce S (nm (.e ex))
      | _, _ => false)
    | _ => false
  | .exp ld e, S, m => match m with
    | .s (.Expr ex _) => ncomp ex && chk g e S (nm (.e ex))
    | _ => false
  | .ifs ld t a b, S, m => match m with
    | .s (.If ex sa sb _) => chk g t S (nm (.t ex)) && chkS a S (.b sa) && chkS b S (.b sb)
    | _ => false
  | .for_ t ld lb it body, S, m => match m with
    | .s (.For tg iter sb [] _) => !lb && chk g it S (.i tg iter) && chkG g S t (.one tg) && chkS body S (.b sb) && nset iter
    | _ => false
  | .whil n ld t body, S, m => match m with
    | .s (.While ex sb [] _) => chk g t S (nm (.t ex)) && chkS body S (.b sb)
    | _ => false
  | .ret ld e, S, m => match m with
    | .s (.Return (some ex) _) => chk g e S (nm (.e ex))
    | .s (.Return none _) => (match ld, e with | [], .none => true | _, _ => false)
    | _ => false
  | .retO i, S, m => match m with
    | .s (.Return (some (.Name x _)) _) => gOk g i && S.vis i x
    | _ => false
  | .brk, S, m => match m with
    | .s (.Break _) => true
    | _ => false
  | .cnt, S, m => match m with
    | .s (.Continue _) => true
    | _ => false
  | .fsel tx tab i ld e, S, m => match m with
    | .s (.Assign [.Name x _] (.Subscript (.Name y _) ex _) _) => seq8 y tx && decide ((tx, tab) ∈ g.M) && S.gl tx && gOk g i && S.loc i x && !(tx == ("__debug__" : Str)) && nslice ex && chk g e S (nm (.e ex))
    | _ => false
  | .never, S, m => match m with
    | .s _ => true
    | _ => false
end
def SndS (B : Bs) (Ph : Nat → List D → Rs) (X : Cx) (c : CS) : Ms → Prop
  | .s st => PS X st (tSt B Ph c)
  | .b l => PSs X l (tSt B Ph c)
section
variable {B : Bs} {Ph : Nat → List D → Rs} {g : Gb} {k : Nat}
theorem chkE_ok {c : CE} {S : SC} {X : Cx} (A : Sta X S) (C : Ctx2 X B Ph g k) {m : Md} (h : chk g c S (nm m) = true) : Snd B Ph X c m := (chk_ok c).good S m X A C h
theorem chkS_ok (c : CS) : ∀ (S : SC) (m : Ms) (X : Cx), Sta X S → Ctx2 X B Ph g k → chkS g c S m = true → SndS B Ph X c m := by
  induction c with
  | skip =>
    intro S m X A C h
    unfold chkS at h
    split at h
    · exact ps_skipT
    · exact pss_nilT
    · cases h
  | seq a b ia ib =>
    intro S m X A C h
    unfold chkS at h
    split at h
    · rw [Bool.and_eq_true] at h
      exact pss_consT (ia S (.s _) X A C h.1) (ib S (.b _) X A C h.2)
    · cases h
  | asg i ld e =>
    intro S m X A C h
    unfold chkS at h
    split at h
    · rename_i x p ex pos
      have plain : S.loc i x = true → gOk g i = true → swapsWith ex (some (.Name x p)) pos.line X.env = pure false → chk g e S (nm (.e ex)) = true → SndS B Ph X (.asg i ld e) (.s (.Assign [.Name x p] ex pos)) := fun h1 h2 h3 h4 => by
        obtain ⟨l1, l2, l3⟩ := A.loc h1
        exact ps_asgT (gOk_of C h2) (chkE_ok A C (m := .e ex) h4) C.c.nd l1 l2 l3 h3
      split at h
      · rename_i elt tg it ifs vs lx tgx iterx ifx kk scope pp
        split at h
        · rename_i hsw
          simp only [Bool.and_eq_true, decide_eq_true_eq] at h
          obtain ⟨⟨⟨⟨⟨⟨⟨⟨⟨⟨a1, a2⟩, h1⟩, h2⟩, h3⟩, h4⟩, h5⟩, h6⟩, h7⟩, h8⟩, h9⟩ := h
          subst h1
          have ok : BlkOk X.N X.env.scope scope (ownOf S.N vs) := by rw [A.N, A.sc]; exact blkOk_by h5
          have hs : ∀ j ∈ tg.slots, j ∈ (ownOf S.N vs).map (·.2) := fun j hj => by
            rw [own_map]
            rw [List.all_eq_true] at h3
            simpa using h3 j hj
          have hloc : X.env.scope.names.lookup x = some .local := by
            rw [A.sc]
            unfold swLc at hsw
            simp only [Bool.and_eq_true, beq_iff_eq] at hsw
            exact hsw.1.1.2
          have r := ps_asgLcT (B := B) (Ph := Ph) (ld := ld) (elt := elt) (it := it) (ifs := ifs) (tg := tg) (pos := pp) (spos := pos) (py := p) C.c (gOk_of C a1) (by rw [own_map]; exact io_vs C h2) hs (by rw [A.N]; exact a2) hloc (by rw [sw_lc, A.sc, hsw]) ((chk_ok it) S (.i _ _) X A C h4) ok
            (fun s H Ca cl fp => chkG_ok (A.blk s H scope cl Ca fp) (C.blk s H scope _ fp) tg (.one tgx) h7)
            (fun s H Ca cl fp => (chk_ok ifs).good _ (.f ifx) _ (A.blk s H scope cl Ca fp) (C.blk s H scope _ fp) h8)
            (fun s H Ca cl fp => (chk_ok elt).good _ (.e lx) _ (A.blk s H scope cl Ca fp) (C.blk s H scope _ fp) h9)
            (fun x => folded_plain h6)
          rw [own_map] at r
          exact r
        · rename_i hsw
          simp only [Bool.and_eq_true] at h
          refine plain h.1.1 h.1.2 ?_ h.2
          rw [sw_lc, A.sc]
          rw [Bool.not_eq_true] at hsw
          rw [hsw]
      · simp only [Bool.and_eq_true] at h
        exact plain h.1.1.1 h.1.1.2 (sw_plain h.1.2) h.2
    · cases h
  | unp t ld e =>
    intro S m X A C h
    unfold chkS at h
    split at h
    · rename_i es kk p ex pos
      simp only [Bool.and_eq_true, Bool.or_eq_true, beq_iff_eq] at h
      obtain ⟨⟨⟨⟨⟨⟨⟨h1, h2⟩, h3⟩, h4⟩, h5⟩, h6⟩, h7⟩, h8⟩ := h
      have ht : ∀ i, t ≠ .nm i := fun i z => by subst z; cases h1
      refine ps_unpT (chkE_ok A C (m := .e ex) h8) (pg_U C.c.hK C.c.calm (chkG_ok A C t (.many es) h5) (n := t.len) (by rw [asg_len, h4]) (fun d r r' hb => bindT_tl ht hb h2) (asg_nost h3)) (sws_plain h6) ?_ rfl
      rcases h7 with z | z
      · exact noswap z
      · cases ex <;> first | exact noswap rfl | exact swap_cell (by rw [A.sc]; exact z)
    · cases h
  | star t n ld e =>
    intro S m X A C h
    unfold chkS at h
    split at h
    · rename_i es kk p ex pos
      simp only [Bool.and_eq_true, decide_eq_true_eq] at h
      obtain ⟨⟨⟨⟨⟨⟨h1, h2⟩, h3⟩, h4⟩, h5⟩, h6⟩, h7⟩ := h
      refine ps_starT C.c (chkE_ok A C (m := .e ex) h7) (chkG_ok A C t (.many (unstar es)) h4) (unstar_map h1 h3) (by rw [asg_len, h2]) ?_ (sws_plain h5) (noswap h6) rfl
      rw [star_idx h1, h2]
      rfl
    · cases h
  | par i j ld e e' =>
    intro S m X A C h
    unfold chkS at h
    split at h
    · simp only [Bool.and_eq_true, decide_eq_true_eq, Bool.not_eq_true', decide_eq_false_iff_not, beq_iff_eq, beq_eq_false_iff_ne] at h
      obtain ⟨⟨⟨⟨⟨⟨⟨⟨⟨⟨⟨⟨⟨⟨⟨h1, h2⟩, h3⟩, h4⟩, h5⟩, h6⟩, h7⟩, h8⟩, h9⟩, h10⟩, h11⟩, h12⟩, h13⟩, h14⟩, h15⟩, h16⟩ := h
      refine ps_parT C.c ?_ (by rw [A.N]; exact h4) (by rw [A.N]; exact h5) h3 (by rw [A.sc]; exact h6) (by rw [A.sc]; exact h7) (pa_consT (chkE_ok A C (m := .e _) h15) (pa_consT (chkE_ok A C (m := .e _) h16) pa_nilT (star_cons h10)) (star_cons h9))
        (swap_two (by rw [A.sc]; exact h8) h9 h10 (by rw [A.sc]; exact h6) (by rw [A.sc]; exact h7) (by rw [h11]; exact beq_self_eq_true _) h12 h13 h14) (sws_plain rfl)
      rcases gOk_of C h1 with z | z
      · exact .inl z
      · rcases gOk_of C h2 with w | w
        · exact .inl w
        · exact .inr ⟨z, w⟩
    · cases h
  | sto i ld ck e =>
    intro S m X A C h
    unfold chkS at h
    split at h
    · simp only [Bool.and_eq_true] at h
      obtain ⟨⟨⟨⟨h1, h2⟩, h3⟩, h4⟩, h5⟩ := h
      obtain ⟨v1, v2, v3, v4⟩ := A.vis h1
      exact ps_stoT v1 v2 v3 v4 (chkE_ok A C (m := .e _) h4) (chkE_ok A C (m := .e _) h5) (fun l hh s q z => by subst z; cases h2) (sws_plain h3) noswap_sub
    · cases h
  | «mut» u i ld e =>
    intro S m X A C h
    unfold chkS at h
    split at h
    · split at h
      · simp only [Bool.and_eq_true, Bool.not_eq_true'] at h
        obtain ⟨⟨⟨⟨⟨h1, h2⟩, h3⟩, h4⟩, h5⟩, h6⟩ := h
        obtain ⟨v1, v2, v3, v4⟩ := A.vis h2
        exact ps_appendT (seq8_eq h1) v1 v2 v3 v4 (by simpa using h3) (pa_consT (chkE_ok A C (m := .e _) h6) pa_nilT (star_cons h4)) (star_cons h4) h5 (few_one h4)
      · cases h
    · cases h
  | exp ld e =>
    intro S m X A C h
    unfold chkS at h
    split at h
    · rw [Bool.and_eq_true] at h
      exact ps_expT (chkE_ok A C (m := .e _) h.2) (sw_plain h.1)
    · cases h
  | ifs ld t a b ia ib =>
    intro S m X A C h
    unfold chkS at h
    split at h
    · simp only [Bool.and_eq_true] at h
      exact ps_ifT (pt_L (chkE_ok A C (m := .t _) h.1.1)) (ia S (.b _) X A C h.1.2) (ib S (.b _) X A C h.2)
    · cases h
  | for_ t ld lb it body ib =>
    intro S m X A C h
    unfold chkS at h
    split at h
    · simp only [Bool.and_eq_true] at h
      obtain ⟨⟨⟨⟨h0, h1⟩, h2⟩, h3⟩, h4⟩ := h
      cases bnot h0
      exact ps_forT C.c ((chk_ok it) S (.i _ _) X A C h1) (chkG_ok A C t (.one _) h2) (ib S (.b _) X A C h3) (fun x => folded_plain h4)
    · cases h
  | whil n ld t body ib =>
    intro S m X A C h
    unfold chkS at h
    split at h
    · rw [Bool.and_eq_true] at h
      exact ps_whileT C.c (pt_L (chkE_ok A C (m := .t _) h.1)) (ib S (.b _) X A C h.2)
    · cases h
  | ret ld e =>
    intro S m X A C h
    unfold chkS at h
    split at h
    · exact ps_retT (chkE_ok A C (m := .e _) h)
    · split at h
      · exact ps_retNT
      · cases h
    · cases h
  | retO i =>
    intro S m X A C h
    unfold chkS at h
    split at h
    · rw [Bool.and_eq_true] at h
      obtain ⟨v1, v2, v3, v4⟩ := A.vis h.2
      exact ps_retOT (gOk_of C h.1) v1 v2 v3 v4
    · cases h
  | brk =>
    intro S m X A C h
    unfold chkS at h
    split at h
    · exact ps_brkT
    · cases h
  | cnt =>
    intro S m X A C h
    unfold chkS at h
    split at h
    · exact ps_cntT
    · cases h
  | fsel tx tab i ld e =>
    intro S m X A C h
    unfold chkS at h
    split at h
    · simp only [Bool.and_eq_true, decide_eq_true_eq] at h
      obtain ⟨⟨⟨⟨⟨⟨⟨h1, h2⟩, h3⟩, h4⟩, h5⟩, h6⟩, h7⟩, h8⟩ := h
      cases seq8_eq h1
      obtain ⟨l1, l2, l3⟩ := A.loc h5
      exact ps_fselT C.c (C.tb _ _ h2) (A.gl h3) (gOk_of C h4) (chkE_ok A C (m := .e _) h8) l1 l2 l3 (bnot h6) (plainIx_of h7) (sw_plain rfl)
    · cases h
  | never =>
    intro S m X A C h
    unfold chkS at h
    split at h
    · exact ps_neverT
    · cases h
end
end TP

set_option Elab.async false
set_option linter.all false
set_option maxRecDepth 100000
/-! TP21: the tower: each def keeps the promise that its code tells. -/
namespace TP
open PySem PySem.Spec PyProof.Rows L2

structure DT where
  name : Str
  N : List Str
  ps : List Str
  st : Stmt
  fd : FD
def DT.ft (d : DT) : FT := ⟨d.name, d.fd⟩
def scOkB (N ps : List Str) (sc : Scope) : Bool :=
  decide (sc.kind = .function) && !sc.isCoroutine && !sc.isGenerator && decide N.Nodup && decide (N.take ps.length = ps) && (ps.all fun x => decide (sc.names.lookup x = some .local) || decide (sc.names.lookup x = some .cell)) && (sc.names.all fun y => !decide (y.2 = .free))
theorem scOk_of {N ps : List Str} {sc : Scope} (h : scOkB N ps sc = true) : FnScope N ps sc := by
  unfold scOkB at h
  simp only [Bool.and_eq_true, decide_eq_true_eq, Bool.not_eq_true', List.all_eq_true, Bool.or_eq_true, decide_eq_false_iff_not] at h
  obtain ⟨⟨⟨⟨⟨⟨h1, h2⟩, h3⟩, h4⟩, h5⟩, h6⟩, h7⟩ := h
  exact ⟨h1, h2, h3, h4, h5, h6, h7⟩
def dtOk (T : List FT) (G : List (Str × D)) (M : List (Str × List (Str × Nat))) (d : DT) : Bool :=
  scOkB d.N d.ps (defScope d.st) && decide (d.fd.nP = d.ps.length) && decide (d.fd.nS = d.N.length) && (!d.fd.io || !(d.fd.nP == 0)) && chkS ⟨T, G, M, d.fd.io⟩ d.fd.body ⟨d.N, defScope d.st, none⟩ (.b (defBody d.st))

theorem start_get {N : List Str} {vs : List V} {i : Nat} {v : V} (h : vs[i]? = some v) : (L2.start N vs)[i]? = some (some v) := by
  unfold L2.start
  have hi := (List.getElem?_eq_some_iff.mp h).1
  rw [List.getElem?_append_left (by rw [List.length_map]; exact hi), List.getElem?_map, h]
  rfl
theorem start_len {N : List Str} {vs : List V} (h : vs.length ≤ N.length) : (L2.start N vs).length = N.length := by
  unfold L2.start
  rw [List.length_append, List.length_map, List.length_replicate]
  omega
def startL (f : FD) (ds : List D) : Ev :=
  match f.io, ds with
    | true, d :: r => some (.o d) :: r.map fun x => some (.p x)
    | _, l => l.map fun x => some (.p x)
theorem start_eq (f : FD) (ds : List D) : start f ds = startL f ds ++ List.replicate (f.nS - f.nP) none := rfl
theorem startL_len (f : FD) (ds : List D) : (startL f ds).length = ds.length := by
  unfold startL
  split <;> simp
theorem startL_out {f : FD} {ds : List D} {i : Nat} {s : Sl} (h : (start f ds)[i]? = some (some s)) : (startL f ds)[i]? = some (some s) := by
  rw [start_eq] at h
  by_cases hi : i < (startL f ds).length
  · rwa [List.getElem?_append_left hi] at h
  · rw [List.getElem?_append_right (by omega), List.getElem?_replicate] at h
    split at h <;> cases h
theorem startL_f {ds : List D} {f : FD} {i k : Nat} : (startL f ds)[i]? ≠ some (some (Sl.f k)) := by
  intro h
  unfold startL at h
  split at h
  · cases i with
    | zero => cases h
    | succ i =>
      rw [List.getElem?_cons_succ, List.getElem?_map] at h
      rename_i rr _
      cases e : rr[i]? with
      | none => rw [e] at h; cases h
      | some d => rw [e] at h; cases h
  · rename_i l _ _ hne
    rw [List.getElem?_map] at h
    cases e : l[i]? with
    | none => rw [e] at h; cases h
    | some d => rw [e] at h; cases h
theorem startL_p {ds : List D} {f : FD} {i : Nat} {d : D} (h : (startL f ds)[i]? = some (some (.p d))) : ds[i]? = some d ∧ (f.io = true → i ≠ 0) := by
  unfold startL at h
  split at h
  · rename_i d0 r hio
    cases i with
    | zero => cases h
    | succ i =>
      rw [List.getElem?_cons_succ, List.getElem?_map] at h
      cases e : r[i]? with
      | none => rw [e] at h; cases h
      | some d' => rw [e] at h; cases h; exact ⟨by rw [List.getElem?_cons_succ]; exact e, fun _ z => nomatch z⟩
  · rename_i l _ _ hne
    rw [List.getElem?_map] at h
    cases e : l[i]? with
    | none => rw [e] at h; cases h
    | some d' =>
      rw [e] at h; cases h
      refine ⟨rfl, fun hio z => ?_⟩
      subst z
      cases l with
      | nil => cases e
      | cons a r => exact hne a r hio rfl
theorem startL_o {ds : List D} {f : FD} {i : Nat} {d : D} (h : (startL f ds)[i]? = some (some (.o d))) : f.io = true ∧ i = 0 ∧ ds[0]? = some d := by
  unfold startL at h
  split at h
  · rename_i d0 r hio
    cases i with
    | zero => cases h; exact ⟨hio, rfl, rfl⟩
    | succ i =>
      rw [List.getElem?_cons_succ, List.getElem?_map] at h
      cases e : r[i]? with
      | none => rw [e] at h; cases h
      | some d' => rw [e] at h; cases h
  · rename_i l _ _ hne
    rw [List.getElem?_map] at h
    cases e : l[i]? with
    | none => rw [e] at h; cases h
    | some d' => rw [e] at h; cases h

theorem runF_ok {Ph : Nat → List D → Rs} {f : FD} {ds : List D} {d : D} {fr : Bool} {io : Option D} (h : runF Ph f ds = .ok d fr io) :
    ds.length = f.nP ∧ ∃ r, (evS Ph f.body (start f ds) = .ret d fr r ∨ (evS Ph f.body (start f ds) = .nx r ∧ d = .none ∧ fr = false)) ∧ doneR f.io d fr r = .ok d fr io := by
  unfold runF at h
  split at h
  · rename_i hl
    refine ⟨hl, ?_⟩
    split at h
    · rename_i d' fr' r e
      have : d' = d ∧ fr' = fr := by
        unfold doneR at h
        split at h
        · split at h
          · cases h; exact ⟨rfl, rfl⟩
          · cases h
        · cases h; exact ⟨rfl, rfl⟩
      obtain ⟨rfl, rfl⟩ := this
      exact ⟨r, .inl e, h⟩
    · rename_i r e
      have : PyData.none = d ∧ false = fr := by
        unfold doneR at h
        split at h
        · split at h
          · cases h; exact ⟨rfl, rfl⟩
          · cases h
        · cases h; exact ⟨rfl, rfl⟩
      obtain ⟨rfl, rfl⟩ := this
      exact ⟨r, .inr ⟨e, rfl, rfl⟩, h⟩
    · split at h
      · split at h <;> cases h
      · cases h
    · cases h
  · cases h
theorem phi_len {T : List FD} {n f : Nat} {ds : List D} {d : D} {fr : Bool} (h : Phi T n f ds = .ok d fr none) {t : FD} (ht : T[f]? = some t) : ds.length = t.nP ∧ t.io = false := by
  cases n with
  | zero => cases h
  | succ n =>
    unfold Phi at h
    rw [ht] at h
    obtain ⟨hl, r, _, hd⟩ := runF_ok h
    refine ⟨hl, ?_⟩
    cases e : t.io with
    | false => rfl
    | true =>
      unfold doneR at hd
      rw [e, if_pos rfl] at hd
      split at hd <;> cases hd

section
variable {P : Program} {w : World} {K : PySem.W.Frag} {mg : Str → Option Value} {base : Heap}
structure Facts (w : World) (K : PySem.W.Frag) (mg : Str → Option Value) (L : List DT) (G : List (Str × D)) (M : List (Str × List (Str × Nat))) (A : Nat → Addr) (Fd : Nat → FuncData) : Prop where
  fn : ∀ f d, L[f]? = some d → FunD K d.name d.name (defArgs d.st) (defBody d.st) (defScope d.st) [] [] (A f) (Fd f)
  at_ : ∀ f d, L[f]? = some d → mg d.name = some (.ref (A f))
  bd : ∀ f d, L[f]? = some d → Binds K (Fd f) d.ps []
  bn : ∀ x : Str, x ∈ (["len", "max", "min", "sum", "all", "any", "list", "tuple", "sorted", "int", "abs", "isinstance", "range", "enumerate", "zip", "str", "bool", "dict", "set", "repr"] : List Str) → mg x = none
  cs : ∀ x d, (x, d) ∈ G → ∃ v u, mg x = some u ∧ RelV v u ∧ ∀ F, Rep K F v d
  tb : ∀ x t, (x, t) ∈ M → ∃ p, mg x = some (.ref p) ∧ ∀ z f, t.lookup z = some f → (∃ d, L[f]? = some d) ∧ KDct K w p z (.ref (A f))

theorem tower {L : List DT} {G : List (Str × D)} {M : List (Str × List (Str × Nat))} {A : Nat → Addr} {Fd : Nat → FuncData} (hf : Facts w K mg L G M A Fd) (ok : (L.all (dtOk (L.map DT.ft) G M)) = true) :
    ∀ n f d, L[f]? = some d → FnG P w K mg base CX0 n (A f) (Fd f) d.ps (spD K (Phi (L.map DT.fd) n) f d.fd.nP d.fd.io) := by
  intro n
  induction n with
  | zero =>
    intro f d hd
    have no : ∀ vs H Q E, ¬ spD K (Phi (L.map DT.fd) 0) f d.fd.nP d.fd.io vs H Q E := fun vs H Q E h => by
      unfold spD at h
      split at h
      · obtain ⟨_, _, _, _, _, _, _, _, _, _, _, _, _, _, _, _, h, _⟩ := h
        cases h
      · obtain ⟨_, _, _, _, _, _, _, h, _⟩ := h
        cases h
    exact ⟨fun vs H Q E h => (no _ _ _ _ h).elim, fun A outer s H args us vs Q E _ _ _ _ _ h => (no _ _ _ _ h).elim⟩
  | succ n ih =>
    intro f d hd
    have hok := List.all_eq_true.mp ok d (List.mem_of_getElem? hd)
    unfold dtOk at hok
    simp only [Bool.and_eq_true, decide_eq_true_eq, Bool.or_eq_true, Bool.not_eq_true', beq_eq_false_iff_ne] at hok
    obtain ⟨⟨⟨⟨k1, k2⟩, k3⟩, k4⟩, k5⟩ := hok
    have hN := scOk_of k1
    have hTf : (L.map DT.fd)[f]? = some d.fd := by rw [List.getElem?_map, hd]; rfl
    have hPhi : ∀ ds, Phi (L.map DT.fd) (n + 1) f ds = runF (Phi (L.map DT.fd) n) d.fd ds := fun ds => by
      show (match (L.map DT.fd)[f]? with | some fd => runF (Phi (L.map DT.fd) n) fd ds | none => .stuck) = _
      rw [hTf]
    have sta : ∀ (cdv : Value) (A' : Around) (outer : List Env) (s : Shared) (H : Hp) (E : XK), Sta (cxOf CX0 P w K mg base d.N d.name (defScope d.st) (A f) cdv A' outer s H E).nox ⟨d.N, defScope d.st, none⟩ := fun _ _ _ _ _ _ => ⟨rfl, rfl, fun _ => rfl⟩
    have ctx : ∀ (cdv : Value) (A' : Around) (outer : List Env) (s : Shared) (H : Hp) (E : XK) (F : Hp) (io : List Addr), (io = [] ∨ d.fd.io = true) → A'.guards = some [] → Room n (A'.deeper (envOfC d.name (defScope d.st) s.heap.objs.size (A f) cdv)) →
        Ctx2 (cxOf CX0 P w K mg base d.N d.name (defScope d.st) (A f) cdv A' outer s H E).nox ⟨K, fun f => (L[f]?).map fun _ => A f, F, H, io⟩ (Phi (L.map DT.fd) n) ⟨L.map DT.ft, G, M, d.fd.io⟩ n := fun cdv A' outer s H E F io hio hgu hr => by
      refine ⟨⟨rfl, rfl, hN.nd, hr, hgu, rfl, hf.bn, fun f' t ht => ?_⟩, hf.cs, fun x t hx => ?_, hio, fun f' hf' => ?_, fun f' t ds dd fr ht hp => ?_⟩
      · cases e : L[f']? with
        | none => rw [List.getElem?_map, e] at ht; cases ht
        | some d' =>
          rw [List.getElem?_map, e] at ht
          cases ht
          exact ⟨A f', Fd f', d'.ps, hf.at_ f' d' e, by show (L[f']?).map _ = _; rw [e]; rfl, (hf.fn f' d' e).kp, hf.bd f' d' e, ih f' d' e⟩
      · obtain ⟨p, h1, h3⟩ := hf.tb x t hx
        refine ⟨p, h1, fun z f' hz => ?_⟩
        obtain ⟨⟨d', hd'⟩, h4⟩ := h3 z f' hz
        exact ⟨A f', by show (L[f']?).map _ = _; rw [hd']; rfl, h4⟩
      · cases e : L[f']? with
        | none => exact absurd (show ((L[f']?).map fun _ => A f') = none by rw [e]; rfl) hf'
        | some d' => exact ⟨d'.ft, by rw [List.getElem?_map, e]; rfl⟩
      · cases e : L[f']? with
        | none => rw [List.getElem?_map, e] at ht; cases ht
        | some d' =>
          rw [List.getElem?_map, e] at ht
          cases ht
          exact phi_len hp (t := d'.fd) (by rw [List.getElem?_map, e]; rfl)
    refine okG (hf.fn f d hd) hN (fun vs H Q E h => ?_) (fun cdv A' outer s H vs Q E hgu hr h => ?_)
    · unfold spD at h
      split at h
      · obtain ⟨F, a, x, d0, vr, dr, _, _, _, rfl, _, _, _, _, hr, hl, _⟩ := h
        rw [List.length_cons, hr.length, hl, k2]
      · obtain ⟨F, ds, _, _, _, hr, hl, _⟩ := h
        rw [hr.length, hl, k2]
    · have hps : d.ps.length ≤ d.N.length := by
        have := congrArg List.length hN.pre
        rw [List.length_take] at this
        omega
      cases hio : d.fd.io with
      | true =>
        unfold spD at h
        rw [if_pos hio] at h
        obtain ⟨F, a, x, d0, vr, dr, dz, fr, c, rfl, sF, hFa, hHa, ow, rr, hl, hp, q⟩ := h
        rw [hPhi] at hp
        obtain ⟨_, r', hev, hdn⟩ := runF_ok hp
        refine ⟨_, PSs.nox (chkS_ok _ _ (.b _) _ (sta cdv A' outer s H E) (ctx cdv A' outer s H E F [a] (.inr hio) hgu hr) k5), ?_⟩
        have hlen : (L2.start d.N (.ref a :: vr)).length = (start d.fd (d0 :: dr)).length := by
          rw [start_len (by rw [List.length_cons, rr.length]; omega), start_eq, List.length_append, startL_len, List.length_replicate, List.length_cons]
          omega
        have s0 : (L2.start d.N (.ref a :: vr))[0]? = some (some (.ref a)) := start_get rfl
        have hOA : ∀ i e, getO (start d.fd (d0 :: dr)) i = some e → i = 0 ∧ e = d0 := fun i e g => by
          obtain ⟨_, h1, h2⟩ := startL_o (startL_out (getO_at g))
          cases h2
          exact ⟨h1, rfl⟩
        refine ⟨F, start d.fd (d0 :: dr), ⟨hlen, sF, fun i e g => ?_, fun i e g => ?_, fun i j b e e2 hne gi gj => ?_, fun i kk e => ?_, fun b o e _ => e, fun b e => e, Sub.refl _, fun b o e => .inl e, fun b hb => ?_⟩, ?_⟩
        · obtain ⟨h1, h2⟩ := startL_p (startL_out (getP_at g))
          cases i with
          | zero => exact absurd rfl (h2 hio)
          | succ i =>
            obtain ⟨v, hv, rv⟩ := rr.get (i := i) (by simpa using h1)
            exact ⟨v, start_get (by simpa using hv), rv⟩
        · obtain ⟨rfl, rfl⟩ := hOA i e g
          exact ⟨a, x, s0, hFa, hHa, ow, .inr ⟨List.mem_singleton.mpr rfl, rfl⟩⟩
        · obtain ⟨rfl, _⟩ := hOA i e gi
          obtain ⟨rfl, _⟩ := hOA j e2 gj
          exact absurd rfl hne
        · exact absurd (startL_out e) startL_f
        · rw [List.mem_singleton.mp hb]; exact s0
        · have fin : ∀ v σ' F' H', EnvOk ⟨K, fun f => (L[f]?).map fun _ => A f, F, H, [a]⟩ F' H' σ' r' → ValOk K F' H' H v dz fr → Q v H' := fun v σ' F' H' E' hv => by
            unfold doneR at hdn
            rw [hio, if_pos rfl] at hdn
            split at hdn
            · rename_i c' gc
              cases hdn
              obtain ⟨b, y, e1, e2, e3, e4, e5⟩ := E'.ow 0 _ gc
              have e6 := E'.is a (List.mem_singleton.mpr rfl)
              rw [e1] at e6
              cases e6
              refine q v F' H' y E'.f0 E'.fle (fun b' o hb hne => E'.fr b' o hb fun z => hne (List.mem_singleton.mp z)) (fun b' o hb => ?_) e2 e3 e4 hv
              rcases E'.fn0 b' o hb with z | z | z
              · exact .inl z
              · exact .inr z
              · rw [List.mem_singleton.mp z, e2] at hb; cases hb
            · cases hdn
          rcases hev with he | ⟨he, rfl, rfl⟩
          · rw [he]
            exact fun v σ' F' H' E' s' hv => fin v σ' F' H' E' hv.1
          · rw [he]
            exact fun σ' F' H' E' s' => fin .non σ' F' H' E' (ValOk.rep0 .non)
      | false =>
        unfold spD at h
        rw [if_neg (by rw [hio]; decide)] at h
        obtain ⟨F, ds, dz, fr, sF, rr, hl, hp, q⟩ := h
        rw [hPhi] at hp
        obtain ⟨_, r', hev, hdn⟩ := runF_ok hp
        refine ⟨_, PSs.nox (chkS_ok _ _ (.b _) _ (sta cdv A' outer s H E) (ctx cdv A' outer s H E F [] (.inl rfl) hgu hr) k5), ?_⟩
        have hlen : (L2.start d.N vs).length = (start d.fd ds).length := by
          rw [start_len (by rw [rr.length]; omega), start_eq, List.length_append, startL_len, List.length_replicate]
          omega
        have hOA : ∀ i e, getO (start d.fd ds) i ≠ some e := fun i e g => by
          obtain ⟨h1, _⟩ := startL_o (startL_out (getO_at g))
          rw [hio] at h1
          cases h1
        refine ⟨F, start d.fd ds, ⟨hlen, sF, fun i e g => ?_, fun i e g => absurd g (hOA i e), fun i j b e e2 hne gi gj => absurd gi (hOA i e), fun i kk e => absurd (startL_out e) startL_f, fun b o e _ => e, fun b e => e, Sub.refl _, fun b o e => .inl e, fun b hb => (by cases hb)⟩, ?_⟩
        · obtain ⟨h1, h2⟩ := startL_p (startL_out (getP_at g))
          obtain ⟨v, hv, rv⟩ := rr.get h1
          exact ⟨v, start_get hv, rv⟩
        · have fin : ∀ v σ' F' H', EnvOk ⟨K, fun f => (L[f]?).map fun _ => A f, F, H, []⟩ F' H' σ' r' → ValOk K F' H' H v dz fr → Q v H' := fun v σ' F' H' E' hv => by
            refine q v F' H' ⟨E'.f0, fun b' o hb => E'.fr b' o hb (by simp), E'.fle, fun b' o hb => ?_⟩ hv
            rcases E'.fn0 b' o hb with z | z | z
            · exact .inl z
            · exact .inr z
            · cases z
          rcases hev with he | ⟨he, rfl, rfl⟩
          · rw [he]
            exact fun v σ' F' H' E' s' hv => fin v σ' F' H' E' hv.1
          · rw [he]
            exact fun σ' F' H' E' s' => fin .non σ' F' H' E' (ValOk.rep0 .non)
end
end TP

set_option Elab.async false
set_option linter.all false
set_option maxRecDepth 100000
/-! TP22: the end: from what the head tells to the law's promise. -/
namespace TP
open PySem PySem.Spec PyProof.Rows L2

def vOf : Value → V
  | .none => .non
  | .bool b => .bl b
  | .int i _ => .int i
  | .str s _ => .str s
  | .ref a => .ref a
  | _ => .non
def repB (K : PySem.W.Frag) : Nat → Value → D → Bool
  | 0, _, _ => false
  | n + 1, u, d => match u, d with
    | .none, .none => true
    | .bool b, .bool c => b == c
    | .int i _, .int j => decide (i = j)
    | .str s _, .str t => decide (s = t)
    | .ref a, .tuple ds => (match K.lookup a with
      | some ⟨.type c, _, .seq its _, _⟩ => decide (c = "tuple") && (decide (its.size ≤ sizeLine) && (decide (its.toList.length = ds.length) && (its.toList.zip ds).all fun q => repB K n q.1 q.2))
      | _ => false)
    | .ref a, .list ds => (match K.lookup a with
      | some ⟨.type c, none, .seq its _, _⟩ => decide (c = "list") && (decide (its.size ≤ sizeLine) && (decide (its.toList.length = ds.length) && (its.toList.zip ds).all fun q => repB K n q.1 q.2))
      | _ => false)
    | _, _ => false
theorem repBs_ok {K : PySem.W.Frag} {n : Nat} (ih : ∀ u d, repB K n u d = true → RelV (vOf u) u ∧ ∀ F, Rep K F (vOf u) d) : ∀ (us : List Value) (ds : List D), us.length = ds.length → ((us.zip ds).all fun q => repB K n q.1 q.2) = true → Vals (us.map vOf) us ∧ ∀ F, RepAll K F (us.map vOf) ds
  | [], [], _, _ => ⟨.nil, fun _ => .nil⟩
  | u :: us, d :: ds, hl, h => by
    rw [List.zip_cons_cons, List.all_cons, Bool.and_eq_true] at h
    obtain ⟨h1, h2⟩ := ih u d h.1
    obtain ⟨h3, h4⟩ := repBs_ok ih us ds (by simpa using hl) h.2
    exact ⟨.cons h1 h3, fun F => .cons (h2 F) (h4 F)⟩
  | [], d :: ds, hl, _ => by cases hl
  | u :: us, [], hl, _ => by cases hl
theorem repB_ok {K : PySem.W.Frag} : ∀ (n : Nat) (u : Value) (d : D), repB K n u d = true → RelV (vOf u) u ∧ ∀ F, Rep K F (vOf u) d
  | 0, _, _, h => by cases h
  | n + 1, u, d, h => by
    unfold repB at h
    split at h
    · exact ⟨rfl, fun _ => .non⟩
    · rename_i b c
      have e : b = c := by simpa using h
      subst e
      exact ⟨rfl, fun _ => .bl _⟩
    · rename_i i t j
      have e : i = j := of_decide_eq_true h
      subst e
      exact ⟨⟨t, rfl⟩, fun _ => .int _⟩
    · rename_i i t j
      have e : i = j := of_decide_eq_true h
      subst e
      exact ⟨⟨t, rfl⟩, fun _ => .str _⟩
    · rename_i a ds
      split at h
      · rename_i c od its nn sl q
        simp only [Bool.and_eq_true, decide_eq_true_eq] at h
        obtain ⟨rfl, h2, h3, h4⟩ := h
        obtain ⟨h5, h6⟩ := repBs_ok (repB_ok n) _ _ h3 h4
        exact ⟨rfl, fun F => .tup (.inr ⟨_, its, nn, q, rfl, rfl, h2, h5⟩) (h6 F)⟩
      · cases h
    · rename_i a ds
      split at h
      · rename_i c its nn sl q
        simp only [Bool.and_eq_true, decide_eq_true_eq] at h
        obtain ⟨rfl, h2, h3, h4⟩ := h
        obtain ⟨h5, h6⟩ := repBs_ok (repB_ok n) _ _ h3 h4
        exact ⟨rfl, fun F => .lst (.inr ⟨_, its, nn, q, rfl, rfl, rfl, h2, h5⟩) (h6 F)⟩
      · cases h
    · cases h

def defD (d : DT) : He.DefD := ⟨(d.name, none), d.name, d.name, defArgs d.st, defBody d.st, defScope d.st, [], []⟩
def bns : List Str := ["len", "max", "min", "sum", "all", "any", "list", "tuple", "sorted", "int", "abs", "isinstance", "range", "enumerate", "zip", "str", "bool", "dict", "set", "repr"]
def factsOf (L : List DT) : List He.Fa := (L.map fun d => .glo d.name) ++ bns.map .free
def adr (L : List DT) (K : PySem.W.Frag) (f : Nat) : Addr := match L[f]? with
  | some d => He.ga K d.name
  | none => 0
def tabsOf (M : List (Str × List (Str × Nat))) : List He.Tab := M.map fun t => (fun K => He.ga K t.1, t.2.map (·.1))
def exB (L : List DT) (G : List (Str × D)) (M : List (Str × List (Str × Nat))) (K : PySem.W.Frag) : Bool :=
  (M.all fun t => He.eqO (PySem.W.nsIn K mainGlobals t.1) (some (some (.ref (He.ga K t.1)))) && (He.valsB K (He.ga K t.1) (t.2.map fun q => (q.1, He.Dv.adr fun K => adr L K q.2)) && t.2.all fun q => (L[q.2]?).isSome)) &&
  G.all fun c => match PySem.W.nsIn K mainGlobals c.1 with
    | some (some u) => repB K 12 u c.2
    | _ => false
def BindOk (d : DT) : Prop := ∀ (kV doc pm : Value) (an : Option Addr) (cdv ct : Value) (us : List Value), us.length = d.ps.length → bindArgs (PySem.W.fnOf d.name d.name (defArgs d.st) (defBody d.st) (defScope d.st) .none kV doc pm an cdv ct) ⟨us, []⟩ = pure (d.ps.zip us)

theorem lookup_memP {z : Str} {f : Nat} : ∀ {l : List (Str × Nat)}, l.lookup z = some f → (z, f) ∈ l
  | [], h => by cases h
  | (a, b) :: r, h => by
    rw [List.lookup_cons] at h
    split at h
    · rename_i e
      cases h
      have : z = a := by simpa using e
      subst this
      exact List.mem_cons_self
    · exact List.mem_cons_of_mem _ (lookup_memP h)
theorem facts_of {L : List DT} {G : List (Str × D)} {M : List (Str × List (Str × Nat))} {w : World} {h : Heap} {K : PySem.W.Frag} {mg : Str → Option Value} (X : K.In h) (Gn : h.Ns mainGlobals mg)
    (c : He.SaysX (factsOf L) (L.map defD) (tabsOf M) [] (exB L G M) w h K) (hb : ∀ d ∈ L, BindOk d) (hne : L ≠ []) : ∃ Fd, Facts w K mg L G M (adr L K) Fd := by
  have fd : ∀ d ∈ L, ∃ fd, FunD K d.name d.name (defArgs d.st) (defBody d.st) (defScope d.st) [] [] (He.ga K d.name) fd := fun d hd =>
    c.t.d.defs (d := defD d) (List.mem_map_of_mem hd)
  have fd2 : ∀ f : Nat, ∃ z, ∀ d : DT, L[f]? = some d → FunD K d.name d.name (defArgs d.st) (defBody d.st) (defScope d.st) [] [] (He.ga K d.name) z := fun f => by
    cases e : L[f]? with
    | some d =>
      obtain ⟨z, hz⟩ := fd d (List.mem_of_getElem? e)
      exact ⟨z, fun d' hd' => by cases hd'; exact hz⟩
    | none =>
      cases L with
      | nil => exact absurd rfl hne
      | cons d0 r =>
        obtain ⟨z, _⟩ := fd d0 List.mem_cons_self
        exact ⟨z, fun d' hd' => by cases hd'⟩
  obtain ⟨Fd, hFd⟩ := Classical.axiomOfChoice fd2
  have adr_ : ∀ {f : Nat} {d : DT}, L[f]? = some d → adr L K f = He.ga K d.name := fun {f d} e => by unfold adr; rw [e]
  have glo : ∀ d ∈ L, mg d.name = some (.ref (He.ga K d.name)) := fun d hd => He.glo_ok X Gn (c.t.d.facts (f := .glo d.name) (List.mem_append_left _ (List.mem_map_of_mem (f := fun d : DT => He.Fa.glo d.name) hd)))
  have ex := c.more
  unfold exB at ex
  rw [Bool.and_eq_true] at ex
  refine ⟨Fd, fun f d hd => ?_, fun f d hd => ?_, fun f d hd => ?_, fun x hx => ?_, fun x d hx => ?_, fun x t hx => ?_⟩
  · rw [adr_ hd]; exact hFd f d hd
  · rw [adr_ hd]; exact glo d (List.mem_of_getElem? hd)
  · exact (hFd f d hd).bindsN (hb d (List.mem_of_getElem? hd))
  · exact He.free_ok X Gn (c.t.d.facts (f := .free x) (List.mem_append_right _ (List.mem_map_of_mem (f := He.Fa.free) hx)))
  · have h2 := List.all_eq_true.mp ex.2 _ hx
    split at h2
    · rename_i u e
      obtain ⟨r1, r2⟩ := repB_ok _ _ _ h2
      exact ⟨_, u, PySem.W.mg_of X Gn e, r1, r2⟩
    · cases h2
  · have h2 := List.all_eq_true.mp ex.1 _ hx
    simp only [Bool.and_eq_true] at h2
    obtain ⟨h3, h5, h6⟩ := h2
    have e := He.eqO_ok h3
    refine ⟨_, PySem.W.mg_of X Gn e, fun z f hz => ?_⟩
    have hm := lookup_memP hz
    obtain ⟨u, h7, h8⟩ := He.valsB_ok h5 (List.mem_map_of_mem (f := fun q : Str × Nat => (q.1, He.Dv.adr fun K => adr L K q.2)) hm)
    obtain ⟨i, hi, e2⟩ := List.mem_iff_getElem.mp hx
    obtain ⟨es, n, kd⟩ := c.t.tab i (t := (fun K => He.ga K x, t.map (·.1))) (by unfold tabsOf; rw [List.getElem?_map, List.getElem?_eq_getElem hi, e2]; rfl)
    exact ⟨Option.isSome_iff_exists.mp (List.all_eq_true.mp h6 _ hm), es, n, u, kd.at_, kd.lit, h7, h8⟩

theorem repInts {K : PySem.W.Frag} {F : Hp} : ∀ ns : List Int, RepAll K F (ns.map V.int) (ns.map PyData.int)
  | [] => .nil
  | n :: ns => .cons (.int n) (repInts ns)
/-- what the walk asks for -/
theorem end_of {P : Program} {L : List DT} {G : List (Str × D)} {M : List (Str × List (Str × Nat))} {w : World} {h : Heap} {K : PySem.W.Frag} {mg : Str → Option Value} {fa : Addr} {k f m : Nat} {x : Str} {d : DT} (X : K.In h) (Gn : h.Ns mainGlobals mg)
    (c : He.SaysX (factsOf L) (L.map defD) (tabsOf M) [] (exB L G M) w h K) (hb : ∀ d ∈ L, BindOk d) (ok : (L.all (dtOk (L.map DT.ft) G M)) = true) (hd : L[f]? = some d) (hps : d.ps = [x]) (hio : d.fd.io = false) (hnp : d.fd.nP = 1) (hfa : mg d.name = some (.ref fa))
    (law : ∀ ns : List Int, ns.length ≤ m → Phi (L.map DT.fd) k f [.list (ns.map .int)] = .ok (.bool true) false none) :
    ∃ (fd : FuncData) (sp : Sp), (∀ (s : Shared) (u : Value), BindsTo s fd ⟨[u], []⟩ [(x, u)]) ∧
        (∀ (H : Hp) (a : Addr) (ns : List Int), ns.length ≤ m → Only H → SqL K H a (ns.map V.int) → sp [.ref a] H (fun v _ => v = .bl true) fun _ _ _ => False) ∧
        ∀ base : Heap, K.In base → base.Ns mainGlobals mg → FnG P w K mg base CX0 k fa fd [x] sp := by
  obtain ⟨Fd, hF⟩ := facts_of X Gn c hb (by intro z; rw [z] at hd; cases hd)
  have e1 := hF.at_ f d hd
  rw [hfa] at e1
  cases e1
  refine ⟨Fd f, _, fun s u => ?_, fun H a ns hl hO hS => ?_, fun base _ _ => hps ▸ tower (P := P) (base := base) hF ok k f d hd⟩
  · have := (hF.fn f d hd).bindsA (hb d (List.mem_of_getElem? hd)) s [u] (by rw [hps]; rfl)
    rw [hps] at this
    exact this
  · unfold spD
    rw [if_neg (by rw [hio]; decide)]
    have hp := law ns hl
    refine ⟨H, [.list (ns.map .int)], .bool true, false, ?_, .cons (.lst hS (repInts ns)) .nil, hnp.symm ▸ rfl, hp, fun v F' H' hk hv => ?_⟩
    · exact Sub.refl _
    · cases hv
      rfl
end TP

set_option Elab.async false
set_option linter.all false
set_option maxRecDepth 100000
/-! TPw: what a code asks for, step by step. The continuations stand in places that simp doesn't enter. -/
namespace TQ
open PySem TP

class QK where
  k : D → Bool → Ev → Prop
class XK where
  k : Nat → List D → Ev → Prop
class RK where
  k : Ev → Prop
class LK where
  k : List D → Ev → Prop
class PK where
  p : Prop
class DK where
  k : D → Prop
class NK where
  k : Nat → Prop
class JK where
  ret : D → Bool → Ev → Prop
  brk : Ev → Prop
  cnt : Ev → Prop
  exc : Nat → List D → Ev → Prop

def wp (o : Out) [Q : QK] [E : XK] : Prop := match o with | .ok d fr r => Q.k d fr r | .exc c fs r => E.k c fs r | .stuck => False
def wpO (x : Option (D × Bool)) (r : Ev) [Q : QK] : Prop := match x with | some (d, f) => Q.k d f r | none => False
def wpD (x : Option D) (r : Ev) [Q : QK] : Prop := match x with | some d => Q.k d false r | none => False
def wpB (x : Option Bool) (r : Ev) [Q : QK] : Prop := match x with | some b => Q.k (.bool b) false r | none => False
def wpT (d : D) [P : PK] [N : PK] : Prop := match truth d with | some true => P.p | some false => N.p | none => False
def cnd (b : Bool) [P : PK] [N : PK] : Prop := if b = true then P.p else N.p
def setK (r : Ev) (i : Nat) (s : Option Sl) [K : RK] : Prop := K.k (r.set i s)
def getOK (r : Ev) (i : Nat) [K : DK] : Prop := match getO r i with | some d => K.k d | none => False
def getFK (r : Ev) (i : Nat) [K : NK] : Prop := match r[i]? with | some (some (.f f)) => K.k f | _ => False
def gLen (l : List D) [P : PK] : Prop := l.length ≤ line ∧ P.p
def lendK (ld : List Nat) (r : Ev) [K : RK] : Prop := K.k (lend r ld)
def unlK (r0 r1 : Ev) (ld : List Nat) [K : RK] : Prop := K.k (unlend r0 r1 ld)
def wpM (Ph : Nat → List D → Rs) (own ld : List Nat) (e : CE) (r : Ev) [Q : QK] [E : XK] : Prop := @wp (evL Ph (own ++ ld) e r) Q E
/-- the spine of arguments -/
def wpA (Ph : Nat → List D → Rs) (es : CE) (r : Ev) [K : LK] [E : XK] : Prop := @wp (ev Ph es r) ⟨fun x _ r1 => match x with | .tuple l => K.k l r1 | _ => False⟩ E
def wpC' (x : Rs) (r : Ev) [Q : QK] [E : XK] : Prop := match x with | .ok d fr none => Q.k d fr r | .exc c fs none => E.k c fs r | _ => False
def wpCI' (x : Rs) (i : Nat) (r : Ev) [Q : QK] [E : XK] : Prop := match x with | .ok d fr (some c) => @setK r i (some (.o c)) ⟨Q.k d fr⟩ | .exc c fs (some b) => @setK r i (some (.o b)) ⟨E.k c fs⟩ | _ => False
structure wpC (x : Rs) (r : Ev) [Q : QK] [E : XK] : Prop where
  out : @wpC' x r Q E
structure wpCI (x : Rs) (i : Nat) (r : Ev) [Q : QK] [E : XK] : Prop where
  out : @wpCI' x i r Q E
def wpLenO (c : D) (r : Ev) [Q : QK] : Prop := match c with | .list l => Q.k (.int l.length) false r | _ => False
def isL (c : D) [P : PK] : Prop := match c with | .list _ => P.p | _ => False
def wpPop (x c : D) (i : Nat) (r : Ev) [Q : QK] : Prop := match x, c with
  | .int k, .list l => (match L2.ixN l.length k with
    | some j => (match l[j]? with
      | some d => if -9223372036854775808 ≤ k ∧ k < 9223372036854775808 then @setK r i (some (.o (.list (l.eraseIdx j)))) ⟨Q.k d false⟩ else False
      | none => False)
    | none => False)
  | _, _ => False
def wpSto (c kd d : D) (i : Nat) (r : Ev) [N : RK] : Prop := match c, kd with
  | .list l, .int n => (match L2.ixN l.length n with
    | some j => @setK r i (some (.o (.list (l.set j d)))) N
    | none => False)
  | _, _ => False
def wpMut (m : MU) (c d : D) (i : Nat) (r : Ev) [N : RK] : Prop := match m, c, d with
  | .append, .list l, .tuple [x] => l.length < line ∧ @setK r i (some (.o (.list (l ++ [x])))) N
  | .clear, .list _, .tuple [] => @setK r i (some (.o (.list []))) N
  | .reverse, .list l, .tuple [] => @setK r i (some (.o (.list l.reverse))) N
  | _, _, _ => False
def wpSeq (x : D) (r : Ev) [Q : QK] : Prop := match seqD x with | some l => Q.k (.list l) false r | none => False
def rngOk (i j : Int) : Bool := decide (-4611686018427387904 ≤ i) && decide (i < 4611686018427387904) && decide (-4611686018427387904 ≤ j) && decide (j < 4611686018427387904) && decide ((j - i).toNat ≤ line)
def wpRng (x y : D) (fr : Bool) (r : Ev) [Q : QK] : Prop := match x, y with
  | .int i, .int j => rngOk i j = true ∧ Q.k (.list (rangeD i j)) fr r
  | _, _ => False
def wpEnum (x : D) (r : Ev) [Q : QK] : Prop := match x with | .list l => Q.k (.list (enumD 0 l)) false r | _ => False
def wpZip (x y : D) (r : Ev) [Q : QK] : Prop := match x, y with
  | .list l, .list m => Q.k (.list (zipD l m)) false r
  | .tuple l, .tuple m => Q.k (.list (zipD l m)) false r
  | _, _ => False
def wpSset (x : D) (r : Ev) [Q : QK] : Prop := match seqD x with
    | some l => (match intsOf l with
      | some ns => ((usort ns).length < 64 ∧ ns.length ≤ 4000) ∧ Q.k (.list ((usort ns).map .int)) true r
      | none => False)
    | none => False
def wpLset (x : D) (r : Ev) [Q : QK] : Prop := match seqD x with
    | some l => (match intsOf l with
      | some ns => ns.length ≤ 4000 ∧ Q.k (.int (usort ns).length) false r
      | none => False)
    | none => False
def wpDget (ks : List Str) (x y z : D) (r : Ev) [Q : QK] : Prop := match x, y with
    | .tuple l, .str s => l.length = ks.length ∧ Q.k (((ks.zip l).lookup s).getD z) false r
    | _, _ => False
def wpSli (x y z : D) (r : Ev) [Q : QK] : Prop := match dPart y, dPart z with
    | some l, some h => @wpO (dSli x l h) r Q
    | _, _ => False
def bindK (t : CT) (d : D) (r : Ev) [K : RK] : Prop := match bindT t d r with | some r1 => K.k r1 | none => False
def lcStep (Ph : Nat → List D → Rs) (elt : CE) (tg : CT) (ifs : CE) (d : D) (r2 : Ev) : Out := match bindT tg d r2 with
        | some r3 => (ev Ph ifs r3).bind fun t r4 => match truth t with
          | some true => (ev Ph elt r4).bind fun y r5 => .ok (.tuple [y]) false r5
          | some false => .ok (.tuple []) false r4
          | none => .stuck
        | none => .stuck
def scStep (Ph : Nat → List D → Rs) (elt : CE) (tg : CT) (d : D) (r2 : Ev) : Out := match bindT tg d r2 with
        | some r3 => (ev Ph elt r3).bind fun y r5 => .ok (.tuple [y]) false r5
        | none => .stuck
def wpLc' (Ph : Nat → List D → Rs) (x : D) (elt : CE) (tg : CT) (ifs : CE) (vs : List Nat) (r1 : Ev) [Q : QK] : Prop := match x with
    | .list items => (match lcLoop (lcStep Ph elt tg ifs) vs items (wipeE r1 vs) with
      | .ok d fr r2 => Q.k d fr (backE r1 r2 vs)
      | _ => False)
    | _ => False
structure wpLc (Ph : Nat → List D → Rs) (x : D) (elt : CE) (tg : CT) (ifs : CE) (vs : List Nat) (r1 : Ev) [Q : QK] : Prop where
  out : @wpLc' Ph x elt tg ifs vs r1 Q
def wpSdc (Ph : Nat → List D → Rs) (x : D) (elt : CE) (tg : CT) (vs : List Nat) (r1 : Ev) [Q : QK] : Prop := match x with
    | .list items => (match lcLoop (scStep Ph elt tg) vs items (wipeE r1 vs) with
      | .ok (.list l) _ r2 => (match intsOf l with
        | some ns => (usort ns).length < 64 ∧ Q.k (.list ((usort ns).map .int)) true (backE r1 r2 vs)
        | none => False)
      | _ => False)
    | _ => False
def wpLsc (Ph : Nat → List D → Rs) (x : D) (elt : CE) (tg : CT) (vs : List Nat) (r1 : Ev) [Q : QK] : Prop := match x with
    | .list items => (match lcLoop (scStep Ph elt tg) vs items (wipeE r1 vs) with
      | .ok (.list l) _ r2 => (match intsOf l with
        | some ns => ns.length ≤ 4000 ∧ Q.k (.int (usort ns).length) false (backE r1 r2 vs)
        | none => False)
      | _ => False)
    | _ => False

def wpS (f : Fl) [N : RK] [J : JK] : Prop := match f with
  | .nx r => N.k r
  | .ret d fr r => J.ret d fr r
  | .brk r => J.brk r
  | .cnt r => J.cnt r
  | .exc c fs r => J.exc c fs r
  | .stuck => False
def stepF (Ph : Nat → List D → Rs) (t : CT) (body : CS) (d : D) (r2 : Ev) : Fl := match bindT t d r2 with
        | some r3 => evS Ph body r3
        | none => .stuck
def wpF' (Ph : Nat → List D → Rs) (x : D) (t : CT) (body : CS) (r : Ev) [N : RK] [J : JK] : Prop := match x with
  | .list items => @wpS (forLoop (stepF Ph t body) items r) N J
  | _ => False
structure wpF (Ph : Nat → List D → Rs) (x : D) (t : CT) (body : CS) (r : Ev) [N : RK] [J : JK] : Prop where
  out : @wpF' Ph x t body r N J
def wpW' (Ph : Nat → List D → Rs) (n : Nat) (ld : List Nat) (t : CE) (body : CS) (r : Ev) [N : RK] [J : JK] : Prop := @wpS (whileLoop (evL Ph ld t) (evS Ph body) n r) N J
def wpV (d : D) (fr : Bool) (i : Nat) (r : Ev) [N : RK] : Prop := N.k (putV r i d fr)
def wpPar (d : D) (i j : Nat) (r : Ev) [N : RK] : Prop := match d with
  | .tuple [x, y] => @setK r i (some (.p x)) ⟨fun r1 => @setK r1 j (some (.p y)) N⟩
  | _ => False
structure wpW (Ph : Nat → List D → Rs) (n : Nat) (ld : List Nat) (t : CE) (body : CS) (r : Ev) [N : RK] [J : JK] : Prop where
  out : @wpW' Ph n ld t body r N J
def wpUnp (t : CT) (d : D) (r : Ev) [N : RK] : Prop := match d with
    | .tuple l => @bindK t (.tuple l) r N
    | .list l => @bindK t (.tuple l) r N
    | _ => False
def wpStar (t : CT) (n : Nat) (d : D) (r : Ev) [N : RK] : Prop := match d with
    | .tuple l => n ≤ l.length ∧ @bindK t (.tuple (l.take n ++ [.list (l.drop n)])) r N
    | _ => False
def wpFsel (tab : List (Str × Nat)) (i : Nat) (d : D) (r : Ev) [N : RK] : Prop := match d with
    | .str s => (match tab.lookup s with
      | some f => @setK r i (some (.f f)) N
      | none => False)
    | _ => False

section
variable {Q : QK} {E : XK} {N : RK} {J : JK} {P P2 : PK} {Ph : Nat → List D → Rs} {r : Ev}
theorem wp_bind (x : Out) (k : D → Ev → Out) : @wp (x.bind k) Q E = @wp x ⟨fun d _ r => @wp (k d r) Q E⟩ E := by cases x <;> rfl
theorem wpb {x : Out} {k : D → Ev → Out} {f : D → Bool → Ev → Prop} (h : ∀ d fr r, @wp (k d r) Q E = f d fr r) : @wp (x.bind k) Q E = @wp x ⟨f⟩ E := by
  cases x with
  | ok d fr r => exact h d fr r
  | exc c fs r => rfl
  | stuck => rfl
theorem wpfl {x : Out} {k : D → Bool → Ev → Fl} {f : D → Bool → Ev → Prop} (h : ∀ d fr r, @wpS (k d fr r) N J = f d fr r) : @wpS (x.flow k) N J = @wp x ⟨f⟩ ⟨J.exc⟩ := by
  cases x with
  | ok d fr r => exact h d fr r
  | exc c fs r => rfl
  | stuck => rfl
theorem wpc {x : Out} {f g : D → Bool → Ev → Prop} (h : ∀ d fr r, f d fr r = g d fr r) : @wp x ⟨f⟩ E = @wp x ⟨g⟩ E := by
  cases x with
  | ok d fr r => exact h d fr r
  | exc c fs r => rfl
  | stuck => rfl
theorem wp_if {c : Prop} [Decidable c] {x : Out} : @wp (if c then x else .stuck) Q E = (c ∧ @wp x Q E) := by
  by_cases h : c
  · rw [if_pos h]; exact propext ⟨fun z => ⟨h, z⟩, fun z => z.2⟩
  · rw [if_neg h]; exact propext ⟨fun z => z.elim, fun z => absurd z.1 h⟩
theorem wpS_if {c : Prop} [Decidable c] {x : Fl} : @wpS (if c then x else .stuck) N J = (c ∧ @wpS x N J) := by
  by_cases h : c
  · rw [if_pos h]; exact propext ⟨fun z => ⟨h, z⟩, fun z => z.2⟩
  · rw [if_neg h]; exact propext ⟨fun z => z.elim, fun z => absurd z.1 h⟩
theorem wp_okO {x : Option (D × Bool)} : @wp (okO x r) Q E = @wpO x r Q := by cases x <;> rfl
theorem wp_okD {x : Option D} : @wp (okD x r) Q E = @wpD x r Q := by cases x <;> rfl
theorem wp_okB {x : Option Bool} : @wp (okB x r) Q E = @wpB x r Q := by cases x <;> rfl
theorem wp_flow (x : Out) (k : D → Bool → Ev → Fl) : @wpS (x.flow k) N J = @wp x ⟨fun d fr r => @wpS (k d fr r) N J⟩ ⟨J.exc⟩ := by cases x <;> rfl
theorem wpM_skip {own ld : List Nat} {k : Nat} {e : CE} (h : getO r k = none) : @wpM Ph own (k :: ld) e r Q E = @wpM Ph own ld e r Q E := by
  have h1 : ∀ (own : List Nat) (s : Ev), getO s k = none → lend s (own ++ k :: ld) = lend s (own ++ ld) := by
    intro own
    induction own with
    | nil => intro s h; show (match getO s k with | some d => _ | none => _) = _; rw [h]; rfl
    | cons v vs ih =>
      intro s h
      show (match getO s v with | some d => lend (putP s v d) (vs ++ k :: ld) | none => lend s (vs ++ k :: ld)) = (match getO s v with | some d => lend (putP s v d) (vs ++ ld) | none => lend s (vs ++ ld))
      cases e : getO s v with
      | none => exact ih s h
      | some d =>
        refine ih _ ?_
        unfold getO putP
        rw [List.getElem?_set]
        by_cases hv : v = k
        · subst hv; rw [h] at e; cases e
        · rw [if_neg hv]; exact h
  have h2 : ∀ (own : List Nat) (s : Ev), unlend r s (own ++ k :: ld) = unlend r s (own ++ ld) := by
    intro own
    induction own with
    | nil => intro s; show (match getO r k with | some d => _ | none => _) = _; rw [h]; rfl
    | cons v vs ih =>
      intro s
      show (match getO r v with | some d => unlend r (putO s v d) (vs ++ k :: ld) | none => unlend r s (vs ++ k :: ld)) = (match getO r v with | some d => unlend r (putO s v d) (vs ++ ld) | none => unlend r s (vs ++ ld))
      cases e : getO r v with
      | none => exact ih s
      | some d => exact ih _
  unfold wpM evL
  rw [h1 own r h]
  simp only [h2 own]
theorem wpM_own {own ld : List Nat} {k : Nat} {e : CE} : @wpM Ph own (k :: ld) e r Q E = @wpM Ph (own ++ [k]) ld e r Q E := by
  unfold wpM
  rw [List.append_assoc]
  rfl
theorem unl_id : ∀ (vs : List Nat) (r0 r1 : Ev), (∀ v ∈ vs, getO r0 v = none) → unlend r0 r1 vs = r1
  | [], _, _, _ => rfl
  | v :: vs, r0, r1, h => by
    show (match getO r0 v with | some d => unlend r0 (putO r1 v d) vs | none => unlend r0 r1 vs) = r1
    rw [h v List.mem_cons_self]
    exact unl_id vs r0 r1 fun w hw => h w (List.mem_cons_of_mem _ hw)
theorem m_nil {e : CE} : @wpM Ph [] [] e r Q E = @wp (ev Ph e r) Q E := by --s
  unfold wpM evL
  show @wp (match ev Ph e r with | .ok d fr r1 => .ok d fr (if flatF d fr && ownFlat r1 then r1 else r1) | .exc c fs r1 => .exc c fs r1 | .stuck => .stuck) Q E = _
  simp only [ite_self]
  cases ev Ph e r <;> rfl
theorem m_own {e : CE} {v : Nat} {own : List Nat} : @wpM Ph (v :: own) [] e r Q E = @lendK (v :: own) r ⟨fun r1 => @wp (ev Ph e r1) ⟨fun d fr r2 => @cnd (flatF d fr && ownFlat r2) ⟨@unlK r r2 (v :: own) ⟨fun r3 => Q.k d fr r3⟩⟩ ⟨Q.k d fr r2⟩⟩ E⟩ := by --s
  unfold wpM evL lendK
  rw [List.append_nil]
  dsimp only
  cases h : ev Ph e (lend r (v :: own)) with
  | ok d fr r2 =>
    show Q.k d fr (if _ then _ else _) = (if _ then _ else _)
    split <;> rfl
  | exc c fs r2 => rfl
  | stuck => rfl
theorem lf_nil {K : RK} : @lendK [] r K = K.k r := id rfl --s
theorem un_nil {r1 : Ev} {k : Ev → Prop} : @unlK r r1 [] ⟨k⟩ = k r1 := id rfl --s
theorem cnd_t : @cnd true P P2 = P.p := id rfl --s
theorem cnd_f : @cnd false P P2 = P2.p := id rfl --s
theorem atI_nat {l : List D} {i : Nat} {x : D} (h : l[i]? = some x) (h2 : i < l.length) : L2.atI l (i : Int) = some x := by
  unfold L2.atI L2.ixN
  rw [if_pos (by omega), if_pos (by omega)]
  exact h
theorem ixl {x : D} {l : List D} {i : Nat} {q : D → Bool → Ev → Prop} (h : l[i]? = some x) (h2 : i < l.length) : @wpD (dIdx (.list l) (.int (i : Int))) r ⟨q⟩ = q x false r := by
  show @wpD (L2.atI l i) r ⟨q⟩ = _
  rw [atI_nat h h2]; rfl
theorem ixt {x : D} {l : List D} {i : Nat} {q : D → Bool → Ev → Prop} (h : l[i]? = some x) (h2 : i < l.length) : @wpD (dIdx (.tuple l) (.int (i : Int))) r ⟨q⟩ = q x false r := by
  show @wpD (L2.atI l i) r ⟨q⟩ = _
  rw [atI_nat h h2]; rfl
theorem stlem {l : List D} {d : D} {i j : Nat} : j < l.length → @wpSto (.list l) (.int (j : Int)) d i r N = @setK r i (some (.o (.list (l.set j d)))) N := fun h => by
  unfold wpSto
  have e : L2.ixN l.length (j : Int) = some j := by
    unfold L2.ixN
    rw [if_pos (by omega), if_pos (by omega)]
    rfl
  simp only [e]
theorem nmlem {i : Nat} {d : D} (h : i < r.length) : @bindK (.nm i) d r N = @setK r i (some (.p d)) N := by
  unfold bindK setK
  show (match (if i < r.length then _ else _) with | some r1 => N.k r1 | none => False) = _
  rw [if_pos h]; rfl
end
theorem var_0 {Ph : Nat → List D → Rs} {d : D} {r : Ev} {q : D → Bool → Ev → Prop} {E : XK} : (@wp (ev Ph (.var 0) (some (.p d) :: r)) ⟨q⟩ E) = (q d false (some (.p d) :: r)) := id rfl
theorem set_0 {y s : Option Sl} {r : Ev} {k : Ev → Prop} : (@setK (y :: r) 0 s ⟨k⟩) = (k (s :: r)) := id rfl
theorem nm_0 {y : Option Sl} {d : D} {r : Ev} {K : RK} : (@bindK (.nm 0) d (y :: r) K) = (@setK (y :: r) 0 (some (.p d)) K) := nmlem (by simp only [List.length_cons]; omega)
theorem get_0 {d : D} {r : Ev} {k : D → Prop} : (@getOK (some (.o d) :: r) 0 ⟨k⟩) = (k d) := id rfl
theorem ld_p0 {Ph : Nat → List D → Rs} {own ld : List Nat} {e : CE} {d : D} {r : Ev} {Q : QK} {E : XK} : (@wpM Ph own (0 :: ld) e (some (.p d) :: r) Q E) = (@wpM Ph own ld e (some (.p d) :: r) Q E) := wpM_skip rfl
theorem lf_p0 {ld : List Nat} {d : D} {r : Ev} {K : RK} : (@lendK (0 :: ld) (some (.p d) :: r) K) = (@lendK ld (some (.p d) :: r) K) := id rfl
theorem ld_n0 {Ph : Nat → List D → Rs} {own ld : List Nat} {e : CE} {r : Ev} {Q : QK} {E : XK} : (@wpM Ph own (0 :: ld) e (none :: r) Q E) = (@wpM Ph own ld e (none :: r) Q E) := wpM_skip rfl
theorem lf_n0 {ld : List Nat} {r : Ev} {K : RK} : (@lendK (0 :: ld) (none :: r) K) = (@lendK ld (none :: r) K) := id rfl
theorem ld_f0 {Ph : Nat → List D → Rs} {own ld : List Nat} {e : CE} {d : Nat} {r : Ev} {Q : QK} {E : XK} : (@wpM Ph own (0 :: ld) e (some (.f d) :: r) Q E) = (@wpM Ph own ld e (some (.f d) :: r) Q E) := wpM_skip rfl
theorem lf_f0 {ld : List Nat} {d : Nat} {r : Ev} {K : RK} : (@lendK (0 :: ld) (some (.f d) :: r) K) = (@lendK ld (some (.f d) :: r) K) := id rfl
theorem ld_o0 {Ph : Nat → List D → Rs} {own ld : List Nat} {e : CE} {d : D} {r : Ev} {Q : QK} {E : XK} : (@wpM Ph own (0 :: ld) e (some (.o d) :: r) Q E) = (@wpM Ph (own ++ [0]) ld e (some (.o d) :: r) Q E) := wpM_own
theorem lf_o0 {ld : List Nat} {d : D} {r : Ev} {K : RK} : (@lendK (0 :: ld) (some (.o d) :: r) K) = (@lendK ld (some (.p d) :: r) K) := id rfl
theorem un_0 {ld : List Nat} {d : D} {r r1 : Ev} {K : RK} : (@unlK (some (.o d) :: r) r1 (0 :: ld) K) = (@setK r1 0 (some (.o d)) ⟨fun r2 => @unlK (some (.o d) :: r) r2 ld K⟩) := id rfl
theorem fn_0 {f : Nat} {r : Ev} {k : Nat → Prop} : (@getFK (some (.f f) :: r) 0 ⟨k⟩) = (k f) := id rfl
theorem var_1 {Ph : Nat → List D → Rs} {x0 : Option Sl} {d : D} {r : Ev} {q : D → Bool → Ev → Prop} {E : XK} : (@wp (ev Ph (.var 1) (x0 :: some (.p d) :: r)) ⟨q⟩ E) = (q d false (x0 :: some (.p d) :: r)) := id rfl
theorem set_1 {x0 : Option Sl} {y s : Option Sl} {r : Ev} {k : Ev → Prop} : (@setK (x0 :: y :: r) 1 s ⟨k⟩) = (k (x0 :: s :: r)) := id rfl
theorem nm_1 {x0 : Option Sl} {y : Option Sl} {d : D} {r : Ev} {K : RK} : (@bindK (.nm 1) d (x0 :: y :: r) K) = (@setK (x0 :: y :: r) 1 (some (.p d)) K) := nmlem (by simp only [List.length_cons]; omega)
theorem get_1 {x0 : Option Sl} {d : D} {r : Ev} {k : D → Prop} : (@getOK (x0 :: some (.o d) :: r) 1 ⟨k⟩) = (k d) := id rfl
theorem ld_p1 {Ph : Nat → List D → Rs} {own ld : List Nat} {e : CE} {x0 : Option Sl} {d : D} {r : Ev} {Q : QK} {E : XK} : (@wpM Ph own (1 :: ld) e (x0 :: some (.p d) :: r) Q E) = (@wpM Ph own ld e (x0 :: some (.p d) :: r) Q E) := wpM_skip rfl
theorem lf_p1 {ld : List Nat} {x0 : Option Sl} {d : D} {r : Ev} {K : RK} : (@lendK (1 :: ld) (x0 :: some (.p d) :: r) K) = (@lendK ld (x0 :: some (.p d) :: r) K) := id rfl
theorem ld_n1 {Ph : Nat → List D → Rs} {own ld : List Nat} {e : CE} {x0 : Option Sl} {r : Ev} {Q : QK} {E : XK} : (@wpM Ph own (1 :: ld) e (x0 :: none :: r) Q E) = (@wpM Ph own ld e (x0 :: none :: r) Q E) := wpM_skip rfl
theorem lf_n1 {ld : List Nat} {x0 : Option Sl} {r : Ev} {K : RK} : (@lendK (1 :: ld) (x0 :: none :: r) K) = (@lendK ld (x0 :: none :: r) K) := id rfl
theorem ld_f1 {Ph : Nat → List D → Rs} {own ld : List Nat} {e : CE} {x0 : Option Sl} {d : Nat} {r : Ev} {Q : QK} {E : XK} : (@wpM Ph own (1 :: ld) e (x0 :: some (.f d) :: r) Q E) = (@wpM Ph own ld e (x0 :: some (.f d) :: r) Q E) := wpM_skip rfl
theorem lf_f1 {ld : List Nat} {x0 : Option Sl} {d : Nat} {r : Ev} {K : RK} : (@lendK (1 :: ld) (x0 :: some (.f d) :: r) K) = (@lendK ld (x0 :: some (.f d) :: r) K) := id rfl
theorem ld_o1 {Ph : Nat → List D → Rs} {own ld : List Nat} {e : CE} {x0 : Option Sl} {d : D} {r : Ev} {Q : QK} {E : XK} : (@wpM Ph own (1 :: ld) e (x0 :: some (.o d) :: r) Q E) = (@wpM Ph (own ++ [1]) ld e (x0 :: some (.o d) :: r) Q E) := wpM_own
theorem lf_o1 {ld : List Nat} {x0 : Option Sl} {d : D} {r : Ev} {K : RK} : (@lendK (1 :: ld) (x0 :: some (.o d) :: r) K) = (@lendK ld (x0 :: some (.p d) :: r) K) := id rfl
theorem un_1 {ld : List Nat} {x0 : Option Sl} {d : D} {r r1 : Ev} {K : RK} : (@unlK (x0 :: some (.o d) :: r) r1 (1 :: ld) K) = (@setK r1 1 (some (.o d)) ⟨fun r2 => @unlK (x0 :: some (.o d) :: r) r2 ld K⟩) := id rfl
theorem fn_1 {x0 : Option Sl} {f : Nat} {r : Ev} {k : Nat → Prop} : (@getFK (x0 :: some (.f f) :: r) 1 ⟨k⟩) = (k f) := id rfl
theorem var_2 {Ph : Nat → List D → Rs} {x0 x1 : Option Sl} {d : D} {r : Ev} {q : D → Bool → Ev → Prop} {E : XK} : (@wp (ev Ph (.var 2) (x0 :: x1 :: some (.p d) :: r)) ⟨q⟩ E) = (q d false (x0 :: x1 :: some (.p d) :: r)) := id rfl
theorem set_2 {x0 x1 : Option Sl} {y s : Option Sl} {r : Ev} {k : Ev → Prop} : (@setK (x0 :: x1 :: y :: r) 2 s ⟨k⟩) = (k (x0 :: x1 :: s :: r)) := id rfl
theorem nm_2 {x0 x1 : Option Sl} {y : Option Sl} {d : D} {r : Ev} {K : RK} : (@bindK (.nm 2) d (x0 :: x1 :: y :: r) K) = (@setK (x0 :: x1 :: y :: r) 2 (some (.p d)) K) := nmlem (by simp only [List.length_cons]; omega)
theorem get_2 {x0 x1 : Option Sl} {d : D} {r : Ev} {k : D → Prop} : (@getOK (x0 :: x1 :: some (.o d) :: r) 2 ⟨k⟩) = (k d) := id rfl
theorem ld_p2 {Ph : Nat → List D → Rs} {own ld : List Nat} {e : CE} {x0 x1 : Option Sl} {d : D} {r : Ev} {Q : QK} {E : XK} : (@wpM Ph own (2 :: ld) e (x0 :: x1 :: some (.p d) :: r) Q E) = (@wpM Ph own ld e (x0 :: x1 :: some (.p d) :: r) Q E) := wpM_skip rfl
theorem lf_p2 {ld : List Nat} {x0 x1 : Option Sl} {d : D} {r : Ev} {K : RK} : (@lendK (2 :: ld) (x0 :: x1 :: some (.p d) :: r) K) = (@lendK ld (x0 :: x1 :: some (.p d) :: r) K) := id rfl
theorem ld_n2 {Ph : Nat → List D → Rs} {own ld : List Nat} {e : CE} {x0 x1 : Option Sl} {r : Ev} {Q : QK} {E : XK} : (@wpM Ph own (2 :: ld) e (x0 :: x1 :: none :: r) Q E) = (@wpM Ph own ld e (x0 :: x1 :: none :: r) Q E) := wpM_skip rfl
theorem lf_n2 {ld : List Nat} {x0 x1 : Option Sl} {r : Ev} {K : RK} : (@lendK (2 :: ld) (x0 :: x1 :: none :: r) K) = (@lendK ld (x0 :: x1 :: none :: r) K) := id rfl
theorem ld_f2 {Ph : Nat → List D → Rs} {own ld : List Nat} {e : CE} {x0 x1 : Option Sl} {d : Nat} {r : Ev} {Q : QK} {E : XK} : (@wpM Ph own (2 :: ld) e (x0 :: x1 :: some (.f d) :: r) Q E) = (@wpM Ph own ld e (x0 :: x1 :: some (.f d) :: r) Q E) := wpM_skip rfl
theorem lf_f2 {ld : List Nat} {x0 x1 : Option Sl} {d : Nat} {r : Ev} {K : RK} : (@lendK (2 :: ld) (x0 :: x1 :: some (.f d) :: r) K) = (@lendK ld (x0 :: x1 :: some (.f d) :: r) K) := id rfl
theorem ld_o2 {Ph : Nat → List D → Rs} {own ld : List Nat} {e : CE} {x0 x1 : Option Sl} {d : D} {r : Ev} {Q : QK} {E : XK} : (@wpM Ph own (2 :: ld) e (x0 :: x1 :: some (.o d) :: r) Q E) = (@wpM Ph (own ++ [2]) ld e (x0 :: x1 :: some (.o d) :: r) Q E) := wpM_own
theorem lf_o2 {ld : List Nat} {x0 x1 : Option Sl} {d : D} {r : Ev} {K : RK} : (@lendK (2 :: ld) (x0 :: x1 :: some (.o d) :: r) K) = (@lendK ld (x0 :: x1 :: some (.p d) :: r) K) := id rfl
theorem un_2 {ld : List Nat} {x0 x1 : Option Sl} {d : D} {r r1 : Ev} {K : RK} : (@unlK (x0 :: x1 :: some (.o d) :: r) r1 (2 :: ld) K) = (@setK r1 2 (some (.o d)) ⟨fun r2 => @unlK (x0 :: x1 :: some (.o d) :: r) r2 ld K⟩) := id rfl
theorem fn_2 {x0 x1 : Option Sl} {f : Nat} {r : Ev} {k : Nat → Prop} : (@getFK (x0 :: x1 :: some (.f f) :: r) 2 ⟨k⟩) = (k f) := id rfl
theorem var_3 {Ph : Nat → List D → Rs} {x0 x1 x2 : Option Sl} {d : D} {r : Ev} {q : D → Bool → Ev → Prop} {E : XK} : (@wp (ev Ph (.var 3) (x0 :: x1 :: x2 :: some (.p d) :: r)) ⟨q⟩ E) = (q d false (x0 :: x1 :: x2 :: some (.p d) :: r)) := id rfl
theorem set_3 {x0 x1 x2 : Option Sl} {y s : Option Sl} {r : Ev} {k : Ev → Prop} : (@setK (x0 :: x1 :: x2 :: y :: r) 3 s ⟨k⟩) = (k (x0 :: x1 :: x2 :: s :: r)) := id rfl
theorem nm_3 {x0 x1 x2 : Option Sl} {y : Option Sl} {d : D} {r : Ev} {K : RK} : (@bindK (.nm 3) d (x0 :: x1 :: x2 :: y :: r) K) = (@setK (x0 :: x1 :: x2 :: y :: r) 3 (some (.p d)) K) := nmlem (by simp only [List.length_cons]; omega)
theorem get_3 {x0 x1 x2 : Option Sl} {d : D} {r : Ev} {k : D → Prop} : (@getOK (x0 :: x1 :: x2 :: some (.o d) :: r) 3 ⟨k⟩) = (k d) := id rfl
theorem ld_p3 {Ph : Nat → List D → Rs} {own ld : List Nat} {e : CE} {x0 x1 x2 : Option Sl} {d : D} {r : Ev} {Q : QK} {E : XK} : (@wpM Ph own (3 :: ld) e (x0 :: x1 :: x2 :: some (.p d) :: r) Q E) = (@wpM Ph own ld e (x0 :: x1 :: x2 :: some (.p d) :: r) Q E) := wpM_skip rfl
theorem lf_p3 {ld : List Nat} {x0 x1 x2 : Option Sl} {d : D} {r : Ev} {K : RK} : (@lendK (3 :: ld) (x0 :: x1 :: x2 :: some (.p d) :: r) K) = (@lendK ld (x0 :: x1 :: x2 :: some (.p d) :: r) K) := id rfl
theorem ld_n3 {Ph : Nat → List D → Rs} {own ld : List Nat} {e : CE} {x0 x1 x2 : Option Sl} {r : Ev} {Q : QK} {E : XK} : (@wpM Ph own (3 :: ld) e (x0 :: x1 :: x2 :: none :: r) Q E) = (@wpM Ph own ld e (x0 :: x1 :: x2 :: none :: r) Q E) := wpM_skip rfl
theorem lf_n3 {ld : List Nat} {x0 x1 x2 : Option Sl} {r : Ev} {K : RK} : (@lendK (3 :: ld) (x0 :: x1 :: x2 :: none :: r) K) = (@lendK ld (x0 :: x1 :: x2 :: none :: r) K) := id rfl
theorem ld_f3 {Ph : Nat → List D → Rs} {own ld : List Nat} {e : CE} {x0 x1 x2 : Option Sl} {d : Nat} {r : Ev} {Q : QK} {E : XK} : (@wpM Ph own (3 :: ld) e (x0 :: x1 :: x2 :: some (.f d) :: r) Q E) = (@wpM Ph own ld e (x0 :: x1 :: x2 :: some (.f d) :: r) Q E) := wpM_skip rfl
theorem lf_f3 {ld : List Nat} {x0 x1 x2 : Option Sl} {d : Nat} {r : Ev} {K : RK} : (@lendK (3 :: ld) (x0 :: x1 :: x2 :: some (.f d) :: r) K) = (@lendK ld (x0 :: x1 :: x2 :: some (.f d) :: r) K) := id rfl
theorem ld_o3 {Ph : Nat → List D → Rs} {own ld : List Nat} {e : CE} {x0 x1 x2 : Option Sl} {d : D} {r : Ev} {Q : QK} {E : XK} : (@wpM Ph own (3 :: ld) e (x0 :: x1 :: x2 :: some (.o d) :: r) Q E) = (@wpM Ph (own ++ [3]) ld e (x0 :: x1 :: x2 :: some (.o d) :: r) Q E) := wpM_own
theorem lf_o3 {ld : List Nat} {x0 x1 x2 : Option Sl} {d : D} {r : Ev} {K : RK} : (@lendK (3 :: ld) (x0 :: x1 :: x2 :: some (.o d) :: r) K) = (@lendK ld (x0 :: x1 :: x2 :: some (.p d) :: r) K) := id rfl
theorem un_3 {ld : List Nat} {x0 x1 x2 : Option Sl} {d : D} {r r1 : Ev} {K : RK} : (@unlK (x0 :: x1 :: x2 :: some (.o d) :: r) r1 (3 :: ld) K) = (@setK r1 3 (some (.o d)) ⟨fun r2 => @unlK (x0 :: x1 :: x2 :: some (.o d) :: r) r2 ld K⟩) := id rfl
theorem fn_3 {x0 x1 x2 : Option Sl} {f : Nat} {r : Ev} {k : Nat → Prop} : (@getFK (x0 :: x1 :: x2 :: some (.f f) :: r) 3 ⟨k⟩) = (k f) := id rfl
theorem var_4 {Ph : Nat → List D → Rs} {x0 x1 x2 x3 : Option Sl} {d : D} {r : Ev} {q : D → Bool → Ev → Prop} {E : XK} : (@wp (ev Ph (.var 4) (x0 :: x1 :: x2 :: x3 :: some (.p d) :: r)) ⟨q⟩ E) = (q d false (x0 :: x1 :: x2 :: x3 :: some (.p d) :: r)) := id rfl
theorem set_4 {x0 x1 x2 x3 : Option Sl} {y s : Option Sl} {r : Ev} {k : Ev → Prop} : (@setK (x0 :: x1 :: x2 :: x3 :: y :: r) 4 s ⟨k⟩) = (k (x0 :: x1 :: x2 :: x3 :: s :: r)) := id rfl
theorem nm_4 {x0 x1 x2 x3 : Option Sl} {y : Option Sl} {d : D} {r : Ev} {K : RK} : (@bindK (.nm 4) d (x0 :: x1 :: x2 :: x3 :: y :: r) K) = (@setK (x0 :: x1 :: x2 :: x3 :: y :: r) 4 (some (.p d)) K) := nmlem (by simp only [List.length_cons]; omega)
theorem get_4 {x0 x1 x2 x3 : Option Sl} {d : D} {r : Ev} {k : D → Prop} : (@getOK (x0 :: x1 :: x2 :: x3 :: some (.o d) :: r) 4 ⟨k⟩) = (k d) := id rfl
theorem ld_p4 {Ph : Nat → List D → Rs} {own ld : List Nat} {e : CE} {x0 x1 x2 x3 : Option Sl} {d : D} {r : Ev} {Q : QK} {E : XK} : (@wpM Ph own (4 :: ld) e (x0 :: x1 :: x2 :: x3 :: some (.p d) :: r) Q E) = (@wpM Ph own ld e (x0 :: x1 :: x2 :: x3 :: some (.p d) :: r) Q E) := wpM_skip rfl
theorem lf_p4 {ld : List Nat} {x0 x1 x2 x3 : Option Sl} {d : D} {r : Ev} {K : RK} : (@lendK (4 :: ld) (x0 :: x1 :: x2 :: x3 :: some (.p d) :: r) K) = (@lendK ld (x0 :: x1 :: x2 :: x3 :: some (.p d) :: r) K) := id rfl
theorem ld_n4 {Ph : Nat → List D → Rs} {own ld : List Nat} {e : CE} {x0 x1 x2 x3 : Option Sl} {r : Ev} {Q : QK} {E : XK} : (@wpM Ph own (4 :: ld) e (x0 :: x1 :: x2 :: x3 :: none :: r) Q E) = (@wpM Ph own ld e (x0 :: x1 :: x2 :: x3 :: none :: r) Q E) := wpM_skip rfl
theorem lf_n4 {ld : List Nat} {x0 x1 x2 x3 : Option Sl} {r : Ev} {K : RK} : (@lendK (4 :: ld) (x0 :: x1 :: x2 :: x3 :: none :: r) K) = (@lendK ld (x0 :: x1 :: x2 :: x3 :: none :: r) K) := id rfl
theorem ld_f4 {Ph : Nat → List D → Rs} {own ld : List Nat} {e : CE} {x0 x1 x2 x3 : Option Sl} {d : Nat} {r : Ev} {Q : QK} {E : XK} : (@wpM Ph own (4 :: ld) e (x0 :: x1 :: x2 :: x3 :: some (.f d) :: r) Q E) = (@wpM Ph own ld e (x0 :: x1 :: x2 :: x3 :: some (.f d) :: r) Q E) := wpM_skip rfl
theorem lf_f4 {ld : List Nat} {x0 x1 x2 x3 : Option Sl} {d : Nat} {r : Ev} {K : RK} : (@lendK (4 :: ld) (x0 :: x1 :: x2 :: x3 :: some (.f d) :: r) K) = (@lendK ld (x0 :: x1 :: x2 :: x3 :: some (.f d) :: r) K) := id rfl
theorem ld_o4 {Ph : Nat → List D → Rs} {own ld : List Nat} {e : CE} {x0 x1 x2 x3 : Option Sl} {d : D} {r : Ev} {Q : QK} {E : XK} : (@wpM Ph own (4 :: ld) e (x0 :: x1 :: x2 :: x3 :: some (.o d) :: r) Q E) = (@wpM Ph (own ++ [4]) ld e (x0 :: x1 :: x2 :: x3 :: some (.o d) :: r) Q E) := wpM_own
theorem lf_o4 {ld : List Nat} {x0 x1 x2 x3 : Option Sl} {d : D} {r : Ev} {K : RK} : (@lendK (4 :: ld) (x0 :: x1 :: x2 :: x3 :: some (.o d) :: r) K) = (@lendK ld (x0 :: x1 :: x2 :: x3 :: some (.p d) :: r) K) := id rfl
theorem un_4 {ld : List Nat} {x0 x1 x2 x3 : Option Sl} {d : D} {r r1 : Ev} {K : RK} : (@unlK (x0 :: x1 :: x2 :: x3 :: some (.o d) :: r) r1 (4 :: ld) K) = (@setK r1 4 (some (.o d)) ⟨fun r2 => @unlK (x0 :: x1 :: x2 :: x3 :: some (.o d) :: r) r2 ld K⟩) := id rfl
theorem fn_4 {x0 x1 x2 x3 : Option Sl} {f : Nat} {r : Ev} {k : Nat → Prop} : (@getFK (x0 :: x1 :: x2 :: x3 :: some (.f f) :: r) 4 ⟨k⟩) = (k f) := id rfl
theorem var_5 {Ph : Nat → List D → Rs} {x0 x1 x2 x3 x4 : Option Sl} {d : D} {r : Ev} {q : D → Bool → Ev → Prop} {E : XK} : (@wp (ev Ph (.var 5) (x0 :: x1 :: x2 :: x3 :: x4 :: some (.p d) :: r)) ⟨q⟩ E) = (q d false (x0 :: x1 :: x2 :: x3 :: x4 :: some (.p d) :: r)) := id rfl
theorem set_5 {x0 x1 x2 x3 x4 : Option Sl} {y s : Option Sl} {r : Ev} {k : Ev → Prop} : (@setK (x0 :: x1 :: x2 :: x3 :: x4 :: y :: r) 5 s ⟨k⟩) = (k (x0 :: x1 :: x2 :: x3 :: x4 :: s :: r)) := id rfl
theorem nm_5 {x0 x1 x2 x3 x4 : Option Sl} {y : Option Sl} {d : D} {r : Ev} {K : RK} : (@bindK (.nm 5) d (x0 :: x1 :: x2 :: x3 :: x4 :: y :: r) K) = (@setK (x0 :: x1 :: x2 :: x3 :: x4 :: y :: r) 5 (some (.p d)) K) := nmlem (by simp only [List.length_cons]; omega)
theorem get_5 {x0 x1 x2 x3 x4 : Option Sl} {d : D} {r : Ev} {k : D → Prop} : (@getOK (x0 :: x1 :: x2 :: x3 :: x4 :: some (.o d) :: r) 5 ⟨k⟩) = (k d) := id rfl
theorem ld_p5 {Ph : Nat → List D → Rs} {own ld : List Nat} {e : CE} {x0 x1 x2 x3 x4 : Option Sl} {d : D} {r : Ev} {Q : QK} {E : XK} : (@wpM Ph own (5 :: ld) e (x0 :: x1 :: x2 :: x3 :: x4 :: some (.p d) :: r) Q E) = (@wpM Ph own ld e (x0 :: x1 :: x2 :: x3 :: x4 :: some (.p d) :: r) Q E) := wpM_skip rfl
theorem lf_p5 {ld : List Nat} {x0 x1 x2 x3 x4 : Option Sl} {d : D} {r : Ev} {K : RK} : (@lendK (5 :: ld) (x0 :: x1 :: x2 :: x3 :: x4 :: some (.p d) :: r) K) = (@lendK ld (x0 :: x1 :: x2 :: x3 :: x4 :: some (.p d) :: r) K) := id rfl
theorem ld_n5 {Ph : Nat → List D → Rs} {own ld : List Nat} {e : CE} {x0 x1 x2 x3 x4 : Option Sl} {r : Ev} {Q : QK} {E : XK} : (@wpM Ph own (5 :: ld) e (x0 :: x1 :: x2 :: x3 :: x4 :: none :: r) Q E) = (@wpM Ph own ld e (x0 :: x1 :: x2 :: x3 :: x4 :: none :: r) Q E) := wpM_skip rfl
theorem lf_n5 {ld : List Nat} {x0 x1 x2 x3 x4 : Option Sl} {r : Ev} {K : RK} : (@lendK (5 :: ld) (x0 :: x1 :: x2 :: x3 :: x4 :: none :: r) K) = (@lendK ld (x0 :: x1 :: x2 :: x3 :: x4 :: none :: r) K) := id rfl
theorem ld_f5 {Ph : Nat → List D → Rs} {own ld : List Nat} {e : CE} {x0 x1 x2 x3 x4 : Option Sl} {d : Nat} {r : Ev} {Q : QK} {E : XK} : (@wpM Ph own (5 :: ld) e (x0 :: x1 :: x2 :: x3 :: x4 :: some (.f d) :: r) Q E) = (@wpM Ph own ld e (x0 :: x1 :: x2 :: x3 :: x4 :: some (.f d) :: r) Q E) := wpM_skip rfl
theorem lf_f5 {ld : List Nat} {x0 x1 x2 x3 x4 : Option Sl} {d : Nat} {r : Ev} {K : RK} : (@lendK (5 :: ld) (x0 :: x1 :: x2 :: x3 :: x4 :: some (.f d) :: r) K) = (@lendK ld (x0 :: x1 :: x2 :: x3 :: x4 :: some (.f d) :: r) K) := id rfl
theorem ld_o5 {Ph : Nat → List D → Rs} {own ld : List Nat} {e : CE} {x0 x1 x2 x3 x4 : Option Sl} {d : D} {r : Ev} {Q : QK} {E : XK} : (@wpM Ph own (5 :: ld) e (x0 :: x1 :: x2 :: x3 :: x4 :: some (.o d) :: r) Q E) = (@wpM Ph (own ++ [5]) ld e (x0 :: x1 :: x2 :: x3 :: x4 :: some (.o d) :: r) Q E) := wpM_own
theorem lf_o5 {ld : List Nat} {x0 x1 x2 x3 x4 : Option Sl} {d : D} {r : Ev} {K : RK} : (@lendK (5 :: ld) (x0 :: x1 :: x2 :: x3 :: x4 :: some (.o d) :: r) K) = (@lendK ld (x0 :: x1 :: x2 :: x3 :: x4 :: some (.p d) :: r) K) := id rfl
theorem un_5 {ld : List Nat} {x0 x1 x2 x3 x4 : Option Sl} {d : D} {r r1 : Ev} {K : RK} : (@unlK (x0 :: x1 :: x2 :: x3 :: x4 :: some (.o d) :: r) r1 (5 :: ld) K) = (@setK r1 5 (some (.o d)) ⟨fun r2 => @unlK (x0 :: x1 :: x2 :: x3 :: x4 :: some (.o d) :: r) r2 ld K⟩) := id rfl
theorem fn_5 {x0 x1 x2 x3 x4 : Option Sl} {f : Nat} {r : Ev} {k : Nat → Prop} : (@getFK (x0 :: x1 :: x2 :: x3 :: x4 :: some (.f f) :: r) 5 ⟨k⟩) = (k f) := id rfl
theorem var_6 {Ph : Nat → List D → Rs} {x0 x1 x2 x3 x4 x5 : Option Sl} {d : D} {r : Ev} {q : D → Bool → Ev → Prop} {E : XK} : (@wp (ev Ph (.var 6) (x0 :: x1 :: x2 :: x3 :: x4 :: x5 :: some (.p d) :: r)) ⟨q⟩ E) = (q d false (x0 :: x1 :: x2 :: x3 :: x4 :: x5 :: some (.p d) :: r)) := id rfl
theorem set_6 {x0 x1 x2 x3 x4 x5 : Option Sl} {y s : Option Sl} {r : Ev} {k : Ev → Prop} : (@setK (x0 :: x1 :: x2 :: x3 :: x4 :: x5 :: y :: r) 6 s ⟨k⟩) = (k (x0 :: x1 :: x2 :: x3 :: x4 :: x5 :: s :: r)) := id rfl
theorem nm_6 {x0 x1 x2 x3 x4 x5 : Option Sl} {y : Option Sl} {d : D} {r : Ev} {K : RK} : (@bindK (.nm 6) d (x0 :: x1 :: x2 :: x3 :: x4 :: x5 :: y :: r) K) = (@setK (x0 :: x1 :: x2 :: x3 :: x4 :: x5 :: y :: r) 6 (some (.p d)) K) := nmlem (by simp only [List.length_cons]; omega)
theorem get_6 {x0 x1 x2 x3 x4 x5 : Option Sl} {d : D} {r : Ev} {k : D → Prop} : (@getOK (x0 :: x1 :: x2 :: x3 :: x4 :: x5 :: some (.o d) :: r) 6 ⟨k⟩) = (k d) := id rfl
theorem ld_p6 {Ph : Nat → List D → Rs} {own ld : List Nat} {e : CE} {x0 x1 x2 x3 x4 x5 : Option Sl} {d : D} {r : Ev} {Q : QK} {E : XK} : (@wpM Ph own (6 :: ld) e (x0 :: x1 :: x2 :: x3 :: x4 :: x5 :: some (.p d) :: r) Q E) = (@wpM Ph own ld e (x0 :: x1 :: x2 :: x3 :: x4 :: x5 :: some (.p d) :: r) Q E) := wpM_skip rfl
theorem lf_p6 {ld : List Nat} {x0 x1 x2 x3 x4 x5 : Option Sl} {d : D} {r : Ev} {K : RK} : (@lendK (6 :: ld) (x0 :: x1 :: x2 :: x3 :: x4 :: x5 :: some (.p d) :: r) K) = (@lendK ld (x0 :: x1 :: x2 :: x3 :: x4 :: x5 :: some (.p d) :: r) K) := id rfl
theorem ld_n6 {Ph : Nat → List D → Rs} {own ld : List Nat} {e : CE} {x0 x1 x2 x3 x4 x5 : Option Sl} {r : Ev} {Q : QK} {E : XK} : (@wpM Ph own (6 :: ld) e (x0 :: x1 :: x2 :: x3 :: x4 :: x5 :: none :: r) Q E) = (@wpM Ph own ld e (x0 :: x1 :: x2 :: x3 :: x4 :: x5 :: none :: r) Q E) := wpM_skip rfl
theorem lf_n6 {ld : List Nat} {x0 x1 x2 x3 x4 x5 : Option Sl} {r : Ev} {K : RK} : (@lendK (6 :: ld) (x0 :: x1 :: x2 :: x3 :: x4 :: x5 :: none :: r) K) = (@lendK ld (x0 :: x1 :: x2 :: x3 :: x4 :: x5 :: none :: r) K) := id rfl
theorem ld_f6 {Ph : Nat → List D → Rs} {own ld : List Nat} {e : CE} {x0 x1 x2 x3 x4 x5 : Option Sl} {d : Nat} {r : Ev} {Q : QK} {E : XK} : (@wpM Ph own (6 :: ld) e (x0 :: x1 :: x2 :: x3 :: x4 :: x5 :: some (.f d) :: r) Q E) = (@wpM Ph own ld e (x0 :: x1 :: x2 :: x3 :: x4 :: x5 :: some (.f d) :: r) Q E) := wpM_skip rfl
theorem lf_f6 {ld : List Nat} {x0 x1 x2 x3 x4 x5 : Option Sl} {d : Nat} {r : Ev} {K : RK} : (@lendK (6 :: ld) (x0 :: x1 :: x2 :: x3 :: x4 :: x5 :: some (.f d) :: r) K) = (@lendK ld (x0 :: x1 :: x2 :: x3 :: x4 :: x5 :: some (.f d) :: r) K) := id rfl
theorem ld_o6 {Ph : Nat → List D → Rs} {own ld : List Nat} {e : CE} {x0 x1 x2 x3 x4 x5 : Option Sl} {d : D} {r : Ev} {Q : QK} {E : XK} : (@wpM Ph own (6 :: ld) e (x0 :: x1 :: x2 :: x3 :: x4 :: x5 :: some (.o d) :: r) Q E) = (@wpM Ph (own ++ [6]) ld e (x0 :: x1 :: x2 :: x3 :: x4 :: x5 :: some (.o d) :: r) Q E) := wpM_own
theorem lf_o6 {ld : List Nat} {x0 x1 x2 x3 x4 x5 : Option Sl} {d : D} {r : Ev} {K : RK} : (@lendK (6 :: ld) (x0 :: x1 :: x2 :: x3 :: x4 :: x5 :: some (.o d) :: r) K) = (@lendK ld (x0 :: x1 :: x2 :: x3 :: x4 :: x5 :: some (.p d) :: r) K) := id rfl
theorem un_6 {ld : List Nat} {x0 x1 x2 x3 x4 x5 : Option Sl} {d : D} {r r1 : Ev} {K : RK} : (@unlK (x0 :: x1 :: x2 :: x3 :: x4 :: x5 :: some (.o d) :: r) r1 (6 :: ld) K) = (@setK r1 6 (some (.o d)) ⟨fun r2 => @unlK (x0 :: x1 :: x2 :: x3 :: x4 :: x5 :: some (.o d) :: r) r2 ld K⟩) := id rfl
theorem fn_6 {x0 x1 x2 x3 x4 x5 : Option Sl} {f : Nat} {r : Ev} {k : Nat → Prop} : (@getFK (x0 :: x1 :: x2 :: x3 :: x4 :: x5 :: some (.f f) :: r) 6 ⟨k⟩) = (k f) := id rfl
theorem var_7 {Ph : Nat → List D → Rs} {x0 x1 x2 x3 x4 x5 x6 : Option Sl} {d : D} {r : Ev} {q : D → Bool → Ev → Prop} {E : XK} : (@wp (ev Ph (.var 7) (x0 :: x1 :: x2 :: x3 :: x4 :: x5 :: x6 :: some (.p d) :: r)) ⟨q⟩ E) = (q d false (x0 :: x1 :: x2 :: x3 :: x4 :: x5 :: x6 :: some (.p d) :: r)) := id rfl
theorem set_7 {x0 x1 x2 x3 x4 x5 x6 : Option Sl} {y s : Option Sl} {r : Ev} {k : Ev → Prop} : (@setK (x0 :: x1 :: x2 :: x3 :: x4 :: x5 :: x6 :: y :: r) 7 s ⟨k⟩) = (k (x0 :: x1 :: x2 :: x3 :: x4 :: x5 :: x6 :: s :: r)) := id rfl
theorem nm_7 {x0 x1 x2 x3 x4 x5 x6 : Option Sl} {y : Option Sl} {d : D} {r : Ev} {K : RK} : (@bindK (.nm 7) d (x0 :: x1 :: x2 :: x3 :: x4 :: x5 :: x6 :: y :: r) K) = (@setK (x0 :: x1 :: x2 :: x3 :: x4 :: x5 :: x6 :: y :: r) 7 (some (.p d)) K) := nmlem (by simp only [List.length_cons]; omega)
theorem get_7 {x0 x1 x2 x3 x4 x5 x6 : Option Sl} {d : D} {r : Ev} {k : D → Prop} : (@getOK (x0 :: x1 :: x2 :: x3 :: x4 :: x5 :: x6 :: some (.o d) :: r) 7 ⟨k⟩) = (k d) := id rfl
theorem ld_p7 {Ph : Nat → List D → Rs} {own ld : List Nat} {e : CE} {x0 x1 x2 x3 x4 x5 x6 : Option Sl} {d : D} {r : Ev} {Q : QK} {E : XK} : (@wpM Ph own (7 :: ld) e (x0 :: x1 :: x2 :: x3 :: x4 :: x5 :: x6 :: some (.p d) :: r) Q E) = (@wpM Ph own ld e (x0 :: x1 :: x2 :: x3 :: x4 :: x5 :: x6 :: some (.p d) :: r) Q E) := wpM_skip rfl
theorem lf_p7 {ld : List Nat} {x0 x1 x2 x3 x4 x5 x6 : Option Sl} {d : D} {r : Ev} {K : RK} : (@lendK (7 :: ld) (x0 :: x1 :: x2 :: x3 :: x4 :: x5 :: x6 :: some (.p d) :: r) K) = (@lendK ld (x0 :: x1 :: x2 :: x3 :: x4 :: x5 :: x6 :: some (.p d) :: r) K) := id rfl
theorem ld_n7 {Ph : Nat → List D → Rs} {own ld : List Nat} {e : CE} {x0 x1 x2 x3 x4 x5 x6 : Option Sl} {r : Ev} {Q : QK} {E : XK} : (@wpM Ph own (7 :: ld) e (x0 :: x1 :: x2 :: x3 :: x4 :: x5 :: x6 :: none :: r) Q E) = (@wpM Ph own ld e (x0 :: x1 :: x2 :: x3 :: x4 :: x5 :: x6 :: none :: r) Q E) := wpM_skip rfl
theorem lf_n7 {ld : List Nat} {x0 x1 x2 x3 x4 x5 x6 : Option Sl} {r : Ev} {K : RK} : (@lendK (7 :: ld) (x0 :: x1 :: x2 :: x3 :: x4 :: x5 :: x6 :: none :: r) K) = (@lendK ld (x0 :: x1 :: x2 :: x3 :: x4 :: x5 :: x6 :: none :: r) K) := id rfl
theorem ld_f7 {Ph : Nat → List D → Rs} {own ld : List Nat} {e : CE} {x0 x1 x2 x3 x4 x5 x6 : Option Sl} {d : Nat} {r : Ev} {Q : QK} {E : XK} : (@wpM Ph own (7 :: ld) e (x0 :: x1 :: x2 :: x3 :: x4 :: x5 :: x6 :: some (.f d) :: r) Q E) = (@wpM Ph own ld e (x0 :: x1 :: x2 :: x3 :: x4 :: x5 :: x6 :: some (.f d) :: r) Q E) := wpM_skip rfl
theorem lf_f7 {ld : List Nat} {x0 x1 x2 x3 x4 x5 x6 : Option Sl} {d : Nat} {r : Ev} {K : RK} : (@lendK (7 :: ld) (x0 :: x1 :: x2 :: x3 :: x4 :: x5 :: x6 :: some (.f d) :: r) K) = (@lendK ld (x0 :: x1 :: x2 :: x3 :: x4 :: x5 :: x6 :: some (.f d) :: r) K) := id rfl
theorem ld_o7 {Ph : Nat → List D → Rs} {own ld : List Nat} {e : CE} {x0 x1 x2 x3 x4 x5 x6 : Option Sl} {d : D} {r : Ev} {Q : QK} {E : XK} : (@wpM Ph own (7 :: ld) e (x0 :: x1 :: x2 :: x3 :: x4 :: x5 :: x6 :: some (.o d) :: r) Q E) = (@wpM Ph (own ++ [7]) ld e (x0 :: x1 :: x2 :: x3 :: x4 :: x5 :: x6 :: some (.o d) :: r) Q E) := wpM_own
theorem lf_o7 {ld : List Nat} {x0 x1 x2 x3 x4 x5 x6 : Option Sl} {d : D} {r : Ev} {K : RK} : (@lendK (7 :: ld) (x0 :: x1 :: x2 :: x3 :: x4 :: x5 :: x6 :: some (.o d) :: r) K) = (@lendK ld (x0 :: x1 :: x2 :: x3 :: x4 :: x5 :: x6 :: some (.p d) :: r) K) := id rfl
theorem un_7 {ld : List Nat} {x0 x1 x2 x3 x4 x5 x6 : Option Sl} {d : D} {r r1 : Ev} {K : RK} : (@unlK (x0 :: x1 :: x2 :: x3 :: x4 :: x5 :: x6 :: some (.o d) :: r) r1 (7 :: ld) K) = (@setK r1 7 (some (.o d)) ⟨fun r2 => @unlK (x0 :: x1 :: x2 :: x3 :: x4 :: x5 :: x6 :: some (.o d) :: r) r2 ld K⟩) := id rfl
theorem fn_7 {x0 x1 x2 x3 x4 x5 x6 : Option Sl} {f : Nat} {r : Ev} {k : Nat → Prop} : (@getFK (x0 :: x1 :: x2 :: x3 :: x4 :: x5 :: x6 :: some (.f f) :: r) 7 ⟨k⟩) = (k f) := id rfl
theorem var_8 {Ph : Nat → List D → Rs} {x0 x1 x2 x3 x4 x5 x6 x7 : Option Sl} {d : D} {r : Ev} {q : D → Bool → Ev → Prop} {E : XK} : (@wp (ev Ph (.var 8) (x0 :: x1 :: x2 :: x3 :: x4 :: x5 :: x6 :: x7 :: some (.p d) :: r)) ⟨q⟩ E) = (q d false (x0 :: x1 :: x2 :: x3 :: x4 :: x5 :: x6 :: x7 :: some (.p d) :: r)) := id rfl
theorem set_8 {x0 x1 x2 x3 x4 x5 x6 x7 : Option Sl} {y s : Option Sl} {r : Ev} {k : Ev → Prop} : (@setK (x0 :: x1 :: x2 :: x3 :: x4 :: x5 :: x6 :: x7 :: y :: r) 8 s ⟨k⟩) = (k (x0 :: x1 :: x2 :: x3 :: x4 :: x5 :: x6 :: x7 :: s :: r)) := id rfl
theorem nm_8 {x0 x1 x2 x3 x4 x5 x6 x7 : Option Sl} {y : Option Sl} {d : D} {r : Ev} {K : RK} : (@bindK (.nm 8) d (x0 :: x1 :: x2 :: x3 :: x4 :: x5 :: x6 :: x7 :: y :: r) K) = (@setK (x0 :: x1 :: x2 :: x3 :: x4 :: x5 :: x6 :: x7 :: y :: r) 8 (some (.p d)) K) := nmlem (by simp only [List.length_cons]; omega)
theorem get_8 {x0 x1 x2 x3 x4 x5 x6 x7 : Option Sl} {d : D} {r : Ev} {k : D → Prop} : (@getOK (x0 :: x1 :: x2 :: x3 :: x4 :: x5 :: x6 :: x7 :: some (.o d) :: r) 8 ⟨k⟩) = (k d) := id rfl
theorem ld_p8 {Ph : Nat → List D → Rs} {own ld : List Nat} {e : CE} {x0 x1 x2 x3 x4 x5 x6 x7 : Option Sl} {d : D} {r : Ev} {Q : QK} {E : XK} : (@wpM Ph own (8 :: ld) e (x0 :: x1 :: x2 :: x3 :: x4 :: x5 :: x6 :: x7 :: some (.p d) :: r) Q E) = (@wpM Ph own ld e (x0 :: x1 :: x2 :: x3 :: x4 :: x5 :: x6 :: x7 :: some (.p d) :: r) Q E) := wpM_skip rfl
theorem lf_p8 {ld : List Nat} {x0 x1 x2 x3 x4 x5 x6 x7 : Option Sl} {d : D} {r : Ev} {K : RK} : (@lendK (8 :: ld) (x0 :: x1 :: x2 :: x3 :: x4 :: x5 :: x6 :: x7 :: some (.p d) :: r) K) = (@lendK ld (x0 :: x1 :: x2 :: x3 :: x4 :: x5 :: x6 :: x7 :: some (.p d) :: r) K) := id rfl
theorem ld_n8 {Ph : Nat → List D → Rs} {own ld : List Nat} {e : CE} {x0 x1 x2 x3 x4 x5 x6 x7 : Option Sl} {r : Ev} {Q : QK} {E : XK} : (@wpM Ph own (8 :: ld) e (x0 :: x1 :: x2 :: x3 :: x4 :: x5 :: x6 :: x7 :: none :: r) Q E) = (@wpM Ph own ld e (x0 :: x1 :: x2 :: x3 :: x4 :: x5 :: x6 :: x7 :: none :: r) Q E) := wpM_skip rfl
theorem lf_n8 {ld : List Nat} {x0 x1 x2 x3 x4 x5 x6 x7 : Option Sl} {r : Ev} {K : RK} : (@lendK (8 :: ld) (x0 :: x1 :: x2 :: x3 :: x4 :: x5 :: x6 :: x7 :: none :: r) K) = (@lendK ld (x0 :: x1 :: x2 :: x3 :: x4 :: x5 :: x6 :: x7 :: none :: r) K) := id rfl
theorem ld_f8 {Ph : Nat → List D → Rs} {own ld : List Nat} {e : CE} {x0 x1 x2 x3 x4 x5 x6 x7 : Option Sl} {d : Nat} {r : Ev} {Q : QK} {E : XK} : (@wpM Ph own (8 :: ld) e (x0 :: x1 :: x2 :: x3 :: x4 :: x5 :: x6 :: x7 :: some (.f d) :: r) Q E) = (@wpM Ph own ld e (x0 :: x1 :: x2 :: x3 :: x4 :: x5 :: x6 :: x7 :: some (.f d) :: r) Q E) := wpM_skip rfl
theorem lf_f8 {ld : List Nat} {x0 x1 x2 x3 x4 x5 x6 x7 : Option Sl} {d : Nat} {r : Ev} {K : RK} : (@lendK (8 :: ld) (x0 :: x1 :: x2 :: x3 :: x4 :: x5 :: x6 :: x7 :: some (.f d) :: r) K) = (@lendK ld (x0 :: x1 :: x2 :: x3 :: x4 :: x5 :: x6 :: x7 :: some (.f d) :: r) K) := id rfl
theorem ld_o8 {Ph : Nat → List D → Rs} {own ld : List Nat} {e : CE} {x0 x1 x2 x3 x4 x5 x6 x7 : Option Sl} {d : D} {r : Ev} {Q : QK} {E : XK} : (@wpM Ph own (8 :: ld) e (x0 :: x1 :: x2 :: x3 :: x4 :: x5 :: x6 :: x7 :: some (.o d) :: r) Q E) = (@wpM Ph (own ++ [8]) ld e (x0 :: x1 :: x2 :: x3 :: x4 :: x5 :: x6 :: x7 :: some (.o d) :: r) Q E) := wpM_own
theorem lf_o8 {ld : List Nat} {x0 x1 x2 x3 x4 x5 x6 x7 : Option Sl} {d : D} {r : Ev} {K : RK} : (@lendK (8 :: ld) (x0 :: x1 :: x2 :: x3 :: x4 :: x5 :: x6 :: x7 :: some (.o d) :: r) K) = (@lendK ld (x0 :: x1 :: x2 :: x3 :: x4 :: x5 :: x6 :: x7 :: some (.p d) :: r) K) := id rfl
theorem un_8 {ld : List Nat} {x0 x1 x2 x3 x4 x5 x6 x7 : Option Sl} {d : D} {r r1 : Ev} {K : RK} : (@unlK (x0 :: x1 :: x2 :: x3 :: x4 :: x5 :: x6 :: x7 :: some (.o d) :: r) r1 (8 :: ld) K) = (@setK r1 8 (some (.o d)) ⟨fun r2 => @unlK (x0 :: x1 :: x2 :: x3 :: x4 :: x5 :: x6 :: x7 :: some (.o d) :: r) r2 ld K⟩) := id rfl
theorem fn_8 {x0 x1 x2 x3 x4 x5 x6 x7 : Option Sl} {f : Nat} {r : Ev} {k : Nat → Prop} : (@getFK (x0 :: x1 :: x2 :: x3 :: x4 :: x5 :: x6 :: x7 :: some (.f f) :: r) 8 ⟨k⟩) = (k f) := id rfl
theorem var_9 {Ph : Nat → List D → Rs} {x0 x1 x2 x3 x4 x5 x6 x7 x8 : Option Sl} {d : D} {r : Ev} {q : D → Bool → Ev → Prop} {E : XK} : (@wp (ev Ph (.var 9) (x0 :: x1 :: x2 :: x3 :: x4 :: x5 :: x6 :: x7 :: x8 :: some (.p d) :: r)) ⟨q⟩ E) = (q d false (x0 :: x1 :: x2 :: x3 :: x4 :: x5 :: x6 :: x7 :: x8 :: some (.p d) :: r)) := id rfl
theorem set_9 {x0 x1 x2 x3 x4 x5 x6 x7 x8 : Option Sl} {y s : Option Sl} {r : Ev} {k : Ev → Prop} : (@setK (x0 :: x1 :: x2 :: x3 :: x4 :: x5 :: x6 :: x7 :: x8 :: y :: r) 9 s ⟨k⟩) = (k (x0 :: x1 :: x2 :: x3 :: x4 :: x5 :: x6 :: x7 :: x8 :: s :: r)) := id rfl
theorem nm_9 {x0 x1 x2 x3 x4 x5 x6 x7 x8 : Option Sl} {y : Option Sl} {d : D} {r : Ev} {K : RK} : (@bindK (.nm 9) d (x0 :: x1 :: x2 :: x3 :: x4 :: x5 :: x6 :: x7 :: x8 :: y :: r) K) = (@setK (x0 :: x1 :: x2 :: x3 :: x4 :: x5 :: x6 :: x7 :: x8 :: y :: r) 9 (some (.p d)) K) := nmlem (by simp only [List.length_cons]; omega)
theorem get_9 {x0 x1 x2 x3 x4 x5 x6 x7 x8 : Option Sl} {d : D} {r : Ev} {k : D → Prop} : (@getOK (x0 :: x1 :: x2 :: x3 :: x4 :: x5 :: x6 :: x7 :: x8 :: some (.o d) :: r) 9 ⟨k⟩) = (k d) := id rfl
theorem ld_p9 {Ph : Nat → List D → Rs} {own ld : List Nat} {e : CE} {x0 x1 x2 x3 x4 x5 x6 x7 x8 : Option Sl} {d : D} {r : Ev} {Q : QK} {E : XK} : (@wpM Ph own (9 :: ld) e (x0 :: x1 :: x2 :: x3 :: x4 :: x5 :: x6 :: x7 :: x8 :: some (.p d) :: r) Q E) = (@wpM Ph own ld e (x0 :: x1 :: x2 :: x3 :: x4 :: x5 :: x6 :: x7 :: x8 :: some (.p d) :: r) Q E) := wpM_skip rfl
theorem lf_p9 {ld : List Nat} {x0 x1 x2 x3 x4 x5 x6 x7 x8 : Option Sl} {d : D} {r : Ev} {K : RK} : (@lendK (9 :: ld) (x0 :: x1 :: x2 :: x3 :: x4 :: x5 :: x6 :: x7 :: x8 :: some (.p d) :: r) K) = (@lendK ld (x0 :: x1 :: x2 :: x3 :: x4 :: x5 :: x6 :: x7 :: x8 :: some (.p d) :: r) K) := id rfl
theorem ld_n9 {Ph : Nat → List D → Rs} {own ld : List Nat} {e : CE} {x0 x1 x2 x3 x4 x5 x6 x7 x8 : Option Sl} {r : Ev} {Q : QK} {E : XK} : (@wpM Ph own (9 :: ld) e (x0 :: x1 :: x2 :: x3 :: x4 :: x5 :: x6 :: x7 :: x8 :: none :: r) Q E) = (@wpM Ph own ld e (x0 :: x1 :: x2 :: x3 :: x4 :: x5 :: x6 :: x7 :: x8 :: none :: r) Q E) := wpM_skip rfl
theorem lf_n9 {ld : List Nat} {x0 x1 x2 x3 x4 x5 x6 x7 x8 : Option Sl} {r : Ev} {K : RK} : (@lendK (9 :: ld) (x0 :: x1 :: x2 :: x3 :: x4 :: x5 :: x6 :: x7 :: x8 :: none :: r) K) = (@lendK ld (x0 :: x1 :: x2 :: x3 :: x4 :: x5 :: x6 :: x7 :: x8 :: none :: r) K) := id rfl
theorem ld_f9 {Ph : Nat → List D → Rs} {own ld : List Nat} {e : CE} {x0 x1 x2 x3 x4 x5 x6 x7 x8 : Option Sl} {d : Nat} {r : Ev} {Q : QK} {E : XK} : (@wpM Ph own (9 :: ld) e (x0 :: x1 :: x2 :: x3 :: x4 :: x5 :: x6 :: x7 :: x8 :: some (.f d) :: r) Q E) = (@wpM Ph own ld e (x0 :: x1 :: x2 :: x3 :: x4 :: x5 :: x6 :: x7 :: x8 :: some (.f d) :: r) Q E) := wpM_skip rfl
theorem lf_f9 {ld : List Nat} {x0 x1 x2 x3 x4 x5 x6 x7 x8 : Option Sl} {d : Nat} {r : Ev} {K : RK} : (@lendK (9 :: ld) (x0 :: x1 :: x2 :: x3 :: x4 :: x5 :: x6 :: x7 :: x8 :: some (.f d) :: r) K) = (@lendK ld (x0 :: x1 :: x2 :: x3 :: x4 :: x5 :: x6 :: x7 :: x8 :: some (.f d) :: r) K) := id rfl
theorem ld_o9 {Ph : Nat → List D → Rs} {own ld : List Nat} {e : CE} {x0 x1 x2 x3 x4 x5 x6 x7 x8 : Option Sl} {d : D} {r : Ev} {Q : QK} {E : XK} : (@wpM Ph own (9 :: ld) e (x0 :: x1 :: x2 :: x3 :: x4 :: x5 :: x6 :: x7 :: x8 :: some (.o d) :: r) Q E) = (@wpM Ph (own ++ [9]) ld e (x0 :: x1 :: x2 :: x3 :: x4 :: x5 :: x6 :: x7 :: x8 :: some (.o d) :: r) Q E) := wpM_own
theorem lf_o9 {ld : List Nat} {x0 x1 x2 x3 x4 x5 x6 x7 x8 : Option Sl} {d : D} {r : Ev} {K : RK} : (@lendK (9 :: ld) (x0 :: x1 :: x2 :: x3 :: x4 :: x5 :: x6 :: x7 :: x8 :: some (.o d) :: r) K) = (@lendK ld (x0 :: x1 :: x2 :: x3 :: x4 :: x5 :: x6 :: x7 :: x8 :: some (.p d) :: r) K) := id rfl
theorem un_9 {ld : List Nat} {x0 x1 x2 x3 x4 x5 x6 x7 x8 : Option Sl} {d : D} {r r1 : Ev} {K : RK} : (@unlK (x0 :: x1 :: x2 :: x3 :: x4 :: x5 :: x6 :: x7 :: x8 :: some (.o d) :: r) r1 (9 :: ld) K) = (@setK r1 9 (some (.o d)) ⟨fun r2 => @unlK (x0 :: x1 :: x2 :: x3 :: x4 :: x5 :: x6 :: x7 :: x8 :: some (.o d) :: r) r2 ld K⟩) := id rfl
theorem fn_9 {x0 x1 x2 x3 x4 x5 x6 x7 x8 : Option Sl} {f : Nat} {r : Ev} {k : Nat → Prop} : (@getFK (x0 :: x1 :: x2 :: x3 :: x4 :: x5 :: x6 :: x7 :: x8 :: some (.f f) :: r) 9 ⟨k⟩) = (k f) := id rfl
theorem var_10 {Ph : Nat → List D → Rs} {x0 x1 x2 x3 x4 x5 x6 x7 x8 x9 : Option Sl} {d : D} {r : Ev} {q : D → Bool → Ev → Prop} {E : XK} : (@wp (ev Ph (.var 10) (x0 :: x1 :: x2 :: x3 :: x4 :: x5 :: x6 :: x7 :: x8 :: x9 :: some (.p d) :: r)) ⟨q⟩ E) = (q d false (x0 :: x1 :: x2 :: x3 :: x4 :: x5 :: x6 :: x7 :: x8 :: x9 :: some (.p d) :: r)) := id rfl
theorem set_10 {x0 x1 x2 x3 x4 x5 x6 x7 x8 x9 : Option Sl} {y s : Option Sl} {r : Ev} {k : Ev → Prop} : (@setK (x0 :: x1 :: x2 :: x3 :: x4 :: x5 :: x6 :: x7 :: x8 :: x9 :: y :: r) 10 s ⟨k⟩) = (k (x0 :: x1 :: x2 :: x3 :: x4 :: x5 :: x6 :: x7 :: x8 :: x9 :: s :: r)) := id rfl
theorem nm_10 {x0 x1 x2 x3 x4 x5 x6 x7 x8 x9 : Option Sl} {y : Option Sl} {d : D} {r : Ev} {K : RK} : (@bindK (.nm 10) d (x0 :: x1 :: x2 :: x3 :: x4 :: x5 :: x6 :: x7 :: x8 :: x9 :: y :: r) K) = (@setK (x0 :: x1 :: x2 :: x3 :: x4 :: x5 :: x6 :: x7 :: x8 :: x9 :: y :: r) 10 (some (.p d)) K) := nmlem (by simp only [List.length_cons]; omega)
theorem get_10 {x0 x1 x2 x3 x4 x5 x6 x7 x8 x9 : Option Sl} {d : D} {r : Ev} {k : D → Prop} : (@getOK (x0 :: x1 :: x2 :: x3 :: x4 :: x5 :: x6 :: x7 :: x8 :: x9 :: some (.o d) :: r) 10 ⟨k⟩) = (k d) := id rfl
theorem ld_p10 {Ph : Nat → List D → Rs} {own ld : List Nat} {e : CE} {x0 x1 x2 x3 x4 x5 x6 x7 x8 x9 : Option Sl} {d : D} {r : Ev} {Q : QK} {E : XK} : (@wpM Ph own (10 :: ld) e (x0 :: x1 :: x2 :: x3 :: x4 :: x5 :: x6 :: x7 :: x8 :: x9 :: some (.p d) :: r) Q E) = (@wpM Ph own ld e (x0 :: x1 :: x2 :: x3 :: x4 :: x5 :: x6 :: x7 :: x8 :: x9 :: some (.p d) :: r) Q E) := wpM_skip rfl
theorem lf_p10 {ld : List Nat} {x0 x1 x2 x3 x4 x5 x6 x7 x8 x9 : Option Sl} {d : D} {r : Ev} {K : RK} : (@lendK (10 :: ld) (x0 :: x1 :: x2 :: x3 :: x4 :: x5 :: x6 :: x7 :: x8 :: x9 :: some (.p d) :: r) K) = (@lendK ld (x0 :: x1 :: x2 :: x3 :: x4 :: x5 :: x6 :: x7 :: x8 :: x9 :: some (.p d) :: r) K) := id rfl
theorem ld_n10 {Ph : Nat → List D → Rs} {own ld : List Nat} {e : CE} {x0 x1 x2 x3 x4 x5 x6 x7 x8 x9 : Option Sl} {r : Ev} {Q : QK} {E : XK} : (@wpM Ph own (10 :: ld) e (x0 :: x1 :: x2 :: x3 :: x4 :: x5 :: x6 :: x7 :: x8 :: x9 :: none :: r) Q E) = (@wpM Ph own ld e (x0 :: x1 :: x2 :: x3 :: x4 :: x5 :: x6 :: x7 :: x8 :: x9 :: none :: r) Q E) := wpM_skip rfl
theorem lf_n10 {ld : List Nat} {x0 x1 x2 x3 x4 x5 x6 x7 x8 x9 : Option Sl} {r : Ev} {K : RK} : (@lendK (10 :: ld) (x0 :: x1 :: x2 :: x3 :: x4 :: x5 :: x6 :: x7 :: x8 :: x9 :: none :: r) K) = (@lendK ld (x0 :: x1 :: x2 :: x3 :: x4 :: x5 :: x6 :: x7 :: x8 :: x9 :: none :: r) K) := id rfl
theorem ld_f10 {Ph : Nat → List D → Rs} {own ld : List Nat} {e : CE} {x0 x1 x2 x3 x4 x5 x6 x7 x8 x9 : Option Sl} {d : Nat} {r : Ev} {Q : QK} {E : XK} : (@wpM Ph own (10 :: ld) e (x0 :: x1 :: x2 :: x3 :: x4 :: x5 :: x6 :: x7 :: x8 :: x9 :: some (.f d) :: r) Q E) = (@wpM Ph own ld e (x0 :: x1 :: x2 :: x3 :: x4 :: x5 :: x6 :: x7 :: x8 :: x9 :: some (.f d) :: r) Q E) := wpM_skip rfl
theorem lf_f10 {ld : List Nat} {x0 x1 x2 x3 x4 x5 x6 x7 x8 x9 : Option Sl} {d : Nat} {r : Ev} {K : RK} : (@lendK (10 :: ld) (x0 :: x1 :: x2 :: x3 :: x4 :: x5 :: x6 :: x7 :: x8 :: x9 :: some (.f d) :: r) K) = (@lendK ld (x0 :: x1 :: x2 :: x3 :: x4 :: x5 :: x6 :: x7 :: x8 :: x9 :: some (.f d) :: r) K) := id rfl
theorem ld_o10 {Ph : Nat → List D → Rs} {own ld : List Nat} {e : CE} {x0 x1 x2 x3 x4 x5 x6 x7 x8 x9 : Option Sl} {d : D} {r : Ev} {Q : QK} {E : XK} : (@wpM Ph own (10 :: ld) e (x0 :: x1 :: x2 :: x3 :: x4 :: x5 :: x6 :: x7 :: x8 :: x9 :: some (.o d) :: r) Q E) = (@wpM Ph (own ++ [10]) ld e (x0 :: x1 :: x2 :: x3 :: x4 :: x5 :: x6 :: x7 :: x8 :: x9 :: some (.o d) :: r) Q E) := wpM_own
theorem lf_o10 {ld : List Nat} {x0 x1 x2 x3 x4 x5 x6 x7 x8 x9 : Option Sl} {d : D} {r : Ev} {K : RK} : (@lendK (10 :: ld) (x0 :: x1 :: x2 :: x3 :: x4 :: x5 :: x6 :: x7 :: x8 :: x9 :: some (.o d) :: r) K) = (@lendK ld (x0 :: x1 :: x2 :: x3 :: x4 :: x5 :: x6 :: x7 :: x8 :: x9 :: some (.p d) :: r) K) := id rfl
theorem un_10 {ld : List Nat} {x0 x1 x2 x3 x4 x5 x6 x7 x8 x9 : Option Sl} {d : D} {r r1 : Ev} {K : RK} : (@unlK (x0 :: x1 :: x2 :: x3 :: x4 :: x5 :: x6 :: x7 :: x8 :: x9 :: some (.o d) :: r) r1 (10 :: ld) K) = (@setK r1 10 (some (.o d)) ⟨fun r2 => @unlK (x0 :: x1 :: x2 :: x3 :: x4 :: x5 :: x6 :: x7 :: x8 :: x9 :: some (.o d) :: r) r2 ld K⟩) := id rfl
theorem fn_10 {x0 x1 x2 x3 x4 x5 x6 x7 x8 x9 : Option Sl} {f : Nat} {r : Ev} {k : Nat → Prop} : (@getFK (x0 :: x1 :: x2 :: x3 :: x4 :: x5 :: x6 :: x7 :: x8 :: x9 :: some (.f f) :: r) 10 ⟨k⟩) = (k f) := id rfl
theorem var_11 {Ph : Nat → List D → Rs} {x0 x1 x2 x3 x4 x5 x6 x7 x8 x9 x10 : Option Sl} {d : D} {r : Ev} {q : D → Bool → Ev → Prop} {E : XK} : (@wp (ev Ph (.var 11) (x0 :: x1 :: x2 :: x3 :: x4 :: x5 :: x6 :: x7 :: x8 :: x9 :: x10 :: some (.p d) :: r)) ⟨q⟩ E) = (q d false (x0 :: x1 :: x2 :: x3 :: x4 :: x5 :: x6 :: x7 :: x8 :: x9 :: x10 :: some (.p d) :: r)) := id rfl
theorem set_11 {x0 x1 x2 x3 x4 x5 x6 x7 x8 x9 x10 : Option Sl} {y s : Option Sl} {r : Ev} {k : Ev → Prop} : (@setK (x0 :: x1 :: x2 :: x3 :: x4 :: x5 :: x6 :: x7 :: x8 :: x9 :: x10 :: y :: r) 11 s ⟨k⟩) = (k (x0 :: x1 :: x2 :: x3 :: x4 :: x5 :: x6 :: x7 :: x8 :: x9 :: x10 :: s :: r)) := id rfl
theorem nm_11 {x0 x1 x2 x3 x4 x5 x6 x7 x8 x9 x10 : Option Sl} {y : Option Sl} {d : D} {r : Ev} {K : RK} : (@bindK (.nm 11) d (x0 :: x1 :: x2 :: x3 :: x4 :: x5 :: x6 :: x7 :: x8 :: x9 :: x10 :: y :: r) K) = (@setK (x0 :: x1 :: x2 :: x3 :: x4 :: x5 :: x6 :: x7 :: x8 :: x9 :: x10 :: y :: r) 11 (some (.p d)) K) := nmlem (by simp only [List.length_cons]; omega)
theorem get_11 {x0 x1 x2 x3 x4 x5 x6 x7 x8 x9 x10 : Option Sl} {d : D} {r : Ev} {k : D → Prop} : (@getOK (x0 :: x1 :: x2 :: x3 :: x4 :: x5 :: x6 :: x7 :: x8 :: x9 :: x10 :: some (.o d) :: r) 11 ⟨k⟩) = (k d) := id rfl
theorem ld_p11 {Ph : Nat → List D → Rs} {own ld : List Nat} {e : CE} {x0 x1 x2 x3 x4 x5 x6 x7 x8 x9 x10 : Option Sl} {d : D} {r : Ev} {Q : QK} {E : XK} : (@wpM Ph own (11 :: ld) e (x0 :: x1 :: x2 :: x3 :: x4 :: x5 :: x6 :: x7 :: x8 :: x9 :: x10 :: some (.p d) :: r) Q E) = (@wpM Ph own ld e (x0 :: x1 :: x2 :: x3 :: x4 :: x5 :: x6 :: x7 :: x8 :: x9 :: x10 :: some (.p d) :: r) Q E) := wpM_skip rfl
theorem lf_p11 {ld : List Nat} {x0 x1 x2 x3 x4 x5 x6 x7 x8 x9 x10 : Option Sl} {d : D} {r : Ev} {K : RK} : (@lendK (11 :: ld) (x0 :: x1 :: x2 :: x3 :: x4 :: x5 :: x6 :: x7 :: x8 :: x9 :: x10 :: some (.p d) :: r) K) = (@lendK ld (x0 :: x1 :: x2 :: x3 :: x4 :: x5 :: x6 :: x7 :: x8 :: x9 :: x10 :: some (.p d) :: r) K) := id rfl
theorem ld_n11 {Ph : Nat → List D → Rs} {own ld : List Nat} {e : CE} {x0 x1 x2 x3 x4 x5 x6 x7 x8 x9 x10 : Option Sl} {r : Ev} {Q : QK} {E : XK} : (@wpM Ph own (11 :: ld) e (x0 :: x1 :: x2 :: x3 :: x4 :: x5 :: x6 :: x7 :: x8 :: x9 :: x10 :: none :: r) Q E) = (@wpM Ph own ld e (x0 :: x1 :: x2 :: x3 :: x4 :: x5 :: x6 :: x7 :: x8 :: x9 :: x10 :: none :: r) Q E) := wpM_skip rfl
theorem lf_n11 {ld : List Nat} {x0 x1 x2 x3 x4 x5 x6 x7 x8 x9 x10 : Option Sl} {r : Ev} {K : RK} : (@lendK (11 :: ld) (x0 :: x1 :: x2 :: x3 :: x4 :: x5 :: x6 :: x7 :: x8 :: x9 :: x10 :: none :: r) K) = (@lendK ld (x0 :: x1 :: x2 :: x3 :: x4 :: x5 :: x6 :: x7 :: x8 :: x9 :: x10 :: none :: r) K) := id rfl
theorem ld_f11 {Ph : Nat → List D → Rs} {own ld : List Nat} {e : CE} {x0 x1 x2 x3 x4 x5 x6 x7 x8 x9 x10 : Option Sl} {d : Nat} {r : Ev} {Q : QK} {E : XK} : (@wpM Ph own (11 :: ld) e (x0 :: x1 :: x2 :: x3 :: x4 :: x5 :: x6 :: x7 :: x8 :: x9 :: x10 :: some (.f d) :: r) Q E) = (@wpM Ph own ld e (x0 :: x1 :: x2 :: x3 :: x4 :: x5 :: x6 :: x7 :: x8 :: x9 :: x10 :: some (.f d) :: r) Q E) := wpM_skip rfl
theorem lf_f11 {ld : List Nat} {x0 x1 x2 x3 x4 x5 x6 x7 x8 x9 x10 : Option Sl} {d : Nat} {r : Ev} {K : RK} : (@lendK (11 :: ld) (x0 :: x1 :: x2 :: x3 :: x4 :: x5 :: x6 :: x7 :: x8 :: x9 :: x10 :: some (.f d) :: r) K) = (@lendK ld (x0 :: x1 :: x2 :: x3 :: x4 :: x5 :: x6 :: x7 :: x8 :: x9 :: x10 :: some (.f d) :: r) K) := id rfl
theorem ld_o11 {Ph : Nat → List D → Rs} {own ld : List Nat} {e : CE} {x0 x1 x2 x3 x4 x5 x6 x7 x8 x9 x10 : Option Sl} {d : D} {r : Ev} {Q : QK} {E : XK} : (@wpM Ph own (11 :: ld) e (x0 :: x1 :: x2 :: x3 :: x4 :: x5 :: x6 :: x7 :: x8 :: x9 :: x10 :: some (.o d) :: r) Q E) = (@wpM Ph (own ++ [11]) ld e (x0 :: x1 :: x2 :: x3 :: x4 :: x5 :: x6 :: x7 :: x8 :: x9 :: x10 :: some (.o d) :: r) Q E) := wpM_own
theorem lf_o11 {ld : List Nat} {x0 x1 x2 x3 x4 x5 x6 x7 x8 x9 x10 : Option Sl} {d : D} {r : Ev} {K : RK} : (@lendK (11 :: ld) (x0 :: x1 :: x2 :: x3 :: x4 :: x5 :: x6 :: x7 :: x8 :: x9 :: x10 :: some (.o d) :: r) K) = (@lendK ld (x0 :: x1 :: x2 :: x3 :: x4 :: x5 :: x6 :: x7 :: x8 :: x9 :: x10 :: some (.p d) :: r) K) := id rfl
theorem un_11 {ld : List Nat} {x0 x1 x2 x3 x4 x5 x6 x7 x8 x9 x10 : Option Sl} {d : D} {r r1 : Ev} {K : RK} : (@unlK (x0 :: x1 :: x2 :: x3 :: x4 :: x5 :: x6 :: x7 :: x8 :: x9 :: x10 :: some (.o d) :: r) r1 (11 :: ld) K) = (@setK r1 11 (some (.o d)) ⟨fun r2 => @unlK (x0 :: x1 :: x2 :: x3 :: x4 :: x5 :: x6 :: x7 :: x8 :: x9 :: x10 :: some (.o d) :: r) r2 ld K⟩) := id rfl
theorem fn_11 {x0 x1 x2 x3 x4 x5 x6 x7 x8 x9 x10 : Option Sl} {f : Nat} {r : Ev} {k : Nat → Prop} : (@getFK (x0 :: x1 :: x2 :: x3 :: x4 :: x5 :: x6 :: x7 :: x8 :: x9 :: x10 :: some (.f f) :: r) 11 ⟨k⟩) = (k f) := id rfl
theorem var_12 {Ph : Nat → List D → Rs} {x0 x1 x2 x3 x4 x5 x6 x7 x8 x9 x10 x11 : Option Sl} {d : D} {r : Ev} {q : D → Bool → Ev → Prop} {E : XK} : (@wp (ev Ph (.var 12) (x0 :: x1 :: x2 :: x3 :: x4 :: x5 :: x6 :: x7 :: x8 :: x9 :: x10 :: x11 :: some (.p d) :: r)) ⟨q⟩ E) = (q d false (x0 :: x1 :: x2 :: x3 :: x4 :: x5 :: x6 :: x7 :: x8 :: x9 :: x10 :: x11 :: some (.p d) :: r)) := id rfl
theorem set_12 {x0 x1 x2 x3 x4 x5 x6 x7 x8 x9 x10 x11 : Option Sl} {y s : Option Sl} {r : Ev} {k : Ev → Prop} : (@setK (x0 :: x1 :: x2 :: x3 :: x4 :: x5 :: x6 :: x7 :: x8 :: x9 :: x10 :: x11 :: y :: r) 12 s ⟨k⟩) = (k (x0 :: x1 :: x2 :: x3 :: x4 :: x5 :: x6 :: x7 :: x8 :: x9 :: x10 :: x11 :: s :: r)) := id rfl
theorem nm_12 {x0 x1 x2 x3 x4 x5 x6 x7 x8 x9 x10 x11 : Option Sl} {y : Option Sl} {d : D} {r : Ev} {K : RK} : (@bindK (.nm 12) d (x0 :: x1 :: x2 :: x3 :: x4 :: x5 :: x6 :: x7 :: x8 :: x9 :: x10 :: x11 :: y :: r) K) = (@setK (x0 :: x1 :: x2 :: x3 :: x4 :: x5 :: x6 :: x7 :: x8 :: x9 :: x10 :: x11 :: y :: r) 12 (some (.p d)) K) := nmlem (by simp only [List.length_cons]; omega)
theorem get_12 {x0 x1 x2 x3 x4 x5 x6 x7 x8 x9 x10 x11 : Option Sl} {d : D} {r : Ev} {k : D → Prop} : (@getOK (x0 :: x1 :: x2 :: x3 :: x4 :: x5 :: x6 :: x7 :: x8 :: x9 :: x10 :: x11 :: some (.o d) :: r) 12 ⟨k⟩) = (k d) := id rfl
theorem ld_p12 {Ph : Nat → List D → Rs} {own ld : List Nat} {e : CE} {x0 x1 x2 x3 x4 x5 x6 x7 x8 x9 x10 x11 : Option Sl} {d : D} {r : Ev} {Q : QK} {E : XK} : (@wpM Ph own (12 :: ld) e (x0 :: x1 :: x2 :: x3 :: x4 :: x5 :: x6 :: x7 :: x8 :: x9 :: x10 :: x11 :: some (.p d) :: r) Q E) = (@wpM Ph own ld e (x0 :: x1 :: x2 :: x3 :: x4 :: x5 :: x6 :: x7 :: x8 :: x9 :: x10 :: x11 :: some (.p d) :: r) Q E) := wpM_skip rfl
theorem lf_p12 {ld : List Nat} {x0 x1 x2 x3 x4 x5 x6 x7 x8 x9 x10 x11 : Option Sl} {d : D} {r : Ev} {K : RK} : (@lendK (12 :: ld) (x0 :: x1 :: x2 :: x3 :: x4 :: x5 :: x6 :: x7 :: x8 :: x9 :: x10 :: x11 :: some (.p d) :: r) K) = (@lendK ld (x0 :: x1 :: x2 :: x3 :: x4 :: x5 :: x6 :: x7 :: x8 :: x9 :: x10 :: x11 :: some (.p d) :: r) K) := id rfl
theorem ld_n12 {Ph : Nat → List D → Rs} {own ld : List Nat} {e : CE} {x0 x1 x2 x3 x4 x5 x6 x7 x8 x9 x10 x11 : Option Sl} {r : Ev} {Q : QK} {E : XK} : (@wpM Ph own (12 :: ld) e (x0 :: x1 :: x2 :: x3 :: x4 :: x5 :: x6 :: x7 :: x8 :: x9 :: x10 :: x11 :: none :: r) Q E) = (@wpM Ph own ld e (x0 :: x1 :: x2 :: x3 :: x4 :: x5 :: x6 :: x7 :: x8 :: x9 :: x10 :: x11 :: none :: r) Q E) := wpM_skip rfl
theorem lf_n12 {ld : List Nat} {x0 x1 x2 x3 x4 x5 x6 x7 x8 x9 x10 x11 : Option Sl} {r : Ev} {K : RK} : (@lendK (12 :: ld) (x0 :: x1 :: x2 :: x3 :: x4 :: x5 :: x6 :: x7 :: x8 :: x9 :: x10 :: x11 :: none :: r) K) = (@lendK ld (x0 :: x1 :: x2 :: x3 :: x4 :: x5 :: x6 :: x7 :: x8 :: x9 :: x10 :: x11 :: none :: r) K) := id rfl
theorem ld_f12 {Ph : Nat → List D → Rs} {own ld : List Nat} {e : CE} {x0 x1 x2 x3 x4 x5 x6 x7 x8 x9 x10 x11 : Option Sl} {d : Nat} {r : Ev} {Q : QK} {E : XK} : (@wpM Ph own (12 :: ld) e (x0 :: x1 :: x2 :: x3 :: x4 :: x5 :: x6 :: x7 :: x8 :: x9 :: x10 :: x11 :: some (.f d) :: r) Q E) = (@wpM Ph own ld e (x0 :: x1 :: x2 :: x3 :: x4 :: x5 :: x6 :: x7 :: x8 :: x9 :: x10 :: x11 :: some (.f d) :: r) Q E) := wpM_skip rfl
theorem lf_f12 {ld : List Nat} {x0 x1 x2 x3 x4 x5 x6 x7 x8 x9 x10 x11 : Option Sl} {d : Nat} {r : Ev} {K : RK} : (@lendK (12 :: ld) (x0 :: x1 :: x2 :: x3 :: x4 :: x5 :: x6 :: x7 :: x8 :: x9 :: x10 :: x11 :: some (.f d) :: r) K) = (@lendK ld (x0 :: x1 :: x2 :: x3 :: x4 :: x5 :: x6 :: x7 :: x8 :: x9 :: x10 :: x11 :: some (.f d) :: r) K) := id rfl
theorem ld_o12 {Ph : Nat → List D → Rs} {own ld : List Nat} {e : CE} {x0 x1 x2 x3 x4 x5 x6 x7 x8 x9 x10 x11 : Option Sl} {d : D} {r : Ev} {Q : QK} {E : XK} : (@wpM Ph own (12 :: ld) e (x0 :: x1 :: x2 :: x3 :: x4 :: x5 :: x6 :: x7 :: x8 :: x9 :: x10 :: x11 :: some (.o d) :: r) Q E) = (@wpM Ph (own ++ [12]) ld e (x0 :: x1 :: x2 :: x3 :: x4 :: x5 :: x6 :: x7 :: x8 :: x9 :: x10 :: x11 :: some (.o d) :: r) Q E) := wpM_own
theorem lf_o12 {ld : List Nat} {x0 x1 x2 x3 x4 x5 x6 x7 x8 x9 x10 x11 : Option Sl} {d : D} {r : Ev} {K : RK} : (@lendK (12 :: ld) (x0 :: x1 :: x2 :: x3 :: x4 :: x5 :: x6 :: x7 :: x8 :: x9 :: x10 :: x11 :: some (.o d) :: r) K) = (@lendK ld (x0 :: x1 :: x2 :: x3 :: x4 :: x5 :: x6 :: x7 :: x8 :: x9 :: x10 :: x11 :: some (.p d) :: r) K) := id rfl
theorem un_12 {ld : List Nat} {x0 x1 x2 x3 x4 x5 x6 x7 x8 x9 x10 x11 : Option Sl} {d : D} {r r1 : Ev} {K : RK} : (@unlK (x0 :: x1 :: x2 :: x3 :: x4 :: x5 :: x6 :: x7 :: x8 :: x9 :: x10 :: x11 :: some (.o d) :: r) r1 (12 :: ld) K) = (@setK r1 12 (some (.o d)) ⟨fun r2 => @unlK (x0 :: x1 :: x2 :: x3 :: x4 :: x5 :: x6 :: x7 :: x8 :: x9 :: x10 :: x11 :: some (.o d) :: r) r2 ld K⟩) := id rfl
theorem fn_12 {x0 x1 x2 x3 x4 x5 x6 x7 x8 x9 x10 x11 : Option Sl} {f : Nat} {r : Ev} {k : Nat → Prop} : (@getFK (x0 :: x1 :: x2 :: x3 :: x4 :: x5 :: x6 :: x7 :: x8 :: x9 :: x10 :: x11 :: some (.f f) :: r) 12 ⟨k⟩) = (k f) := id rfl
theorem var_13 {Ph : Nat → List D → Rs} {x0 x1 x2 x3 x4 x5 x6 x7 x8 x9 x10 x11 x12 : Option Sl} {d : D} {r : Ev} {q : D → Bool → Ev → Prop} {E : XK} : (@wp (ev Ph (.var 13) (x0 :: x1 :: x2 :: x3 :: x4 :: x5 :: x6 :: x7 :: x8 :: x9 :: x10 :: x11 :: x12 :: some (.p d) :: r)) ⟨q⟩ E) = (q d false (x0 :: x1 :: x2 :: x3 :: x4 :: x5 :: x6 :: x7 :: x8 :: x9 :: x10 :: x11 :: x12 :: some (.p d) :: r)) := id rfl
theorem set_13 {x0 x1 x2 x3 x4 x5 x6 x7 x8 x9 x10 x11 x12 : Option Sl} {y s : Option Sl} {r : Ev} {k : Ev → Prop} : (@setK (x0 :: x1 :: x2 :: x3 :: x4 :: x5 :: x6 :: x7 :: x8 :: x9 :: x10 :: x11 :: x12 :: y :: r) 13 s ⟨k⟩) = (k (x0 :: x1 :: x2 :: x3 :: x4 :: x5 :: x6 :: x7 :: x8 :: x9 :: x10 :: x11 :: x12 :: s :: r)) := id rfl
theorem nm_13 {x0 x1 x2 x3 x4 x5 x6 x7 x8 x9 x10 x11 x12 : Option Sl} {y : Option Sl} {d : D} {r : Ev} {K : RK} : (@bindK (.nm 13) d (x0 :: x1 :: x2 :: x3 :: x4 :: x5 :: x6 :: x7 :: x8 :: x9 :: x10 :: x11 :: x12 :: y :: r) K) = (@setK (x0 :: x1 :: x2 :: x3 :: x4 :: x5 :: x6 :: x7 :: x8 :: x9 :: x10 :: x11 :: x12 :: y :: r) 13 (some (.p d)) K) := nmlem (by simp only [List.length_cons]; omega)
theorem get_13 {x0 x1 x2 x3 x4 x5 x6 x7 x8 x9 x10 x11 x12 : Option Sl} {d : D} {r : Ev} {k : D → Prop} : (@getOK (x0 :: x1 :: x2 :: x3 :: x4 :: x5 :: x6 :: x7 :: x8 :: x9 :: x10 :: x11 :: x12 :: some (.o d) :: r) 13 ⟨k⟩) = (k d) := id rfl
theorem ld_p13 {Ph : Nat → List D → Rs} {own ld : List Nat} {e : CE} {x0 x1 x2 x3 x4 x5 x6 x7 x8 x9 x10 x11 x12 : Option Sl} {d : D} {r : Ev} {Q : QK} {E : XK} : (@wpM Ph own (13 :: ld) e (x0 :: x1 :: x2 :: x3 :: x4 :: x5 :: x6 :: x7 :: x8 :: x9 :: x10 :: x11 :: x12 :: some (.p d) :: r) Q E) = (@wpM Ph own ld e (x0 :: x1 :: x2 :: x3 :: x4 :: x5 :: x6 :: x7 :: x8 :: x9 :: x10 :: x11 :: x12 :: some (.p d) :: r) Q E) := wpM_skip rfl
theorem lf_p13 {ld : List Nat} {x0 x1 x2 x3 x4 x5 x6 x7 x8 x9 x10 x11 x12 : Option Sl} {d : D} {r : Ev} {K : RK} : (@lendK (13 :: ld) (x0 :: x1 :: x2 :: x3 :: x4 :: x5 :: x6 :: x7 :: x8 :: x9 :: x10 :: x11 :: x12 :: some (.p d) :: r) K) = (@lendK ld (x0 :: x1 :: x2 :: x3 :: x4 :: x5 :: x6 :: x7 :: x8 :: x9 :: x10 :: x11 :: x12 :: some (.p d) :: r) K) := id rfl
theorem ld_n13 {Ph : Nat → List D → Rs} {own ld : List Nat} {e : CE} {x0 x1 x2 x3 x4 x5 x6 x7 x8 x9 x10 x11 x12 : Option Sl} {r : Ev} {Q : QK} {E : XK} : (@wpM Ph own (13 :: ld) e (x0 :: x1 :: x2 :: x3 :: x4 :: x5 :: x6 :: x7 :: x8 :: x9 :: x10 :: x11 :: x12 :: none :: r) Q E) = (@wpM Ph own ld e (x0 :: x1 :: x2 :: x3 :: x4 :: x5 :: x6 :: x7 :: x8 :: x9 :: x10 :: x11 :: x12 :: none :: r) Q E) := wpM_skip rfl
theorem lf_n13 {ld : List Nat} {x0 x1 x2 x3 x4 x5 x6 x7 x8 x9 x10 x11 x12 : Option Sl} {r : Ev} {K : RK} : (@lendK (13 :: ld) (x0 :: x1 :: x2 :: x3 :: x4 :: x5 :: x6 :: x7 :: x8 :: x9 :: x10 :: x11 :: x12 :: none :: r) K) = (@lendK ld (x0 :: x1 :: x2 :: x3 :: x4 :: x5 :: x6 :: x7 :: x8 :: x9 :: x10 :: x11 :: x12 :: none :: r) K) := id rfl
theorem ld_f13 {Ph : Nat → List D → Rs} {own ld : List Nat} {e : CE} {x0 x1 x2 x3 x4 x5 x6 x7 x8 x9 x10 x11 x12 : Option Sl} {d : Nat} {r : Ev} {Q : QK} {E : XK} : (@wpM Ph own (13 :: ld) e (x0 :: x1 :: x2 :: x3 :: x4 :: x5 :: x6 :: x7 :: x8 :: x9 :: x10 :: x11 :: x12 :: some (.f d) :: r) Q E) = (@wpM Ph own ld e (x0 :: x1 :: x2 :: x3 :: x4 :: x5 :: x6 :: x7 :: x8 :: x9 :: x10 :: x11 :: x12 :: some (.f d) :: r) Q E) := wpM_skip rfl
theorem lf_f13 {ld : List Nat} {x0 x1 x2 x3 x4 x5 x6 x7 x8 x9 x10 x11 x12 : Option Sl} {d : Nat} {r : Ev} {K : RK} : (@lendK (13 :: ld) (x0 :: x1 :: x2 :: x3 :: x4 :: x5 :: x6 :: x7 :: x8 :: x9 :: x10 :: x11 :: x12 :: some (.f d) :: r) K) = (@lendK ld (x0 :: x1 :: x2 :: x3 :: x4 :: x5 :: x6 :: x7 :: x8 :: x9 :: x10 :: x11 :: x12 :: some (.f d) :: r) K) := id rfl
theorem ld_o13 {Ph : Nat → List D → Rs} {own ld : List Nat} {e : CE} {x0 x1 x2 x3 x4 x5 x6 x7 x8 x9 x10 x11 x12 : Option Sl} {d : D} {r : Ev} {Q : QK} {E : XK} : (@wpM Ph own (13 :: ld) e (x0 :: x1 :: x2 :: x3 :: x4 :: x5 :: x6 :: x7 :: x8 :: x9 :: x10 :: x11 :: x12 :: some (.o d) :: r) Q E) = (@wpM Ph (own ++ [13]) ld e (x0 :: x1 :: x2 :: x3 :: x4 :: x5 :: x6 :: x7 :: x8 :: x9 :: x10 :: x11 :: x12 :: some (.o d) :: r) Q E) := wpM_own
theorem lf_o13 {ld : List Nat} {x0 x1 x2 x3 x4 x5 x6 x7 x8 x9 x10 x11 x12 : Option Sl} {d : D} {r : Ev} {K : RK} : (@lendK (13 :: ld) (x0 :: x1 :: x2 :: x3 :: x4 :: x5 :: x6 :: x7 :: x8 :: x9 :: x10 :: x11 :: x12 :: some (.o d) :: r) K) = (@lendK ld (x0 :: x1 :: x2 :: x3 :: x4 :: x5 :: x6 :: x7 :: x8 :: x9 :: x10 :: x11 :: x12 :: some (.p d) :: r) K) := id rfl
theorem un_13 {ld : List Nat} {x0 x1 x2 x3 x4 x5 x6 x7 x8 x9 x10 x11 x12 : Option Sl} {d : D} {r r1 : Ev} {K : RK} : (@unlK (x0 :: x1 :: x2 :: x3 :: x4 :: x5 :: x6 :: x7 :: x8 :: x9 :: x10 :: x11 :: x12 :: some (.o d) :: r) r1 (13 :: ld) K) = (@setK r1 13 (some (.o d)) ⟨fun r2 => @unlK (x0 :: x1 :: x2 :: x3 :: x4 :: x5 :: x6 :: x7 :: x8 :: x9 :: x10 :: x11 :: x12 :: some (.o d) :: r) r2 ld K⟩) := id rfl
theorem fn_13 {x0 x1 x2 x3 x4 x5 x6 x7 x8 x9 x10 x11 x12 : Option Sl} {f : Nat} {r : Ev} {k : Nat → Prop} : (@getFK (x0 :: x1 :: x2 :: x3 :: x4 :: x5 :: x6 :: x7 :: x8 :: x9 :: x10 :: x11 :: x12 :: some (.f f) :: r) 13 ⟨k⟩) = (k f) := id rfl
theorem var_14 {Ph : Nat → List D → Rs} {x0 x1 x2 x3 x4 x5 x6 x7 x8 x9 x10 x11 x12 x13 : Option Sl} {d : D} {r : Ev} {q : D → Bool → Ev → Prop} {E : XK} : (@wp (ev Ph (.var 14) (x0 :: x1 :: x2 :: x3 :: x4 :: x5 :: x6 :: x7 :: x8 :: x9 :: x10 :: x11 :: x12 :: x13 :: some (.p d) :: r)) ⟨q⟩ E) = (q d false (x0 :: x1 :: x2 :: x3 :: x4 :: x5 :: x6 :: x7 :: x8 :: x9 :: x10 :: x11 :: x12 :: x13 :: some (.p d) :: r)) := id rfl
theorem set_14 {x0 x1 x2 x3 x4 x5 x6 x7 x8 x9 x10 x11 x12 x13 : Option Sl} {y s : Option Sl} {r : Ev} {k : Ev → Prop} : (@setK (x0 :: x1 :: x2 :: x3 :: x4 :: x5 :: x6 :: x7 :: x8 :: x9 :: x10 :: x11 :: x12 :: x13 :: y :: r) 14 s ⟨k⟩) = (k (x0 :: x1 :: x2 :: x3 :: x4 :: x5 :: x6 :: x7 :: x8 :: x9 :: x10 :: x11 :: x12 :: x13 :: s :: r)) := id rfl
theorem nm_14 {x0 x1 x2 x3 x4 x5 x6 x7 x8 x9 x10 x11 x12 x13 : Option Sl} {y : Option Sl} {d : D} {r : Ev} {K : RK} : (@bindK (.nm 14) d (x0 :: x1 :: x2 :: x3 :: x4 :: x5 :: x6 :: x7 :: x8 :: x9 :: x10 :: x11 :: x12 :: x13 :: y :: r) K) = (@setK (x0 :: x1 :: x2 :: x3 :: x4 :: x5 :: x6 :: x7 :: x8 :: x9 :: x10 :: x11 :: x12 :: x13 :: y :: r) 14 (some (.p d)) K) := nmlem (by simp only [List.length_cons]; omega)
theorem get_14 {x0 x1 x2 x3 x4 x5 x6 x7 x8 x9 x10 x11 x12 x13 : Option Sl} {d : D} {r : Ev} {k : D → Prop} : (@getOK (x0 :: x1 :: x2 :: x3 :: x4 :: x5 :: x6 :: x7 :: x8 :: x9 :: x10 :: x11 :: x12 :: x13 :: some (.o d) :: r) 14 ⟨k⟩) = (k d) := id rfl
theorem ld_p14 {Ph : Nat → List D → Rs} {own ld : List Nat} {e : CE} {x0 x1 x2 x3 x4 x5 x6 x7 x8 x9 x10 x11 x12 x13 : Option Sl} {d : D} {r : Ev} {Q : QK} {E : XK} : (@wpM Ph own (14 :: ld) e (x0 :: x1 :: x2 :: x3 :: x4 :: x5 :: x6 :: x7 :: x8 :: x9 :: x10 :: x11 :: x12 :: x13 :: some (.p d) :: r) Q E) = (@wpM Ph own ld e (x0 :: x1 :: x2 :: x3 :: x4 :: x5 :: x6 :: x7 :: x8 :: x9 :: x10 :: x11 :: x12 :: x13 :: some (.p d) :: r) Q E) := wpM_skip rfl
theorem lf_p14 {ld : List Nat} {x0 x1 x2 x3 x4 x5 x6 x7 x8 x9 x10 x11 x12 x13 : Option Sl} {d : D} {r : Ev} {K : RK} : (@lendK (14 :: ld) (x0 :: x1 :: x2 :: x3 :: x4 :: x5 :: x6 :: x7 :: x8 :: x9 :: x10 :: x11 :: x12 :: x13 :: some (.p d) :: r) K) = (@lendK ld (x0 :: x1 :: x2 :: x3 :: x4 :: x5 :: x6 :: x7 :: x8 :: x9 :: x10 :: x11 :: x12 :: x13 :: some (.p d) :: r) K) := id rfl
theorem ld_n14 {Ph : Nat → List D → Rs} {own ld : List Nat} {e : CE} {x0 x1 x2 x3 x4 x5 x6 x7 x8 x9 x10 x11 x12 x13 : Option Sl} {r : Ev} {Q : QK} {E : XK} : (@wpM Ph own (14 :: ld) e (x0 :: x1 :: x2 :: x3 :: x4 :: x5 :: x6 :: x7 :: x8 :: x9 :: x10 :: x11 :: x12 :: x13 :: none :: r) Q E) = (@wpM Ph own ld e (x0 :: x1 :: x2 :: x3 :: x4 :: x5 :: x6 :: x7 :: x8 :: x9 :: x10 :: x11 :: x12 :: x13 :: none :: r) Q E) := wpM_skip rfl
theorem lf_n14 {ld : List Nat} {x0 x1 x2 x3 x4 x5 x6 x7 x8 x9 x10 x11 x12 x13 : Option Sl} {r : Ev} {K : RK} : (@lendK (14 :: ld) (x0 :: x1 :: x2 :: x3 :: x4 :: x5 :: x6 :: x7 :: x8 :: x9 :: x10 :: x11 :: x12 :: x13 :: none :: r) K) = (@lendK ld (x0 :: x1 :: x2 :: x3 :: x4 :: x5 :: x6 :: x7 :: x8 :: x9 :: x10 :: x11 :: x12 :: x13 :: none :: r) K) := id rfl
theorem ld_f14 {Ph : Nat → List D → Rs} {own ld : List Nat} {e : CE} {x0 x1 x2 x3 x4 x5 x6 x7 x8 x9 x10 x11 x12 x13 : Option Sl} {d : Nat} {r : Ev} {Q : QK} {E : XK} : (@wpM Ph own (14 :: ld) e (x0 :: x1 :: x2 :: x3 :: x4 :: x5 :: x6 :: x7 :: x8 :: x9 :: x10 :: x11 :: x12 :: x13 :: some (.f d) :: r) Q E) = (@wpM Ph own ld e (x0 :: x1 :: x2 :: x3 :: x4 :: x5 :: x6 :: x7 :: x8 :: x9 :: x10 :: x11 :: x12 :: x13 :: some (.f d) :: r) Q E) := wpM_skip rfl
theorem lf_f14 {ld : List Nat} {x0 x1 x2 x3 x4 x5 x6 x7 x8 x9 x10 x11 x12 x13 : Option Sl} {d : Nat} {r : Ev} {K : RK} : (@lendK (14 :: ld) (x0 :: x1 :: x2 :: x3 :: x4 :: x5 :: x6 :: x7 :: x8 :: x9 :: x10 :: x11 :: x12 :: x13 :: some (.f d) :: r) K) = (@lendK ld (x0 :: x1 :: x2 :: x3 :: x4 :: x5 :: x6 :: x7 :: x8 :: x9 :: x10 :: x11 :: x12 :: x13 :: some (.f d) :: r) K) := id rfl
theorem ld_o14 {Ph : Nat → List D → Rs} {own ld : List Nat} {e : CE} {x0 x1 x2 x3 x4 x5 x6 x7 x8 x9 x10 x11 x12 x13 : Option Sl} {d : D} {r : Ev} {Q : QK} {E : XK} : (@wpM Ph own (14 :: ld) e (x0 :: x1 :: x2 :: x3 :: x4 :: x5 :: x6 :: x7 :: x8 :: x9 :: x10 :: x11 :: x12 :: x13 :: some (.o d) :: r) Q E) = (@wpM Ph (own ++ [14]) ld e (x0 :: x1 :: x2 :: x3 :: x4 :: x5 :: x6 :: x7 :: x8 :: x9 :: x10 :: x11 :: x12 :: x13 :: some (.o d) :: r) Q E) := wpM_own
theorem lf_o14 {ld : List Nat} {x0 x1 x2 x3 x4 x5 x6 x7 x8 x9 x10 x11 x12 x13 : Option Sl} {d : D} {r : Ev} {K : RK} : (@lendK (14 :: ld) (x0 :: x1 :: x2 :: x3 :: x4 :: x5 :: x6 :: x7 :: x8 :: x9 :: x10 :: x11 :: x12 :: x13 :: some (.o d) :: r) K) = (@lendK ld (x0 :: x1 :: x2 :: x3 :: x4 :: x5 :: x6 :: x7 :: x8 :: x9 :: x10 :: x11 :: x12 :: x13 :: some (.p d) :: r) K) := id rfl
theorem un_14 {ld : List Nat} {x0 x1 x2 x3 x4 x5 x6 x7 x8 x9 x10 x11 x12 x13 : Option Sl} {d : D} {r r1 : Ev} {K : RK} : (@unlK (x0 :: x1 :: x2 :: x3 :: x4 :: x5 :: x6 :: x7 :: x8 :: x9 :: x10 :: x11 :: x12 :: x13 :: some (.o d) :: r) r1 (14 :: ld) K) = (@setK r1 14 (some (.o d)) ⟨fun r2 => @unlK (x0 :: x1 :: x2 :: x3 :: x4 :: x5 :: x6 :: x7 :: x8 :: x9 :: x10 :: x11 :: x12 :: x13 :: some (.o d) :: r) r2 ld K⟩) := id rfl
theorem fn_14 {x0 x1 x2 x3 x4 x5 x6 x7 x8 x9 x10 x11 x12 x13 : Option Sl} {f : Nat} {r : Ev} {k : Nat → Prop} : (@getFK (x0 :: x1 :: x2 :: x3 :: x4 :: x5 :: x6 :: x7 :: x8 :: x9 :: x10 :: x11 :: x12 :: x13 :: some (.f f) :: r) 14 ⟨k⟩) = (k f) := id rfl
theorem var_15 {Ph : Nat → List D → Rs} {x0 x1 x2 x3 x4 x5 x6 x7 x8 x9 x10 x11 x12 x13 x14 : Option Sl} {d : D} {r : Ev} {q : D → Bool → Ev → Prop} {E : XK} : (@wp (ev Ph (.var 15) (x0 :: x1 :: x2 :: x3 :: x4 :: x5 :: x6 :: x7 :: x8 :: x9 :: x10 :: x11 :: x12 :: x13 :: x14 :: some (.p d) :: r)) ⟨q⟩ E) = (q d false (x0 :: x1 :: x2 :: x3 :: x4 :: x5 :: x6 :: x7 :: x8 :: x9 :: x10 :: x11 :: x12 :: x13 :: x14 :: some (.p d) :: r)) := id rfl
theorem set_15 {x0 x1 x2 x3 x4 x5 x6 x7 x8 x9 x10 x11 x12 x13 x14 : Option Sl} {y s : Option Sl} {r : Ev} {k : Ev → Prop} : (@setK (x0 :: x1 :: x2 :: x3 :: x4 :: x5 :: x6 :: x7 :: x8 :: x9 :: x10 :: x11 :: x12 :: x13 :: x14 :: y :: r) 15 s ⟨k⟩) = (k (x0 :: x1 :: x2 :: x3 :: x4 :: x5 :: x6 :: x7 :: x8 :: x9 :: x10 :: x11 :: x12 :: x13 :: x14 :: s :: r)) := id rfl
theorem nm_15 {x0 x1 x2 x3 x4 x5 x6 x7 x8 x9 x10 x11 x12 x13 x14 : Option Sl} {y : Option Sl} {d : D} {r : Ev} {K : RK} : (@bindK (.nm 15) d (x0 :: x1 :: x2 :: x3 :: x4 :: x5 :: x6 :: x7 :: x8 :: x9 :: x10 :: x11 :: x12 :: x13 :: x14 :: y :: r) K) = (@setK (x0 :: x1 :: x2 :: x3 :: x4 :: x5 :: x6 :: x7 :: x8 :: x9 :: x10 :: x11 :: x12 :: x13 :: x14 :: y :: r) 15 (some (.p d)) K) := nmlem (by simp only [List.length_cons]; omega)
theorem get_15 {x0 x1 x2 x3 x4 x5 x6 x7 x8 x9 x10 x11 x12 x13 x14 : Option Sl} {d : D} {r : Ev} {k : D → Prop} : (@getOK (x0 :: x1 :: x2 :: x3 :: x4 :: x5 :: x6 :: x7 :: x8 :: x9 :: x10 :: x11 :: x12 :: x13 :: x14 :: some (.o d) :: r) 15 ⟨k⟩) = (k d) := id rfl
theorem ld_p15 {Ph : Nat → List D → Rs} {own ld : List Nat} {e : CE} {x0 x1 x2 x3 x4 x5 x6 x7 x8 x9 x10 x11 x12 x13 x14 : Option Sl} {d : D} {r : Ev} {Q : QK} {E : XK} : (@wpM Ph own (15 :: ld) e (x0 :: x1 :: x2 :: x3 :: x4 :: x5 :: x6 :: x7 :: x8 :: x9 :: x10 :: x11 :: x12 :: x13 :: x14 :: some (.p d) :: r) Q E) = (@wpM Ph own ld e (x0 :: x1 :: x2 :: x3 :: x4 :: x5 :: x6 :: x7 :: x8 :: x9 :: x10 :: x11 :: x12 :: x13 :: x14 :: some (.p d) :: r) Q E) := wpM_skip rfl
theorem lf_p15 {ld : List Nat} {x0 x1 x2 x3 x4 x5 x6 x7 x8 x9 x10 x11 x12 x13 x14 : Option Sl} {d : D} {r : Ev} {K : RK} : (@lendK (15 :: ld) (x0 :: x1 :: x2 :: x3 :: x4 :: x5 :: x6 :: x7 :: x8 :: x9 :: x10 :: x11 :: x12 :: x13 :: x14 :: some (.p d) :: r) K) = (@lendK ld (x0 :: x1 :: x2 :: x3 :: x4 :: x5 :: x6 :: x7 :: x8 :: x9 :: x10 :: x11 :: x12 :: x13 :: x14 :: some (.p d) :: r) K) := id rfl
theorem ld_n15 {Ph : Nat → List D → Rs} {own ld : List Nat} {e : CE} {x0 x1 x2 x3 x4 x5 x6 x7 x8 x9 x10 x11 x12 x13 x14 : Option Sl} {r : Ev} {Q : QK} {E : XK} : (@wpM Ph own (15 :: ld) e (x0 :: x1 :: x2 :: x3 :: x4 :: x5 :: x6 :: x7 :: x8 :: x9 :: x10 :: x11 :: x12 :: x13 :: x14 :: none :: r) Q E) = (@wpM Ph own ld e (x0 :: x1 :: x2 :: x3 :: x4 :: x5 :: x6 :: x7 :: x8 :: x9 :: x10 :: x11 :: x12 :: x13 :: x14 :: none :: r) Q E) := wpM_skip rfl
theorem lf_n15 {ld : List Nat} {x0 x1 x2 x3 x4 x5 x6 x7 x8 x9 x10 x11 x12 x13 x14 : Option Sl} {r : Ev} {K : RK} : (@lendK (15 :: ld) (x0 :: x1 :: x2 :: x3 :: x4 :: x5 :: x6 :: x7 :: x8 :: x9 :: x10 :: x11 :: x12 :: x13 :: x14 :: none :: r) K) = (@lendK ld (x0 :: x1 :: x2 :: x3 :: x4 :: x5 :: x6 :: x7 :: x8 :: x9 :: x10 :: x11 :: x12 :: x13 :: x14 :: none :: r) K) := id rfl
theorem ld_f15 {Ph : Nat → List D → Rs} {own ld : List Nat} {e : CE} {x0 x1 x2 x3 x4 x5 x6 x7 x8 x9 x10 x11 x12 x13 x14 : Option Sl} {d : Nat} {r : Ev} {Q : QK} {E : XK} : (@wpM Ph own (15 :: ld) e (x0 :: x1 :: x2 :: x3 :: x4 :: x5 :: x6 :: x7 :: x8 :: x9 :: x10 :: x11 :: x12 :: x13 :: x14 :: some (.f d) :: r) Q E) = (@wpM Ph own ld e (x0 :: x1 :: x2 :: x3 :: x4 :: x5 :: x6 :: x7 :: x8 :: x9 :: x10 :: x11 :: x12 :: x13 :: x14 :: some (.f d) :: r) Q E) := wpM_skip rfl
theorem lf_f15 {ld : List Nat} {x0 x1 x2 x3 x4 x5 x6 x7 x8 x9 x10 x11 x12 x13 x14 : Option Sl} {d : Nat} {r : Ev} {K : RK} : (@lendK (15 :: ld) (x0 :: x1 :: x2 :: x3 :: x4 :: x5 :: x6 :: x7 :: x8 :: x9 :: x10 :: x11 :: x12 :: x13 :: x14 :: some (.f d) :: r) K) = (@lendK ld (x0 :: x1 :: x2 :: x3 :: x4 :: x5 :: x6 :: x7 :: x8 :: x9 :: x10 :: x11 :: x12 :: x13 :: x14 :: some (.f d) :: r) K) := id rfl
theorem ld_o15 {Ph : Nat → List D → Rs} {own ld : List Nat} {e : CE} {x0 x1 x2 x3 x4 x5 x6 x7 x8 x9 x10 x11 x12 x13 x14 : Option Sl} {d : D} {r : Ev} {Q : QK} {E : XK} : (@wpM Ph own (15 :: ld) e (x0 :: x1 :: x2 :: x3 :: x4 :: x5 :: x6 :: x7 :: x8 :: x9 :: x10 :: x11 :: x12 :: x13 :: x14 :: some (.o d) :: r) Q E) = (@wpM Ph (own ++ [15]) ld e (x0 :: x1 :: x2 :: x3 :: x4 :: x5 :: x6 :: x7 :: x8 :: x9 :: x10 :: x11 :: x12 :: x13 :: x14 :: some (.o d) :: r) Q E) := wpM_own
theorem lf_o15 {ld : List Nat} {x0 x1 x2 x3 x4 x5 x6 x7 x8 x9 x10 x11 x12 x13 x14 : Option Sl} {d : D} {r : Ev} {K : RK} : (@lendK (15 :: ld) (x0 :: x1 :: x2 :: x3 :: x4 :: x5 :: x6 :: x7 :: x8 :: x9 :: x10 :: x11 :: x12 :: x13 :: x14 :: some (.o d) :: r) K) = (@lendK ld (x0 :: x1 :: x2 :: x3 :: x4 :: x5 :: x6 :: x7 :: x8 :: x9 :: x10 :: x11 :: x12 :: x13 :: x14 :: some (.p d) :: r) K) := id rfl
theorem un_15 {ld : List Nat} {x0 x1 x2 x3 x4 x5 x6 x7 x8 x9 x10 x11 x12 x13 x14 : Option Sl} {d : D} {r r1 : Ev} {K : RK} : (@unlK (x0 :: x1 :: x2 :: x3 :: x4 :: x5 :: x6 :: x7 :: x8 :: x9 :: x10 :: x11 :: x12 :: x13 :: x14 :: some (.o d) :: r) r1 (15 :: ld) K) = (@setK r1 15 (some (.o d)) ⟨fun r2 => @unlK (x0 :: x1 :: x2 :: x3 :: x4 :: x5 :: x6 :: x7 :: x8 :: x9 :: x10 :: x11 :: x12 :: x13 :: x14 :: some (.o d) :: r) r2 ld K⟩) := id rfl
theorem fn_15 {x0 x1 x2 x3 x4 x5 x6 x7 x8 x9 x10 x11 x12 x13 x14 : Option Sl} {f : Nat} {r : Ev} {k : Nat → Prop} : (@getFK (x0 :: x1 :: x2 :: x3 :: x4 :: x5 :: x6 :: x7 :: x8 :: x9 :: x10 :: x11 :: x12 :: x13 :: x14 :: some (.f f) :: r) 15 ⟨k⟩) = (k f) := id rfl
theorem var_16 {Ph : Nat → List D → Rs} {x0 x1 x2 x3 x4 x5 x6 x7 x8 x9 x10 x11 x12 x13 x14 x15 : Option Sl} {d : D} {r : Ev} {q : D → Bool → Ev → Prop} {E : XK} : (@wp (ev Ph (.var 16) (x0 :: x1 :: x2 :: x3 :: x4 :: x5 :: x6 :: x7 :: x8 :: x9 :: x10 :: x11 :: x12 :: x13 :: x14 :: x15 :: some (.p d) :: r)) ⟨q⟩ E) = (q d false (x0 :: x1 :: x2 :: x3 :: x4 :: x5 :: x6 :: x7 :: x8 :: x9 :: x10 :: x11 :: x12 :: x13 :: x14 :: x15 :: some (.p d) :: r)) := id rfl
theorem set_16 {x0 x1 x2 x3 x4 x5 x6 x7 x8 x9 x10 x11 x12 x13 x14 x15 : Option Sl} {y s : Option Sl} {r : Ev} {k : Ev → Prop} : (@setK (x0 :: x1 :: x2 :: x3 :: x4 :: x5 :: x6 :: x7 :: x8 :: x9 :: x10 :: x11 :: x12 :: x13 :: x14 :: x15 :: y :: r) 16 s ⟨k⟩) = (k (x0 :: x1 :: x2 :: x3 :: x4 :: x5 :: x6 :: x7 :: x8 :: x9 :: x10 :: x11 :: x12 :: x13 :: x14 :: x15 :: s :: r)) := id rfl
theorem nm_16 {x0 x1 x2 x3 x4 x5 x6 x7 x8 x9 x10 x11 x12 x13 x14 x15 : Option Sl} {y : Option Sl} {d : D} {r : Ev} {K : RK} : (@bindK (.nm 16) d (x0 :: x1 :: x2 :: x3 :: x4 :: x5 :: x6 :: x7 :: x8 :: x9 :: x10 :: x11 :: x12 :: x13 :: x14 :: x15 :: y :: r) K) = (@setK (x0 :: x1 :: x2 :: x3 :: x4 :: x5 :: x6 :: x7 :: x8 :: x9 :: x10 :: x11 :: x12 :: x13 :: x14 :: x15 :: y :: r) 16 (some (.p d)) K) := nmlem (by simp only [List.length_cons]; omega)
theorem get_16 {x0 x1 x2 x3 x4 x5 x6 x7 x8 x9 x10 x11 x12 x13 x14 x15 : Option Sl} {d : D} {r : Ev} {k : D → Prop} : (@getOK (x0 :: x1 :: x2 :: x3 :: x4 :: x5 :: x6 :: x7 :: x8 :: x9 :: x10 :: x11 :: x12 :: x13 :: x14 :: x15 :: some (.o d) :: r) 16 ⟨k⟩) = (k d) := id rfl
theorem ld_p16 {Ph : Nat → List D → Rs} {own ld : List Nat} {e : CE} {x0 x1 x2 x3 x4 x5 x6 x7 x8 x9 x10 x11 x12 x13 x14 x15 : Option Sl} {d : D} {r : Ev} {Q : QK} {E : XK} : (@wpM Ph own (16 :: ld) e (x0 :: x1 :: x2 :: x3 :: x4 :: x5 :: x6 :: x7 :: x8 :: x9 :: x10 :: x11 :: x12 :: x13 :: x14 :: x15 :: some (.p d) :: r) Q E) = (@wpM Ph own ld e (x0 :: x1 :: x2 :: x3 :: x4 :: x5 :: x6 :: x7 :: x8 :: x9 :: x10 :: x11 :: x12 :: x13 :: x14 :: x15 :: some (.p d) :: r) Q E) := wpM_skip rfl
theorem lf_p16 {ld : List Nat} {x0 x1 x2 x3 x4 x5 x6 x7 x8 x9 x10 x11 x12 x13 x14 x15 : Option Sl} {d : D} {r : Ev} {K : RK} : (@lendK (16 :: ld) (x0 :: x1 :: x2 :: x3 :: x4 :: x5 :: x6 :: x7 :: x8 :: x9 :: x10 :: x11 :: x12 :: x13 :: x14 :: x15 :: some (.p d) :: r) K) = (@lendK ld (x0 :: x1 :: x2 :: x3 :: x4 :: x5 :: x6 :: x7 :: x8 :: x9 :: x10 :: x11 :: x12 :: x13 :: x14 :: x15 :: some (.p d) :: r) K) := id rfl
theorem ld_n16 {Ph : Nat → List D → Rs} {own ld : List Nat} {e : CE} {x0 x1 x2 x3 x4 x5 x6 x7 x8 x9 x10 x11 x12 x13 x14 x15 : Option Sl} {r : Ev} {Q : QK} {E : XK} : (@wpM Ph own (16 :: ld) e (x0 :: x1 :: x2 :: x3 :: x4 :: x5 :: x6 :: x7 :: x8 :: x9 :: x10 :: x11 :: x12 :: x13 :: x14 :: x15 :: none :: r) Q E) = (@wpM Ph own ld e (x0 :: x1 :: x2 :: x3 :: x4 :: x5 :: x6 :: x7 :: x8 :: x9 :: x10 :: x11 :: x12 :: x13 :: x14 :: x15 :: none :: r) Q E) := wpM_skip rfl
theorem lf_n16 {ld : List Nat} {x0 x1 x2 x3 x4 x5 x6 x7 x8 x9 x10 x11 x12 x13 x14 x15 : Option Sl} {r : Ev} {K : RK} : (@lendK (16 :: ld) (x0 :: x1 :: x2 :: x3 :: x4 :: x5 :: x6 :: x7 :: x8 :: x9 :: x10 :: x11 :: x12 :: x13 :: x14 :: x15 :: none :: r) K) = (@lendK ld (x0 :: x1 :: x2 :: x3 :: x4 :: x5 :: x6 :: x7 :: x8 :: x9 :: x10 :: x11 :: x12 :: x13 :: x14 :: x15 :: none :: r) K) := id rfl
theorem ld_f16 {Ph : Nat → List D → Rs} {own ld : List Nat} {e : CE} {x0 x1 x2 x3 x4 x5 x6 x7 x8 x9 x10 x11 x12 x13 x14 x15 : Option Sl} {d : Nat} {r : Ev} {Q : QK} {E : XK} : (@wpM Ph own (16 :: ld) e (x0 :: x1 :: x2 :: x3 :: x4 :: x5 :: x6 :: x7 :: x8 :: x9 :: x10 :: x11 :: x12 :: x13 :: x14 :: x15 :: some (.f d) :: r) Q E) = (@wpM Ph own ld e (x0 :: x1 :: x2 :: x3 :: x4 :: x5 :: x6 :: x7 :: x8 :: x9 :: x10 :: x11 :: x12 :: x13 :: x14 :: x15 :: some (.f d) :: r) Q E) := wpM_skip rfl
theorem lf_f16 {ld : List Nat} {x0 x1 x2 x3 x4 x5 x6 x7 x8 x9 x10 x11 x12 x13 x14 x15 : Option Sl} {d : Nat} {r : Ev} {K : RK} : (@lendK (16 :: ld) (x0 :: x1 :: x2 :: x3 :: x4 :: x5 :: x6 :: x7 :: x8 :: x9 :: x10 :: x11 :: x12 :: x13 :: x14 :: x15 :: some (.f d) :: r) K) = (@lendK ld (x0 :: x1 :: x2 :: x3 :: x4 :: x5 :: x6 :: x7 :: x8 :: x9 :: x10 :: x11 :: x12 :: x13 :: x14 :: x15 :: some (.f d) :: r) K) := id rfl
theorem ld_o16 {Ph : Nat → List D → Rs} {own ld : List Nat} {e : CE} {x0 x1 x2 x3 x4 x5 x6 x7 x8 x9 x10 x11 x12 x13 x14 x15 : Option Sl} {d : D} {r : Ev} {Q : QK} {E : XK} : (@wpM Ph own (16 :: ld) e (x0 :: x1 :: x2 :: x3 :: x4 :: x5 :: x6 :: x7 :: x8 :: x9 :: x10 :: x11 :: x12 :: x13 :: x14 :: x15 :: some (.o d) :: r) Q E) = (@wpM Ph (own ++ [16]) ld e (x0 :: x1 :: x2 :: x3 :: x4 :: x5 :: x6 :: x7 :: x8 :: x9 :: x10 :: x11 :: x12 :: x13 :: x14 :: x15 :: some (.o d) :: r) Q E) := wpM_own
theorem lf_o16 {ld : List Nat} {x0 x1 x2 x3 x4 x5 x6 x7 x8 x9 x10 x11 x12 x13 x14 x15 : Option Sl} {d : D} {r : Ev} {K : RK} : (@lendK (16 :: ld) (x0 :: x1 :: x2 :: x3 :: x4 :: x5 :: x6 :: x7 :: x8 :: x9 :: x10 :: x11 :: x12 :: x13 :: x14 :: x15 :: some (.o d) :: r) K) = (@lendK ld (x0 :: x1 :: x2 :: x3 :: x4 :: x5 :: x6 :: x7 :: x8 :: x9 :: x10 :: x11 :: x12 :: x13 :: x14 :: x15 :: some (.p d) :: r) K) := id rfl
theorem un_16 {ld : List Nat} {x0 x1 x2 x3 x4 x5 x6 x7 x8 x9 x10 x11 x12 x13 x14 x15 : Option Sl} {d : D} {r r1 : Ev} {K : RK} : (@unlK (x0 :: x1 :: x2 :: x3 :: x4 :: x5 :: x6 :: x7 :: x8 :: x9 :: x10 :: x11 :: x12 :: x13 :: x14 :: x15 :: some (.o d) :: r) r1 (16 :: ld) K) = (@setK r1 16 (some (.o d)) ⟨fun r2 => @unlK (x0 :: x1 :: x2 :: x3 :: x4 :: x5 :: x6 :: x7 :: x8 :: x9 :: x10 :: x11 :: x12 :: x13 :: x14 :: x15 :: some (.o d) :: r) r2 ld K⟩) := id rfl
theorem fn_16 {x0 x1 x2 x3 x4 x5 x6 x7 x8 x9 x10 x11 x12 x13 x14 x15 : Option Sl} {f : Nat} {r : Ev} {k : Nat → Prop} : (@getFK (x0 :: x1 :: x2 :: x3 :: x4 :: x5 :: x6 :: x7 :: x8 :: x9 :: x10 :: x11 :: x12 :: x13 :: x14 :: x15 :: some (.f f) :: r) 16 ⟨k⟩) = (k f) := id rfl
theorem var_17 {Ph : Nat → List D → Rs} {x0 x1 x2 x3 x4 x5 x6 x7 x8 x9 x10 x11 x12 x13 x14 x15 x16 : Option Sl} {d : D} {r : Ev} {q : D → Bool → Ev → Prop} {E : XK} : (@wp (ev Ph (.var 17) (x0 :: x1 :: x2 :: x3 :: x4 :: x5 :: x6 :: x7 :: x8 :: x9 :: x10 :: x11 :: x12 :: x13 :: x14 :: x15 :: x16 :: some (.p d) :: r)) ⟨q⟩ E) = (q d false (x0 :: x1 :: x2 :: x3 :: x4 :: x5 :: x6 :: x7 :: x8 :: x9 :: x10 :: x11 :: x12 :: x13 :: x14 :: x15 :: x16 :: some (.p d) :: r)) := id rfl
theorem set_17 {x0 x1 x2 x3 x4 x5 x6 x7 x8 x9 x10 x11 x12 x13 x14 x15 x16 : Option Sl} {y s : Option Sl} {r : Ev} {k : Ev → Prop} : (@setK (x0 :: x1 :: x2 :: x3 :: x4 :: x5 :: x6 :: x7 :: x8 :: x9 :: x10 :: x11 :: x12 :: x13 :: x14 :: x15 :: x16 :: y :: r) 17 s ⟨k⟩) = (k (x0 :: x1 :: x2 :: x3 :: x4 :: x5 :: x6 :: x7 :: x8 :: x9 :: x10 :: x11 :: x12 :: x13 :: x14 :: x15 :: x16 :: s :: r)) := id rfl
theorem nm_17 {x0 x1 x2 x3 x4 x5 x6 x7 x8 x9 x10 x11 x12 x13 x14 x15 x16 : Option Sl} {y : Option Sl} {d : D} {r : Ev} {K : RK} : (@bindK (.nm 17) d (x0 :: x1 :: x2 :: x3 :: x4 :: x5 :: x6 :: x7 :: x8 :: x9 :: x10 :: x11 :: x12 :: x13 :: x14 :: x15 :: x16 :: y :: r) K) = (@setK (x0 :: x1 :: x2 :: x3 :: x4 :: x5 :: x6 :: x7 :: x8 :: x9 :: x10 :: x11 :: x12 :: x13 :: x14 :: x15 :: x16 :: y :: r) 17 (some (.p d)) K) := nmlem (by simp only [List.length_cons]; omega)
theorem get_17 {x0 x1 x2 x3 x4 x5 x6 x7 x8 x9 x10 x11 x12 x13 x14 x15 x16 : Option Sl} {d : D} {r : Ev} {k : D → Prop} : (@getOK (x0 :: x1 :: x2 :: x3 :: x4 :: x5 :: x6 :: x7 :: x8 :: x9 :: x10 :: x11 :: x12 :: x13 :: x14 :: x15 :: x16 :: some (.o d) :: r) 17 ⟨k⟩) = (k d) := id rfl
theorem ld_p17 {Ph : Nat → List D → Rs} {own ld : List Nat} {e : CE} {x0 x1 x2 x3 x4 x5 x6 x7 x8 x9 x10 x11 x12 x13 x14 x15 x16 : Option Sl} {d : D} {r : Ev} {Q : QK} {E : XK} : (@wpM Ph own (17 :: ld) e (x0 :: x1 :: x2 :: x3 :: x4 :: x5 :: x6 :: x7 :: x8 :: x9 :: x10 :: x11 :: x12 :: x13 :: x14 :: x15 :: x16 :: some (.p d) :: r) Q E) = (@wpM Ph own ld e (x0 :: x1 :: x2 :: x3 :: x4 :: x5 :: x6 :: x7 :: x8 :: x9 :: x10 :: x11 :: x12 :: x13 :: x14 :: x15 :: x16 :: some (.p d) :: r) Q E) := wpM_skip rfl
theorem lf_p17 {ld : List Nat} {x0 x1 x2 x3 x4 x5 x6 x7 x8 x9 x10 x11 x12 x13 x14 x15 x16 : Option Sl} {d : D} {r : Ev} {K : RK} : (@lendK (17 :: ld) (x0 :: x1 :: x2 :: x3 :: x4 :: x5 :: x6 :: x7 :: x8 :: x9 :: x10 :: x11 :: x12 :: x13 :: x14 :: x15 :: x16 :: some (.p d) :: r) K) = (@lendK ld (x0 :: x1 :: x2 :: x3 :: x4 :: x5 :: x6 :: x7 :: x8 :: x9 :: x10 :: x11 :: x12 :: x13 :: x14 :: x15 :: x16 :: some (.p d) :: r) K) := id rfl
theorem ld_n17 {Ph : Nat → List D → Rs} {own ld : List Nat} {e : CE} {x0 x1 x2 x3 x4 x5 x6 x7 x8 x9 x10 x11 x12 x13 x14 x15 x16 : Option Sl} {r : Ev} {Q : QK} {E : XK} : (@wpM Ph own (17 :: ld) e (x0 :: x1 :: x2 :: x3 :: x4 :: x5 :: x6 :: x7 :: x8 :: x9 :: x10 :: x11 :: x12 :: x13 :: x14 :: x15 :: x16 :: none :: r) Q E) = (@wpM Ph own ld e (x0 :: x1 :: x2 :: x3 :: x4 :: x5 :: x6 :: x7 :: x8 :: x9 :: x10 :: x11 :: x12 :: x13 :: x14 :: x15 :: x16 :: none :: r) Q E) := wpM_skip rfl
theorem lf_n17 {ld : List Nat} {x0 x1 x2 x3 x4 x5 x6 x7 x8 x9 x10 x11 x12 x13 x14 x15 x16 : Option Sl} {r : Ev} {K : RK} : (@lendK (17 :: ld) (x0 :: x1 :: x2 :: x3 :: x4 :: x5 :: x6 :: x7 :: x8 :: x9 :: x10 :: x11 :: x12 :: x13 :: x14 :: x15 :: x16 :: none :: r) K) = (@lendK ld (x0 :: x1 :: x2 :: x3 :: x4 :: x5 :: x6 :: x7 :: x8 :: x9 :: x10 :: x11 :: x12 :: x13 :: x14 :: x15 :: x16 :: none :: r) K) := id rfl
theorem ld_f17 {Ph : Nat → List D → Rs} {own ld : List Nat} {e : CE} {x0 x1 x2 x3 x4 x5 x6 x7 x8 x9 x10 x11 x12 x13 x14 x15 x16 : Option Sl} {d : Nat} {r : Ev} {Q : QK} {E : XK} : (@wpM Ph own (17 :: ld) e (x0 :: x1 :: x2 :: x3 :: x4 :: x5 :: x6 :: x7 :: x8 :: x9 :: x10 :: x11 :: x12 :: x13 :: x14 :: x15 :: x16 :: some (.f d) :: r) Q E) = (@wpM Ph own ld e (x0 :: x1 :: x2 :: x3 :: x4 :: x5 :: x6 :: x7 :: x8 :: x9 :: x10 :: x11 :: x12 :: x13 :: x14 :: x15 :: x16 :: some (.f d) :: r) Q E) := wpM_skip rfl
theorem lf_f17 {ld : List Nat} {x0 x1 x2 x3 x4 x5 x6 x7 x8 x9 x10 x11 x12 x13 x14 x15 x16 : Option Sl} {d : Nat} {r : Ev} {K : RK} : (@lendK (17 :: ld) (x0 :: x1 :: x2 :: x3 :: x4 :: x5 :: x6 :: x7 :: x8 :: x9 :: x10 :: x11 :: x12 :: x13 :: x14 :: x15 :: x16 :: some (.f d) :: r) K) = (@lendK ld (x0 :: x1 :: x2 :: x3 :: x4 :: x5 :: x6 :: x7 :: x8 :: x9 :: x10 :: x11 :: x12 :: x13 :: x14 :: x15 :: x16 :: some (.f d) :: r) K) := id rfl
theorem ld_o17 {Ph : Nat → List D → Rs} {own ld : List Nat} {e : CE} {x0 x1 x2 x3 x4 x5 x6 x7 x8 x9 x10 x11 x12 x13 x14 x15 x16 : Option Sl} {d : D} {r : Ev} {Q : QK} {E : XK} : (@wpM Ph own (17 :: ld) e (x0 :: x1 :: x2 :: x3 :: x4 :: x5 :: x6 :: x7 :: x8 :: x9 :: x10 :: x11 :: x12 :: x13 :: x14 :: x15 :: x16 :: some (.o d) :: r) Q E) = (@wpM Ph (own ++ [17]) ld e (x0 :: x1 :: x2 :: x3 :: x4 :: x5 :: x6 :: x7 :: x8 :: x9 :: x10 :: x11 :: x12 :: x13 :: x14 :: x15 :: x16 :: some (.o d) :: r) Q E) := wpM_own
theorem lf_o17 {ld : List Nat} {x0 x1 x2 x3 x4 x5 x6 x7 x8 x9 x10 x11 x12 x13 x14 x15 x16 : Option Sl} {d : D} {r : Ev} {K : RK} : (@lendK (17 :: ld) (x0 :: x1 :: x2 :: x3 :: x4 :: x5 :: x6 :: x7 :: x8 :: x9 :: x10 :: x11 :: x12 :: x13 :: x14 :: x15 :: x16 :: some (.o d) :: r) K) = (@lendK ld (x0 :: x1 :: x2 :: x3 :: x4 :: x5 :: x6 :: x7 :: x8 :: x9 :: x10 :: x11 :: x12 :: x13 :: x14 :: x15 :: x16 :: some (.p d) :: r) K) := id rfl
theorem un_17 {ld : List Nat} {x0 x1 x2 x3 x4 x5 x6 x7 x8 x9 x10 x11 x12 x13 x14 x15 x16 : Option Sl} {d : D} {r r1 : Ev} {K : RK} : (@unlK (x0 :: x1 :: x2 :: x3 :: x4 :: x5 :: x6 :: x7 :: x8 :: x9 :: x10 :: x11 :: x12 :: x13 :: x14 :: x15 :: x16 :: some (.o d) :: r) r1 (17 :: ld) K) = (@setK r1 17 (some (.o d)) ⟨fun r2 => @unlK (x0 :: x1 :: x2 :: x3 :: x4 :: x5 :: x6 :: x7 :: x8 :: x9 :: x10 :: x11 :: x12 :: x13 :: x14 :: x15 :: x16 :: some (.o d) :: r) r2 ld K⟩) := id rfl
theorem fn_17 {x0 x1 x2 x3 x4 x5 x6 x7 x8 x9 x10 x11 x12 x13 x14 x15 x16 : Option Sl} {f : Nat} {r : Ev} {k : Nat → Prop} : (@getFK (x0 :: x1 :: x2 :: x3 :: x4 :: x5 :: x6 :: x7 :: x8 :: x9 :: x10 :: x11 :: x12 :: x13 :: x14 :: x15 :: x16 :: some (.f f) :: r) 17 ⟨k⟩) = (k f) := id rfl
theorem var_18 {Ph : Nat → List D → Rs} {x0 x1 x2 x3 x4 x5 x6 x7 x8 x9 x10 x11 x12 x13 x14 x15 x16 x17 : Option Sl} {d : D} {r : Ev} {q : D → Bool → Ev → Prop} {E : XK} : (@wp (ev Ph (.var 18) (x0 :: x1 :: x2 :: x3 :: x4 :: x5 :: x6 :: x7 :: x8 :: x9 :: x10 :: x11 :: x12 :: x13 :: x14 :: x15 :: x16 :: x17 :: some (.p d) :: r)) ⟨q⟩ E) = (q d false (x0 :: x1 :: x2 :: x3 :: x4 :: x5 :: x6 :: x7 :: x8 :: x9 :: x10 :: x11 :: x12 :: x13 :: x14 :: x15 :: x16 :: x17 :: some (.p d) :: r)) := id rfl
theorem set_18 {x0 x1 x2 x3 x4 x5 x6 x7 x8 x9 x10 x11 x12 x13 x14 x15 x16 x17 : Option Sl} {y s : Option Sl} {r : Ev} {k : Ev → Prop} : (@setK (x0 :: x1 :: x2 :: x3 :: x4 :: x5 :: x6 :: x7 :: x8 :: x9 :: x10 :: x11 :: x12 :: x13 :: x14 :: x15 :: x16 :: x17 :: y :: r) 18 s ⟨k⟩) = (k (x0 :: x1 :: x2 :: x3 :: x4 :: x5 :: x6 :: x7 :: x8 :: x9 :: x10 :: x11 :: x12 :: x13 :: x14 :: x15 :: x16 :: x17 :: s :: r)) := id rfl
theorem nm_18 {x0 x1 x2 x3 x4 x5 x6 x7 x8 x9 x10 x11 x12 x13 x14 x15 x16 x17 : Option Sl} {y : Option Sl} {d : D} {r : Ev} {K : RK} : (@bindK (.nm 18) d (x0 :: x1 :: x2 :: x3 :: x4 :: x5 :: x6 :: x7 :: x8 :: x9 :: x10 :: x11 :: x12 :: x13 :: x14 :: x15 :: x16 :: x17 :: y :: r) K) = (@setK (x0 :: x1 :: x2 :: x3 :: x4 :: x5 :: x6 :: x7 :: x8 :: x9 :: x10 :: x11 :: x12 :: x13 :: x14 :: x15 :: x16 :: x17 :: y :: r) 18 (some (.p d)) K) := nmlem (by simp only [List.length_cons]; omega)
theorem get_18 {x0 x1 x2 x3 x4 x5 x6 x7 x8 x9 x10 x11 x12 x13 x14 x15 x16 x17 : Option Sl} {d : D} {r : Ev} {k : D → Prop} : (@getOK (x0 :: x1 :: x2 :: x3 :: x4 :: x5 :: x6 :: x7 :: x8 :: x9 :: x10 :: x11 :: x12 :: x13 :: x14 :: x15 :: x16 :: x17 :: some (.o d) :: r) 18 ⟨k⟩) = (k d) := id rfl
theorem ld_p18 {Ph : Nat → List D → Rs} {own ld : List Nat} {e : CE} {x0 x1 x2 x3 x4 x5 x6 x7 x8 x9 x10 x11 x12 x13 x14 x15 x16 x17 : Option Sl} {d : D} {r : Ev} {Q : QK} {E : XK} : (@wpM Ph own (18 :: ld) e (x0 :: x1 :: x2 :: x3 :: x4 :: x5 :: x6 :: x7 :: x8 :: x9 :: x10 :: x11 :: x12 :: x13 :: x14 :: x15 :: x16 :: x17 :: some (.p d) :: r) Q E) = (@wpM Ph own ld e (x0 :: x1 :: x2 :: x3 :: x4 :: x5 :: x6 :: x7 :: x8 :: x9 :: x10 :: x11 :: x12 :: x13 :: x14 :: x15 :: x16 :: x17 :: some (.p d) :: r) Q E) := wpM_skip rfl
theorem lf_p18 {ld : List Nat} {x0 x1 x2 x3 x4 x5 x6 x7 x8 x9 x10 x11 x12 x13 x14 x15 x16 x17 : Option Sl} {d : D} {r : Ev} {K : RK} : (@lendK (18 :: ld) (x0 :: x1 :: x2 :: x3 :: x4 :: x5 :: x6 :: x7 :: x8 :: x9 :: x10 :: x11 :: x12 :: x13 :: x14 :: x15 :: x16 :: x17 :: some (.p d) :: r) K) = (@lendK ld (x0 :: x1 :: x2 :: x3 :: x4 :: x5 :: x6 :: x7 :: x8 :: x9 :: x10 :: x11 :: x12 :: x13 :: x14 :: x15 :: x16 :: x17 :: some (.p d) :: r) K) := id rfl
theorem ld_n18 {Ph : Nat → List D → Rs} {own ld : List Nat} {e : CE} {x0 x1 x2 x3 x4 x5 x6 x7 x8 x9 x10 x11 x12 x13 x14 x15 x16 x17 : Option Sl} {r : Ev} {Q : QK} {E : XK} : (@wpM Ph own (18 :: ld) e (x0 :: x1 :: x2 :: x3 :: x4 :: x5 :: x6 :: x7 :: x8 :: x9 :: x10 :: x11 :: x12 :: x13 :: x14 :: x15 :: x16 :: x17 :: none :: r) Q E) = (@wpM Ph own ld e (x0 :: x1 :: x2 :: x3 :: x4 :: x5 :: x6 :: x7 :: x8 :: x9 :: x10 :: x11 :: x12 :: x13 :: x14 :: x15 :: x16 :: x17 :: none :: r) Q E) := wpM_skip rfl
theorem lf_n18 {ld : List Nat} {x0 x1 x2 x3 x4 x5 x6 x7 x8 x9 x10 x11 x12 x13 x14 x15 x16 x17 : Option Sl} {r : Ev} {K : RK} : (@lendK (18 :: ld) (x0 :: x1 :: x2 :: x3 :: x4 :: x5 :: x6 :: x7 :: x8 :: x9 :: x10 :: x11 :: x12 :: x13 :: x14 :: x15 :: x16 :: x17 :: none :: r) K) = (@lendK ld (x0 :: x1 :: x2 :: x3 :: x4 :: x5 :: x6 :: x7 :: x8 :: x9 :: x10 :: x11 :: x12 :: x13 :: x14 :: x15 :: x16 :: x17 :: none :: r) K) := id rfl
theorem ld_f18 {Ph : Nat → List D → Rs} {own ld : List Nat} {e : CE} {x0 x1 x2 x3 x4 x5 x6 x7 x8 x9 x10 x11 x12 x13 x14 x15 x16 x17 : Option Sl} {d : Nat} {r : Ev} {Q : QK} {E : XK} : (@wpM Ph own (18 :: ld) e (x0 :: x1 :: x2 :: x3 :: x4 :: x5 :: x6 :: x7 :: x8 :: x9 :: x10 :: x11 :: x12 :: x13 :: x14 :: x15 :: x16 :: x17 :: some (.f d) :: r) Q E) = (@wpM Ph own ld e (x0 :: x1 :: x2 :: x3 :: x4 :: x5 :: x6 :: x7 :: x8 :: x9 :: x10 :: x11 :: x12 :: x13 :: x14 :: x15 :: x16 :: x17 :: some (.f d) :: r) Q E) := wpM_skip rfl
theorem lf_f18 {ld : List Nat} {x0 x1 x2 x3 x4 x5 x6 x7 x8 x9 x10 x11 x12 x13 x14 x15 x16 x17 : Option Sl} {d : Nat} {r : Ev} {K : RK} : (@lendK (18 :: ld) (x0 :: x1 :: x2 :: x3 :: x4 :: x5 :: x6 :: x7 :: x8 :: x9 :: x10 :: x11 :: x12 :: x13 :: x14 :: x15 :: x16 :: x17 :: some (.f d) :: r) K) = (@lendK ld (x0 :: x1 :: x2 :: x3 :: x4 :: x5 :: x6 :: x7 :: x8 :: x9 :: x10 :: x11 :: x12 :: x13 :: x14 :: x15 :: x16 :: x17 :: some (.f d) :: r) K) := id rfl
theorem ld_o18 {Ph : Nat → List D → Rs} {own ld : List Nat} {e : CE} {x0 x1 x2 x3 x4 x5 x6 x7 x8 x9 x10 x11 x12 x13 x14 x15 x16 x17 : Option Sl} {d : D} {r : Ev} {Q : QK} {E : XK} : (@wpM Ph own (18 :: ld) e (x0 :: x1 :: x2 :: x3 :: x4 :: x5 :: x6 :: x7 :: x8 :: x9 :: x10 :: x11 :: x12 :: x13 :: x14 :: x15 :: x16 :: x17 :: some (.o d) :: r) Q E) = (@wpM Ph (own ++ [18]) ld e (x0 :: x1 :: x2 :: x3 :: x4 :: x5 :: x6 :: x7 :: x8 :: x9 :: x10 :: x11 :: x12 :: x13 :: x14 :: x15 :: x16 :: x17 :: some (.o d) :: r) Q E) := wpM_own
theorem lf_o18 {ld : List Nat} {x0 x1 x2 x3 x4 x5 x6 x7 x8 x9 x10 x11 x12 x13 x14 x15 x16 x17 : Option Sl} {d : D} {r : Ev} {K : RK} : (@lendK (18 :: ld) (x0 :: x1 :: x2 :: x3 :: x4 :: x5 :: x6 :: x7 :: x8 :: x9 :: x10 :: x11 :: x12 :: x13 :: x14 :: x15 :: x16 :: x17 :: some (.o d) :: r) K) = (@lendK ld (x0 :: x1 :: x2 :: x3 :: x4 :: x5 :: x6 :: x7 :: x8 :: x9 :: x10 :: x11 :: x12 :: x13 :: x14 :: x15 :: x16 :: x17 :: some (.p d) :: r) K) := id rfl
theorem un_18 {ld : List Nat} {x0 x1 x2 x3 x4 x5 x6 x7 x8 x9 x10 x11 x12 x13 x14 x15 x16 x17 : Option Sl} {d : D} {r r1 : Ev} {K : RK} : (@unlK (x0 :: x1 :: x2 :: x3 :: x4 :: x5 :: x6 :: x7 :: x8 :: x9 :: x10 :: x11 :: x12 :: x13 :: x14 :: x15 :: x16 :: x17 :: some (.o d) :: r) r1 (18 :: ld) K) = (@setK r1 18 (some (.o d)) ⟨fun r2 => @unlK (x0 :: x1 :: x2 :: x3 :: x4 :: x5 :: x6 :: x7 :: x8 :: x9 :: x10 :: x11 :: x12 :: x13 :: x14 :: x15 :: x16 :: x17 :: some (.o d) :: r) r2 ld K⟩) := id rfl
theorem fn_18 {x0 x1 x2 x3 x4 x5 x6 x7 x8 x9 x10 x11 x12 x13 x14 x15 x16 x17 : Option Sl} {f : Nat} {r : Ev} {k : Nat → Prop} : (@getFK (x0 :: x1 :: x2 :: x3 :: x4 :: x5 :: x6 :: x7 :: x8 :: x9 :: x10 :: x11 :: x12 :: x13 :: x14 :: x15 :: x16 :: x17 :: some (.f f) :: r) 18 ⟨k⟩) = (k f) := id rfl
theorem var_19 {Ph : Nat → List D → Rs} {x0 x1 x2 x3 x4 x5 x6 x7 x8 x9 x10 x11 x12 x13 x14 x15 x16 x17 x18 : Option Sl} {d : D} {r : Ev} {q : D → Bool → Ev → Prop} {E : XK} : (@wp (ev Ph (.var 19) (x0 :: x1 :: x2 :: x3 :: x4 :: x5 :: x6 :: x7 :: x8 :: x9 :: x10 :: x11 :: x12 :: x13 :: x14 :: x15 :: x16 :: x17 :: x18 :: some (.p d) :: r)) ⟨q⟩ E) = (q d false (x0 :: x1 :: x2 :: x3 :: x4 :: x5 :: x6 :: x7 :: x8 :: x9 :: x10 :: x11 :: x12 :: x13 :: x14 :: x15 :: x16 :: x17 :: x18 :: some (.p d) :: r)) := id rfl
theorem set_19 {x0 x1 x2 x3 x4 x5 x6 x7 x8 x9 x10 x11 x12 x13 x14 x15 x16 x17 x18 : Option Sl} {y s : Option Sl} {r : Ev} {k : Ev → Prop} : (@setK (x0 :: x1 :: x2 :: x3 :: x4 :: x5 :: x6 :: x7 :: x8 :: x9 :: x10 :: x11 :: x12 :: x13 :: x14 :: x15 :: x16 :: x17 :: x18 :: y :: r) 19 s ⟨k⟩) = (k (x0 :: x1 :: x2 :: x3 :: x4 :: x5 :: x6 :: x7 :: x8 :: x9 :: x10 :: x11 :: x12 :: x13 :: x14 :: x15 :: x16 :: x17 :: x18 :: s :: r)) := id rfl
theorem nm_19 {x0 x1 x2 x3 x4 x5 x6 x7 x8 x9 x10 x11 x12 x13 x14 x15 x16 x17 x18 : Option Sl} {y : Option Sl} {d : D} {r : Ev} {K : RK} : (@bindK (.nm 19) d (x0 :: x1 :: x2 :: x3 :: x4 :: x5 :: x6 :: x7 :: x8 :: x9 :: x10 :: x11 :: x12 :: x13 :: x14 :: x15 :: x16 :: x17 :: x18 :: y :: r) K) = (@setK (x0 :: x1 :: x2 :: x3 :: x4 :: x5 :: x6 :: x7 :: x8 :: x9 :: x10 :: x11 :: x12 :: x13 :: x14 :: x15 :: x16 :: x17 :: x18 :: y :: r) 19 (some (.p d)) K) := nmlem (by simp only [List.length_cons]; omega)
theorem get_19 {x0 x1 x2 x3 x4 x5 x6 x7 x8 x9 x10 x11 x12 x13 x14 x15 x16 x17 x18 : Option Sl} {d : D} {r : Ev} {k : D → Prop} : (@getOK (x0 :: x1 :: x2 :: x3 :: x4 :: x5 :: x6 :: x7 :: x8 :: x9 :: x10 :: x11 :: x12 :: x13 :: x14 :: x15 :: x16 :: x17 :: x18 :: some (.o d) :: r) 19 ⟨k⟩) = (k d) := id rfl
theorem ld_p19 {Ph : Nat → List D → Rs} {own ld : List Nat} {e : CE} {x0 x1 x2 x3 x4 x5 x6 x7 x8 x9 x10 x11 x12 x13 x14 x15 x16 x17 x18 : Option Sl} {d : D} {r : Ev} {Q : QK} {E : XK} : (@wpM Ph own (19 :: ld) e (x0 :: x1 :: x2 :: x3 :: x4 :: x5 :: x6 :: x7 :: x8 :: x9 :: x10 :: x11 :: x12 :: x13 :: x14 :: x15 :: x16 :: x17 :: x18 :: some (.p d) :: r) Q E) = (@wpM Ph own ld e (x0 :: x1 :: x2 :: x3 :: x4 :: x5 :: x6 :: x7 :: x8 :: x9 :: x10 :: x11 :: x12 :: x13 :: x14 :: x15 :: x16 :: x17 :: x18 :: some (.p d) :: r) Q E) := wpM_skip rfl
theorem lf_p19 {ld : List Nat} {x0 x1 x2 x3 x4 x5 x6 x7 x8 x9 x10 x11 x12 x13 x14 x15 x16 x17 x18 : Option Sl} {d : D} {r : Ev} {K : RK} : (@lendK (19 :: ld) (x0 :: x1 :: x2 :: x3 :: x4 :: x5 :: x6 :: x7 :: x8 :: x9 :: x10 :: x11 :: x12 :: x13 :: x14 :: x15 :: x16 :: x17 :: x18 :: some (.p d) :: r) K) = (@lendK ld (x0 :: x1 :: x2 :: x3 :: x4 :: x5 :: x6 :: x7 :: x8 :: x9 :: x10 :: x11 :: x12 :: x13 :: x14 :: x15 :: x16 :: x17 :: x18 :: some (.p d) :: r) K) := id rfl
theorem ld_n19 {Ph : Nat → List D → Rs} {own ld : List Nat} {e : CE} {x0 x1 x2 x3 x4 x5 x6 x7 x8 x9 x10 x11 x12 x13 x14 x15 x16 x17 x18 : Option Sl} {r : Ev} {Q : QK} {E : XK} : (@wpM Ph own (19 :: ld) e (x0 :: x1 :: x2 :: x3 :: x4 :: x5 :: x6 :: x7 :: x8 :: x9 :: x10 :: x11 :: x12 :: x13 :: x14 :: x15 :: x16 :: x17 :: x18 :: none :: r) Q E) = (@wpM Ph own ld e (x0 :: x1 :: x2 :: x3 :: x4 :: x5 :: x6 :: x7 :: x8 :: x9 :: x10 :: x11 :: x12 :: x13 :: x14 :: x15 :: x16 :: x17 :: x18 :: none :: r) Q E) := wpM_skip rfl
theorem lf_n19 {ld : List Nat} {x0 x1 x2 x3 x4 x5 x6 x7 x8 x9 x10 x11 x12 x13 x14 x15 x16 x17 x18 : Option Sl} {r : Ev} {K : RK} : (@lendK (19 :: ld) (x0 :: x1 :: x2 :: x3 :: x4 :: x5 :: x6 :: x7 :: x8 :: x9 :: x10 :: x11 :: x12 :: x13 :: x14 :: x15 :: x16 :: x17 :: x18 :: none :: r) K) = (@lendK ld (x0 :: x1 :: x2 :: x3 :: x4 :: x5 :: x6 :: x7 :: x8 :: x9 :: x10 :: x11 :: x12 :: x13 :: x14 :: x15 :: x16 :: x17 :: x18 :: none :: r) K) := id rfl
theorem ld_f19 {Ph : Nat → List D → Rs} {own ld : List Nat} {e : CE} {x0 x1 x2 x3 x4 x5 x6 x7 x8 x9 x10 x11 x12 x13 x14 x15 x16 x17 x18 : Option Sl} {d : Nat} {r : Ev} {Q : QK} {E : XK} : (@wpM Ph own (19 :: ld) e (x0 :: x1 :: x2 :: x3 :: x4 :: x5 :: x6 :: x7 :: x8 :: x9 :: x10 :: x11 :: x12 :: x13 :: x14 :: x15 :: x16 :: x17 :: x18 :: some (.f d) :: r) Q E) = (@wpM Ph own ld e (x0 :: x1 :: x2 :: x3 :: x4 :: x5 :: x6 :: x7 :: x8 :: x9 :: x10 :: x11 :: x12 :: x13 :: x14 :: x15 :: x16 :: x17 :: x18 :: some (.f d) :: r) Q E) := wpM_skip rfl
theorem lf_f19 {ld : List Nat} {x0 x1 x2 x3 x4 x5 x6 x7 x8 x9 x10 x11 x12 x13 x14 x15 x16 x17 x18 : Option Sl} {d : Nat} {r : Ev} {K : RK} : (@lendK (19 :: ld) (x0 :: x1 :: x2 :: x3 :: x4 :: x5 :: x6 :: x7 :: x8 :: x9 :: x10 :: x11 :: x12 :: x13 :: x14 :: x15 :: x16 :: x17 :: x18 :: some (.f d) :: r) K) = (@lendK ld (x0 :: x1 :: x2 :: x3 :: x4 :: x5 :: x6 :: x7 :: x8 :: x9 :: x10 :: x11 :: x12 :: x13 :: x14 :: x15 :: x16 :: x17 :: x18 :: some (.f d) :: r) K) := id rfl
theorem ld_o19 {Ph : Nat → List D → Rs} {own ld : List Nat} {e : CE} {x0 x1 x2 x3 x4 x5 x6 x7 x8 x9 x10 x11 x12 x13 x14 x15 x16 x17 x18 : Option Sl} {d : D} {r : Ev} {Q : QK} {E : XK} : (@wpM Ph own (19 :: ld) e (x0 :: x1 :: x2 :: x3 :: x4 :: x5 :: x6 :: x7 :: x8 :: x9 :: x10 :: x11 :: x12 :: x13 :: x14 :: x15 :: x16 :: x17 :: x18 :: some (.o d) :: r) Q E) = (@wpM Ph (own ++ [19]) ld e (x0 :: x1 :: x2 :: x3 :: x4 :: x5 :: x6 :: x7 :: x8 :: x9 :: x10 :: x11 :: x12 :: x13 :: x14 :: x15 :: x16 :: x17 :: x18 :: some (.o d) :: r) Q E) := wpM_own
theorem lf_o19 {ld : List Nat} {x0 x1 x2 x3 x4 x5 x6 x7 x8 x9 x10 x11 x12 x13 x14 x15 x16 x17 x18 : Option Sl} {d : D} {r : Ev} {K : RK} : (@lendK (19 :: ld) (x0 :: x1 :: x2 :: x3 :: x4 :: x5 :: x6 :: x7 :: x8 :: x9 :: x10 :: x11 :: x12 :: x13 :: x14 :: x15 :: x16 :: x17 :: x18 :: some (.o d) :: r) K) = (@lendK ld (x0 :: x1 :: x2 :: x3 :: x4 :: x5 :: x6 :: x7 :: x8 :: x9 :: x10 :: x11 :: x12 :: x13 :: x14 :: x15 :: x16 :: x17 :: x18 :: some (.p d) :: r) K) := id rfl
theorem un_19 {ld : List Nat} {x0 x1 x2 x3 x4 x5 x6 x7 x8 x9 x10 x11 x12 x13 x14 x15 x16 x17 x18 : Option Sl} {d : D} {r r1 : Ev} {K : RK} : (@unlK (x0 :: x1 :: x2 :: x3 :: x4 :: x5 :: x6 :: x7 :: x8 :: x9 :: x10 :: x11 :: x12 :: x13 :: x14 :: x15 :: x16 :: x17 :: x18 :: some (.o d) :: r) r1 (19 :: ld) K) = (@setK r1 19 (some (.o d)) ⟨fun r2 => @unlK (x0 :: x1 :: x2 :: x3 :: x4 :: x5 :: x6 :: x7 :: x8 :: x9 :: x10 :: x11 :: x12 :: x13 :: x14 :: x15 :: x16 :: x17 :: x18 :: some (.o d) :: r) r2 ld K⟩) := id rfl
theorem fn_19 {x0 x1 x2 x3 x4 x5 x6 x7 x8 x9 x10 x11 x12 x13 x14 x15 x16 x17 x18 : Option Sl} {f : Nat} {r : Ev} {k : Nat → Prop} : (@getFK (x0 :: x1 :: x2 :: x3 :: x4 :: x5 :: x6 :: x7 :: x8 :: x9 :: x10 :: x11 :: x12 :: x13 :: x14 :: x15 :: x16 :: x17 :: x18 :: some (.f f) :: r) 19 ⟨k⟩) = (k f) := id rfl
theorem var_20 {Ph : Nat → List D → Rs} {x0 x1 x2 x3 x4 x5 x6 x7 x8 x9 x10 x11 x12 x13 x14 x15 x16 x17 x18 x19 : Option Sl} {d : D} {r : Ev} {q : D → Bool → Ev → Prop} {E : XK} : (@wp (ev Ph (.var 20) (x0 :: x1 :: x2 :: x3 :: x4 :: x5 :: x6 :: x7 :: x8 :: x9 :: x10 :: x11 :: x12 :: x13 :: x14 :: x15 :: x16 :: x17 :: x18 :: x19 :: some (.p d) :: r)) ⟨q⟩ E) = (q d false (x0 :: x1 :: x2 :: x3 :: x4 :: x5 :: x6 :: x7 :: x8 :: x9 :: x10 :: x11 :: x12 :: x13 :: x14 :: x15 :: x16 :: x17 :: x18 :: x19 :: some (.p d) :: r)) := id rfl
theorem set_20 {x0 x1 x2 x3 x4 x5 x6 x7 x8 x9 x10 x11 x12 x13 x14 x15 x16 x17 x18 x19 : Option Sl} {y s : Option Sl} {r : Ev} {k : Ev → Prop} : (@setK (x0 :: x1 :: x2 :: x3 :: x4 :: x5 :: x6 :: x7 :: x8 :: x9 :: x10 :: x11 :: x12 :: x13 :: x14 :: x15 :: x16 :: x17 :: x18 :: x19 :: y :: r) 20 s ⟨k⟩) = (k (x0 :: x1 :: x2 :: x3 :: x4 :: x5 :: x6 :: x7 :: x8 :: x9 :: x10 :: x11 :: x12 :: x13 :: x14 :: x15 :: x16 :: x17 :: x18 :: x19 :: s :: r)) := id rfl
theorem nm_20 {x0 x1 x2 x3 x4 x5 x6 x7 x8 x9 x10 x11 x12 x13 x14 x15 x16 x17 x18 x19 : Option Sl} {y : Option Sl} {d : D} {r : Ev} {K : RK} : (@bindK (.nm 20) d (x0 :: x1 :: x2 :: x3 :: x4 :: x5 :: x6 :: x7 :: x8 :: x9 :: x10 :: x11 :: x12 :: x13 :: x14 :: x15 :: x16 :: x17 :: x18 :: x19 :: y :: r) K) = (@setK (x0 :: x1 :: x2 :: x3 :: x4 :: x5 :: x6 :: x7 :: x8 :: x9 :: x10 :: x11 :: x12 :: x13 :: x14 :: x15 :: x16 :: x17 :: x18 :: x19 :: y :: r) 20 (some (.p d)) K) := nmlem (by simp only [List.length_cons]; omega)
theorem get_20 {x0 x1 x2 x3 x4 x5 x6 x7 x8 x9 x10 x11 x12 x13 x14 x15 x16 x17 x18 x19 : Option Sl} {d : D} {r : Ev} {k : D → Prop} : (@getOK (x0 :: x1 :: x2 :: x3 :: x4 :: x5 :: x6 :: x7 :: x8 :: x9 :: x10 :: x11 :: x12 :: x13 :: x14 :: x15 :: x16 :: x17 :: x18 :: x19 :: some (.o d) :: r) 20 ⟨k⟩) = (k d) := id rfl
theorem ld_p20 {Ph : Nat → List D → Rs} {own ld : List Nat} {e : CE} {x0 x1 x2 x3 x4 x5 x6 x7 x8 x9 x10 x11 x12 x13 x14 x15 x16 x17 x18 x19 : Option Sl} {d : D} {r : Ev} {Q : QK} {E : XK} : (@wpM Ph own (20 :: ld) e (x0 :: x1 :: x2 :: x3 :: x4 :: x5 :: x6 :: x7 :: x8 :: x9 :: x10 :: x11 :: x12 :: x13 :: x14 :: x15 :: x16 :: x17 :: x18 :: x19 :: some (.p d) :: r) Q E) = (@wpM Ph own ld e (x0 :: x1 :: x2 :: x3 :: x4 :: x5 :: x6 :: x7 :: x8 :: x9 :: x10 :: x11 :: x12 :: x13 :: x14 :: x15 :: x16 :: x17 :: x18 :: x19 :: some (.p d) :: r) Q E) := wpM_skip rfl
theorem lf_p20 {ld : List Nat} {x0 x1 x2 x3 x4 x5 x6 x7 x8 x9 x10 x11 x12 x13 x14 x15 x16 x17 x18 x19 : Option Sl} {d : D} {r : Ev} {K : RK} : (@lendK (20 :: ld) (x0 :: x1 :: x2 :: x3 :: x4 :: x5 :: x6 :: x7 :: x8 :: x9 :: x10 :: x11 :: x12 :: x13 :: x14 :: x15 :: x16 :: x17 :: x18 :: x19 :: some (.p d) :: r) K) = (@lendK ld (x0 :: x1 :: x2 :: x3 :: x4 :: x5 :: x6 :: x7 :: x8 :: x9 :: x10 :: x11 :: x12 :: x13 :: x14 :: x15 :: x16 :: x17 :: x18 :: x19 :: some (.p d) :: r) K) := id rfl
theorem ld_n20 {Ph : Nat → List D → Rs} {own ld : List Nat} {e : CE} {x0 x1 x2 x3 x4 x5 x6 x7 x8 x9 x10 x11 x12 x13 x14 x15 x16 x17 x18 x19 : Option Sl} {r : Ev} {Q : QK} {E : XK} : (@wpM Ph own (20 :: ld) e (x0 :: x1 :: x2 :: x3 :: x4 :: x5 :: x6 :: x7 :: x8 :: x9 :: x10 :: x11 :: x12 :: x13 :: x14 :: x15 :: x16 :: x17 :: x18 :: x19 :: none :: r) Q E) = (@wpM Ph own ld e (x0 :: x1 :: x2 :: x3 :: x4 :: x5 :: x6 :: x7 :: x8 :: x9 :: x10 :: x11 :: x12 :: x13 :: x14 :: x15 :: x16 :: x17 :: x18 :: x19 :: none :: r) Q E) := wpM_skip rfl
theorem lf_n20 {ld : List Nat} {x0 x1 x2 x3 x4 x5 x6 x7 x8 x9 x10 x11 x12 x13 x14 x15 x16 x17 x18 x19 : Option Sl} {r : Ev} {K : RK} : (@lendK (20 :: ld) (x0 :: x1 :: x2 :: x3 :: x4 :: x5 :: x6 :: x7 :: x8 :: x9 :: x10 :: x11 :: x12 :: x13 :: x14 :: x15 :: x16 :: x17 :: x18 :: x19 :: none :: r) K) = (@lendK ld (x0 :: x1 :: x2 :: x3 :: x4 :: x5 :: x6 :: x7 :: x8 :: x9 :: x10 :: x11 :: x12 :: x13 :: x14 :: x15 :: x16 :: x17 :: x18 :: x19 :: none :: r) K) := id rfl
theorem ld_f20 {Ph : Nat → List D → Rs} {own ld : List Nat} {e : CE} {x0 x1 x2 x3 x4 x5 x6 x7 x8 x9 x10 x11 x12 x13 x14 x15 x16 x17 x18 x19 : Option Sl} {d : Nat} {r : Ev} {Q : QK} {E : XK} : (@wpM Ph own (20 :: ld) e (x0 :: x1 :: x2 :: x3 :: x4 :: x5 :: x6 :: x7 :: x8 :: x9 :: x10 :: x11 :: x12 :: x13 :: x14 :: x15 :: x16 :: x17 :: x18 :: x19 :: some (.f d) :: r) Q E) = (@wpM Ph own ld e (x0 :: x1 :: x2 :: x3 :: x4 :: x5 :: x6 :: x7 :: x8 :: x9 :: x10 :: x11 :: x12 :: x13 :: x14 :: x15 :: x16 :: x17 :: x18 :: x19 :: some (.f d) :: r) Q E) := wpM_skip rfl
theorem lf_f20 {ld : List Nat} {x0 x1 x2 x3 x4 x5 x6 x7 x8 x9 x10 x11 x12 x13 x14 x15 x16 x17 x18 x19 : Option Sl} {d : Nat} {r : Ev} {K : RK} : (@lendK (20 :: ld) (x0 :: x1 :: x2 :: x3 :: x4 :: x5 :: x6 :: x7 :: x8 :: x9 :: x10 :: x11 :: x12 :: x13 :: x14 :: x15 :: x16 :: x17 :: x18 :: x19 :: some (.f d) :: r) K) = (@lendK ld (x0 :: x1 :: x2 :: x3 :: x4 :: x5 :: x6 :: x7 :: x8 :: x9 :: x10 :: x11 :: x12 :: x13 :: x14 :: x15 :: x16 :: x17 :: x18 :: x19 :: some (.f d) :: r) K) := id rfl
theorem ld_o20 {Ph : Nat → List D → Rs} {own ld : List Nat} {e : CE} {x0 x1 x2 x3 x4 x5 x6 x7 x8 x9 x10 x11 x12 x13 x14 x15 x16 x17 x18 x19 : Option Sl} {d : D} {r : Ev} {Q : QK} {E : XK} : (@wpM Ph own (20 :: ld) e (x0 :: x1 :: x2 :: x3 :: x4 :: x5 :: x6 :: x7 :: x8 :: x9 :: x10 :: x11 :: x12 :: x13 :: x14 :: x15 :: x16 :: x17 :: x18 :: x19 :: some (.o d) :: r) Q E) = (@wpM Ph (own ++ [20]) ld e (x0 :: x1 :: x2 :: x3 :: x4 :: x5 :: x6 :: x7 :: x8 :: x9 :: x10 :: x11 :: x12 :: x13 :: x14 :: x15 :: x16 :: x17 :: x18 :: x19 :: some (.o d) :: r) Q E) := wpM_own
theorem lf_o20 {ld : List Nat} {x0 x1 x2 x3 x4 x5 x6 x7 x8 x9 x10 x11 x12 x13 x14 x15 x16 x17 x18 x19 : Option Sl} {d : D} {r : Ev} {K : RK} : (@lendK (20 :: ld) (x0 :: x1 :: x2 :: x3 :: x4 :: x5 :: x6 :: x7 :: x8 :: x9 :: x10 :: x11 :: x12 :: x13 :: x14 :: x15 :: x16 :: x17 :: x18 :: x19 :: some (.o d) :: r) K) = (@lendK ld (x0 :: x1 :: x2 :: x3 :: x4 :: x5 :: x6 :: x7 :: x8 :: x9 :: x10 :: x11 :: x12 :: x13 :: x14 :: x15 :: x16 :: x17 :: x18 :: x19 :: some (.p d) :: r) K) := id rfl
theorem un_20 {ld : List Nat} {x0 x1 x2 x3 x4 x5 x6 x7 x8 x9 x10 x11 x12 x13 x14 x15 x16 x17 x18 x19 : Option Sl} {d : D} {r r1 : Ev} {K : RK} : (@unlK (x0 :: x1 :: x2 :: x3 :: x4 :: x5 :: x6 :: x7 :: x8 :: x9 :: x10 :: x11 :: x12 :: x13 :: x14 :: x15 :: x16 :: x17 :: x18 :: x19 :: some (.o d) :: r) r1 (20 :: ld) K) = (@setK r1 20 (some (.o d)) ⟨fun r2 => @unlK (x0 :: x1 :: x2 :: x3 :: x4 :: x5 :: x6 :: x7 :: x8 :: x9 :: x10 :: x11 :: x12 :: x13 :: x14 :: x15 :: x16 :: x17 :: x18 :: x19 :: some (.o d) :: r) r2 ld K⟩) := id rfl
theorem fn_20 {x0 x1 x2 x3 x4 x5 x6 x7 x8 x9 x10 x11 x12 x13 x14 x15 x16 x17 x18 x19 : Option Sl} {f : Nat} {r : Ev} {k : Nat → Prop} : (@getFK (x0 :: x1 :: x2 :: x3 :: x4 :: x5 :: x6 :: x7 :: x8 :: x9 :: x10 :: x11 :: x12 :: x13 :: x14 :: x15 :: x16 :: x17 :: x18 :: x19 :: some (.f f) :: r) 20 ⟨k⟩) = (k f) := id rfl
theorem var_21 {Ph : Nat → List D → Rs} {x0 x1 x2 x3 x4 x5 x6 x7 x8 x9 x10 x11 x12 x13 x14 x15 x16 x17 x18 x19 x20 : Option Sl} {d : D} {r : Ev} {q : D → Bool → Ev → Prop} {E : XK} : (@wp (ev Ph (.var 21) (x0 :: x1 :: x2 :: x3 :: x4 :: x5 :: x6 :: x7 :: x8 :: x9 :: x10 :: x11 :: x12 :: x13 :: x14 :: x15 :: x16 :: x17 :: x18 :: x19 :: x20 :: some (.p d) :: r)) ⟨q⟩ E) = (q d false (x0 :: x1 :: x2 :: x3 :: x4 :: x5 :: x6 :: x7 :: x8 :: x9 :: x10 :: x11 :: x12 :: x13 :: x14 :: x15 :: x16 :: x17 :: x18 :: x19 :: x20 :: some (.p d) :: r)) := id rfl
theorem set_21 {x0 x1 x2 x3 x4 x5 x6 x7 x8 x9 x10 x11 x12 x13 x14 x15 x16 x17 x18 x19 x20 : Option Sl} {y s : Option Sl} {r : Ev} {k : Ev → Prop} : (@setK (x0 :: x1 :: x2 :: x3 :: x4 :: x5 :: x6 :: x7 :: x8 :: x9 :: x10 :: x11 :: x12 :: x13 :: x14 :: x15 :: x16 :: x17 :: x18 :: x19 :: x20 :: y :: r) 21 s ⟨k⟩) = (k (x0 :: x1 :: x2 :: x3 :: x4 :: x5 :: x6 :: x7 :: x8 :: x9 :: x10 :: x11 :: x12 :: x13 :: x14 :: x15 :: x16 :: x17 :: x18 :: x19 :: x20 :: s :: r)) := id rfl
theorem nm_21 {x0 x1 x2 x3 x4 x5 x6 x7 x8 x9 x10 x11 x12 x13 x14 x15 x16 x17 x18 x19 x20 : Option Sl} {y : Option Sl} {d : D} {r : Ev} {K : RK} : (@bindK (.nm 21) d (x0 :: x1 :: x2 :: x3 :: x4 :: x5 :: x6 :: x7 :: x8 :: x9 :: x10 :: x11 :: x12 :: x13 :: x14 :: x15 :: x16 :: x17 :: x18 :: x19 :: x20 :: y :: r) K) = (@setK (x0 :: x1 :: x2 :: x3 :: x4 :: x5 :: x6 :: x7 :: x8 :: x9 :: x10 :: x11 :: x12 :: x13 :: x14 :: x15 :: x16 :: x17 :: x18 :: x19 :: x20 :: y :: r) 21 (some (.p d)) K) := nmlem (by simp only [List.length_cons]; omega)
theorem get_21 {x0 x1 x2 x3 x4 x5 x6 x7 x8 x9 x10 x11 x12 x13 x14 x15 x16 x17 x18 x19 x20 : Option Sl} {d : D} {r : Ev} {k : D → Prop} : (@getOK (x0 :: x1 :: x2 :: x3 :: x4 :: x5 :: x6 :: x7 :: x8 :: x9 :: x10 :: x11 :: x12 :: x13 :: x14 :: x15 :: x16 :: x17 :: x18 :: x19 :: x20 :: some (.o d) :: r) 21 ⟨k⟩) = (k d) := id rfl
theorem ld_p21 {Ph : Nat → List D → Rs} {own ld : List Nat} {e : CE} {x0 x1 x2 x3 x4 x5 x6 x7 x8 x9 x10 x11 x12 x13 x14 x15 x16 x17 x18 x19 x20 : Option Sl} {d : D} {r : Ev} {Q : QK} {E : XK} : (@wpM Ph own (21 :: ld) e (x0 :: x1 :: x2 :: x3 :: x4 :: x5 :: x6 :: x7 :: x8 :: x9 :: x10 :: x11 :: x12 :: x13 :: x14 :: x15 :: x16 :: x17 :: x18 :: x19 :: x20 :: some (.p d) :: r) Q E) = (@wpM Ph own ld e (x0 :: x1 :: x2 :: x3 :: x4 :: x5 :: x6 :: x7 :: x8 :: x9 :: x10 :: x11 :: x12 :: x13 :: x14 :: x15 :: x16 :: x17 :: x18 :: x19 :: x20 :: some (.p d) :: r) Q E) := wpM_skip rfl
theorem lf_p21 {ld : List Nat} {x0 x1 x2 x3 x4 x5 x6 x7 x8 x9 x10 x11 x12 x13 x14 x15 x16 x17 x18 x19 x20 : Option Sl} {d : D} {r : Ev} {K : RK} : (@lendK (21 :: ld) (x0 :: x1 :: x2 :: x3 :: x4 :: x5 :: x6 :: x7 :: x8 :: x9 :: x10 :: x11 :: x12 :: x13 :: x14 :: x15 :: x16 :: x17 :: x18 :: x19 :: x20 :: some (.p d) :: r) K) = (@lendK ld (x0 :: x1 :: x2 :: x3 :: x4 :: x5 :: x6 :: x7 :: x8 :: x9 :: x10 :: x11 :: x12 :: x13 :: x14 :: x15 :: x16 :: x17 :: x18 :: x19 :: x20 :: some (.p d) :: r) K) := id rfl
theorem ld_n21 {Ph : Nat → List D → Rs} {own ld : List Nat} {e : CE} {x0 x1 x2 x3 x4 x5 x6 x7 x8 x9 x10 x11 x12 x13 x14 x15 x16 x17 x18 x19 x20 : Option Sl} {r : Ev} {Q : QK} {E : XK} : (@wpM Ph own (21 :: ld) e (x0 :: x1 :: x2 :: x3 :: x4 :: x5 :: x6 :: x7 :: x8 :: x9 :: x10 :: x11 :: x12 :: x13 :: x14 :: x15 :: x16 :: x17 :: x18 :: x19 :: x20 :: none :: r) Q E) = (@wpM Ph own ld e (x0 :: x1 :: x2 :: x3 :: x4 :: x5 :: x6 :: x7 :: x8 :: x9 :: x10 :: x11 :: x12 :: x13 :: x14 :: x15 :: x16 :: x17 :: x18 :: x19 :: x20 :: none :: r) Q E) := wpM_skip rfl
theorem lf_n21 {ld : List Nat} {x0 x1 x2 x3 x4 x5 x6 x7 x8 x9 x10 x11 x12 x13 x14 x15 x16 x17 x18 x19 x20 : Option Sl} {r : Ev} {K : RK} : (@lendK (21 :: ld) (x0 :: x1 :: x2 :: x3 :: x4 :: x5 :: x6 :: x7 :: x8 :: x9 :: x10 :: x11 :: x12 :: x13 :: x14 :: x15 :: x16 :: x17 :: x18 :: x19 :: x20 :: none :: r) K) = (@lendK ld (x0 :: x1 :: x2 :: x3 :: x4 :: x5 :: x6 :: x7 :: x8 :: x9 :: x10 :: x11 :: x12 :: x13 :: x14 :: x15 :: x16 :: x17 :: x18 :: x19 :: x20 :: none :: r) K) := id rfl
theorem ld_f21 {Ph : Nat → List D → Rs} {own ld : List Nat} {e : CE} {x0 x1 x2 x3 x4 x5 x6 x7 x8 x9 x10 x11 x12 x13 x14 x15 x16 x17 x18 x19 x20 : Option Sl} {d : Nat} {r : Ev} {Q : QK} {E : XK} : (@wpM Ph own (21 :: ld) e (x0 :: x1 :: x2 :: x3 :: x4 :: x5 :: x6 :: x7 :: x8 :: x9 :: x10 :: x11 :: x12 :: x13 :: x14 :: x15 :: x16 :: x17 :: x18 :: x19 :: x20 :: some (.f d) :: r) Q E) = (@wpM Ph own ld e (x0 :: x1 :: x2 :: x3 :: x4 :: x5 :: x6 :: x7 :: x8 :: x9 :: x10 :: x11 :: x12 :: x13 :: x14 :: x15 :: x16 :: x17 :: x18 :: x19 :: x20 :: some (.f d) :: r) Q E) := wpM_skip rfl
theorem lf_f21 {ld : List Nat} {x0 x1 x2 x3 x4 x5 x6 x7 x8 x9 x10 x11 x12 x13 x14 x15 x16 x17 x18 x19 x20 : Option Sl} {d : Nat} {r : Ev} {K : RK} : (@lendK (21 :: ld) (x0 :: x1 :: x2 :: x3 :: x4 :: x5 :: x6 :: x7 :: x8 :: x9 :: x10 :: x11 :: x12 :: x13 :: x14 :: x15 :: x16 :: x17 :: x18 :: x19 :: x20 :: some (.f d) :: r) K) = (@lendK ld (x0 :: x1 :: x2 :: x3 :: x4 :: x5 :: x6 :: x7 :: x8 :: x9 :: x10 :: x11 :: x12 :: x13 :: x14 :: x15 :: x16 :: x17 :: x18 :: x19 :: x20 :: some (.f d) :: r) K) := id rfl
theorem ld_o21 {Ph : Nat → List D → Rs} {own ld : List Nat} {e : CE} {x0 x1 x2 x3 x4 x5 x6 x7 x8 x9 x10 x11 x12 x13 x14 x15 x16 x17 x18 x19 x20 : Option Sl} {d : D} {r : Ev} {Q : QK} {E : XK} : (@wpM Ph own (21 :: ld) e (x0 :: x1 :: x2 :: x3 :: x4 :: x5 :: x6 :: x7 :: x8 :: x9 :: x10 :: x11 :: x12 :: x13 :: x14 :: x15 :: x16 :: x17 :: x18 :: x19 :: x20 :: some (.o d) :: r) Q E) = (@wpM Ph (own ++ [21]) ld e (x0 :: x1 :: x2 :: x3 :: x4 :: x5 :: x6 :: x7 :: x8 :: x9 :: x10 :: x11 :: x12 :: x13 :: x14 :: x15 :: x16 :: x17 :: x18 :: x19 :: x20 :: some (.o d) :: r) Q E) := wpM_own
theorem lf_o21 {ld : List Nat} {x0 x1 x2 x3 x4 x5 x6 x7 x8 x9 x10 x11 x12 x13 x14 x15 x16 x17 x18 x19 x20 : Option Sl} {d : D} {r : Ev} {K : RK} : (@lendK (21 :: ld) (x0 :: x1 :: x2 :: x3 :: x4 :: x5 :: x6 :: x7 :: x8 :: x9 :: x10 :: x11 :: x12 :: x13 :: x14 :: x15 :: x16 :: x17 :: x18 :: x19 :: x20 :: some (.o d) :: r) K) = (@lendK ld (x0 :: x1 :: x2 :: x3 :: x4 :: x5 :: x6 :: x7 :: x8 :: x9 :: x10 :: x11 :: x12 :: x13 :: x14 :: x15 :: x16 :: x17 :: x18 :: x19 :: x20 :: some (.p d) :: r) K) := id rfl
theorem un_21 {ld : List Nat} {x0 x1 x2 x3 x4 x5 x6 x7 x8 x9 x10 x11 x12 x13 x14 x15 x16 x17 x18 x19 x20 : Option Sl} {d : D} {r r1 : Ev} {K : RK} : (@unlK (x0 :: x1 :: x2 :: x3 :: x4 :: x5 :: x6 :: x7 :: x8 :: x9 :: x10 :: x11 :: x12 :: x13 :: x14 :: x15 :: x16 :: x17 :: x18 :: x19 :: x20 :: some (.o d) :: r) r1 (21 :: ld) K) = (@setK r1 21 (some (.o d)) ⟨fun r2 => @unlK (x0 :: x1 :: x2 :: x3 :: x4 :: x5 :: x6 :: x7 :: x8 :: x9 :: x10 :: x11 :: x12 :: x13 :: x14 :: x15 :: x16 :: x17 :: x18 :: x19 :: x20 :: some (.o d) :: r) r2 ld K⟩) := id rfl
theorem fn_21 {x0 x1 x2 x3 x4 x5 x6 x7 x8 x9 x10 x11 x12 x13 x14 x15 x16 x17 x18 x19 x20 : Option Sl} {f : Nat} {r : Ev} {k : Nat → Prop} : (@getFK (x0 :: x1 :: x2 :: x3 :: x4 :: x5 :: x6 :: x7 :: x8 :: x9 :: x10 :: x11 :: x12 :: x13 :: x14 :: x15 :: x16 :: x17 :: x18 :: x19 :: x20 :: some (.f f) :: r) 21 ⟨k⟩) = (k f) := id rfl
theorem var_22 {Ph : Nat → List D → Rs} {x0 x1 x2 x3 x4 x5 x6 x7 x8 x9 x10 x11 x12 x13 x14 x15 x16 x17 x18 x19 x20 x21 : Option Sl} {d : D} {r : Ev} {q : D → Bool → Ev → Prop} {E : XK} : (@wp (ev Ph (.var 22) (x0 :: x1 :: x2 :: x3 :: x4 :: x5 :: x6 :: x7 :: x8 :: x9 :: x10 :: x11 :: x12 :: x13 :: x14 :: x15 :: x16 :: x17 :: x18 :: x19 :: x20 :: x21 :: some (.p d) :: r)) ⟨q⟩ E) = (q d false (x0 :: x1 :: x2 :: x3 :: x4 :: x5 :: x6 :: x7 :: x8 :: x9 :: x10 :: x11 :: x12 :: x13 :: x14 :: x15 :: x16 :: x17 :: x18 :: x19 :: x20 :: x21 :: some (.p d) :: r)) := id rfl
theorem set_22 {x0 x1 x2 x3 x4 x5 x6 x7 x8 x9 x10 x11 x12 x13 x14 x15 x16 x17 x18 x19 x20 x21 : Option Sl} {y s : Option Sl} {r : Ev} {k : Ev → Prop} : (@setK (x0 :: x1 :: x2 :: x3 :: x4 :: x5 :: x6 :: x7 :: x8 :: x9 :: x10 :: x11 :: x12 :: x13 :: x14 :: x15 :: x16 :: x17 :: x18 :: x19 :: x20 :: x21 :: y :: r) 22 s ⟨k⟩) = (k (x0 :: x1 :: x2 :: x3 :: x4 :: x5 :: x6 :: x7 :: x8 :: x9 :: x10 :: x11 :: x12 :: x13 :: x14 :: x15 :: x16 :: x17 :: x18 :: x19 :: x20 :: x21 :: s :: r)) := id rfl
theorem nm_22 {x0 x1 x2 x3 x4 x5 x6 x7 x8 x9 x10 x11 x12 x13 x14 x15 x16 x17 x18 x19 x20 x21 : Option Sl} {y : Option Sl} {d : D} {r : Ev} {K : RK} : (@bindK (.nm 22) d (x0 :: x1 :: x2 :: x3 :: x4 :: x5 :: x6 :: x7 :: x8 :: x9 :: x10 :: x11 :: x12 :: x13 :: x14 :: x15 :: x16 :: x17 :: x18 :: x19 :: x20 :: x21 :: y :: r) K) = (@setK (x0 :: x1 :: x2 :: x3 :: x4 :: x5 :: x6 :: x7 :: x8 :: x9 :: x10 :: x11 :: x12 :: x13 :: x14 :: x15 :: x16 :: x17 :: x18 :: x19 :: x20 :: x21 :: y :: r) 22 (some (.p d)) K) := nmlem (by simp only [List.length_cons]; omega)
theorem get_22 {x0 x1 x2 x3 x4 x5 x6 x7 x8 x9 x10 x11 x12 x13 x14 x15 x16 x17 x18 x19 x20 x21 : Option Sl} {d : D} {r : Ev} {k : D → Prop} : (@getOK (x0 :: x1 :: x2 :: x3 :: x4 :: x5 :: x6 :: x7 :: x8 :: x9 :: x10 :: x11 :: x12 :: x13 :: x14 :: x15 :: x16 :: x17 :: x18 :: x19 :: x20 :: x21 :: some (.o d) :: r) 22 ⟨k⟩) = (k d) := id rfl
theorem ld_p22 {Ph : Nat → List D → Rs} {own ld : List Nat} {e : CE} {x0 x1 x2 x3 x4 x5 x6 x7 x8 x9 x10 x11 x12 x13 x14 x15 x16 x17 x18 x19 x20 x21 : Option Sl} {d : D} {r : Ev} {Q : QK} {E : XK} : (@wpM Ph own (22 :: ld) e (x0 :: x1 :: x2 :: x3 :: x4 :: x5 :: x6 :: x7 :: x8 :: x9 :: x10 :: x11 :: x12 :: x13 :: x14 :: x15 :: x16 :: x17 :: x18 :: x19 :: x20 :: x21 :: some (.p d) :: r) Q E) = (@wpM Ph own ld e (x0 :: x1 :: x2 :: x3 :: x4 :: x5 :: x6 :: x7 :: x8 :: x9 :: x10 :: x11 :: x12 :: x13 :: x14 :: x15 :: x16 :: x17 :: x18 :: x19 :: x20 :: x21 :: some (.p d) :: r) Q E) := wpM_skip rfl
theorem lf_p22 {ld : List Nat} {x0 x1 x2 x3 x4 x5 x6 x7 x8 x9 x10 x11 x12 x13 x14 x15 x16 x17 x18 x19 x20 x21 : Option Sl} {d : D} {r : Ev} {K : RK} : (@lendK (22 :: ld) (x0 :: x1 :: x2 :: x3 :: x4 :: x5 :: x6 :: x7 :: x8 :: x9 :: x10 :: x11 :: x12 :: x13 :: x14 :: x15 :: x16 :: x17 :: x18 :: x19 :: x20 :: x21 :: some (.p d) :: r) K) = (@lendK ld (x0 :: x1 :: x2 :: x3 :: x4 :: x5 :: x6 :: x7 :: x8 :: x9 :: x10 :: x11 :: x12 :: x13 :: x14 :: x15 :: x16 :: x17 :: x18 :: x19 :: x20 :: x21 :: some (.p d) :: r) K) := id rfl
theorem ld_n22 {Ph : Nat → List D → Rs} {own ld : List Nat} {e : CE} {x0 x1 x2 x3 x4 x5 x6 x7 x8 x9 x10 x11 x12 x13 x14 x15 x16 x17 x18 x19 x20 x21 : Option Sl} {r : Ev} {Q : QK} {E : XK} : (@wpM Ph own (22 :: ld) e (x0 :: x1 :: x2 :: x3 :: x4 :: x5 :: x6 :: x7 :: x8 :: x9 :: x10 :: x11 :: x12 :: x13 :: x14 :: x15 :: x16 :: x17 :: x18 :: x19 :: x20 :: x21 :: none :: r) Q E) = (@wpM Ph own ld e (x0 :: x1 :: x2 :: x3 :: x4 :: x5 :: x6 :: x7 :: x8 :: x9 :: x10 :: x11 :: x12 :: x13 :: x14 :: x15 :: x16 :: x17 :: x18 :: x19 :: x20 :: x21 :: none :: r) Q E) := wpM_skip rfl
theorem lf_n22 {ld : List Nat} {x0 x1 x2 x3 x4 x5 x6 x7 x8 x9 x10 x11 x12 x13 x14 x15 x16 x17 x18 x19 x20 x21 : Option Sl} {r : Ev} {K : RK} : (@lendK (22 :: ld) (x0 :: x1 :: x2 :: x3 :: x4 :: x5 :: x6 :: x7 :: x8 :: x9 :: x10 :: x11 :: x12 :: x13 :: x14 :: x15 :: x16 :: x17 :: x18 :: x19 :: x20 :: x21 :: none :: r) K) = (@lendK ld (x0 :: x1 :: x2 :: x3 :: x4 :: x5 :: x6 :: x7 :: x8 :: x9 :: x10 :: x11 :: x12 :: x13 :: x14 :: x15 :: x16 :: x17 :: x18 :: x19 :: x20 :: x21 :: none :: r) K) := id rfl
theorem ld_f22 {Ph : Nat → List D → Rs} {own ld : List Nat} {e : CE} {x0 x1 x2 x3 x4 x5 x6 x7 x8 x9 x10 x11 x12 x13 x14 x15 x16 x17 x18 x19 x20 x21 : Option Sl} {d : Nat} {r : Ev} {Q : QK} {E : XK} : (@wpM Ph own (22 :: ld) e (x0 :: x1 :: x2 :: x3 :: x4 :: x5 :: x6 :: x7 :: x8 :: x9 :: x10 :: x11 :: x12 :: x13 :: x14 :: x15 :: x16 :: x17 :: x18 :: x19 :: x20 :: x21 :: some (.f d) :: r) Q E) = (@wpM Ph own ld e (x0 :: x1 :: x2 :: x3 :: x4 :: x5 :: x6 :: x7 :: x8 :: x9 :: x10 :: x11 :: x12 :: x13 :: x14 :: x15 :: x16 :: x17 :: x18 :: x19 :: x20 :: x21 :: some (.f d) :: r) Q E) := wpM_skip rfl
theorem lf_f22 {ld : List Nat} {x0 x1 x2 x3 x4 x5 x6 x7 x8 x9 x10 x11 x12 x13 x14 x15 x16 x17 x18 x19 x20 x21 : Option Sl} {d : Nat} {r : Ev} {K : RK} : (@lendK (22 :: ld) (x0 :: x1 :: x2 :: x3 :: x4 :: x5 :: x6 :: x7 :: x8 :: x9 :: x10 :: x11 :: x12 :: x13 :: x14 :: x15 :: x16 :: x17 :: x18 :: x19 :: x20 :: x21 :: some (.f d) :: r) K) = (@lendK ld (x0 :: x1 :: x2 :: x3 :: x4 :: x5 :: x6 :: x7 :: x8 :: x9 :: x10 :: x11 :: x12 :: x13 :: x14 :: x15 :: x16 :: x17 :: x18 :: x19 :: x20 :: x21 :: some (.f d) :: r) K) := id rfl
theorem ld_o22 {Ph : Nat → List D → Rs} {own ld : List Nat} {e : CE} {x0 x1 x2 x3 x4 x5 x6 x7 x8 x9 x10 x11 x12 x13 x14 x15 x16 x17 x18 x19 x20 x21 : Option Sl} {d : D} {r : Ev} {Q : QK} {E : XK} : (@wpM Ph own (22 :: ld) e (x0 :: x1 :: x2 :: x3 :: x4 :: x5 :: x6 :: x7 :: x8 :: x9 :: x10 :: x11 :: x12 :: x13 :: x14 :: x15 :: x16 :: x17 :: x18 :: x19 :: x20 :: x21 :: some (.o d) :: r) Q E) = (@wpM Ph (own ++ [22]) ld e (x0 :: x1 :: x2 :: x3 :: x4 :: x5 :: x6 :: x7 :: x8 :: x9 :: x10 :: x11 :: x12 :: x13 :: x14 :: x15 :: x16 :: x17 :: x18 :: x19 :: x20 :: x21 :: some (.o d) :: r) Q E) := wpM_own
theorem lf_o22 {ld : List Nat} {x0 x1 x2 x3 x4 x5 x6 x7 x8 x9 x10 x11 x12 x13 x14 x15 x16 x17 x18 x19 x20 x21 : Option Sl} {d : D} {r : Ev} {K : RK} : (@lendK (22 :: ld) (x0 :: x1 :: x2 :: x3 :: x4 :: x5 :: x6 :: x7 :: x8 :: x9 :: x10 :: x11 :: x12 :: x13 :: x14 :: x15 :: x16 :: x17 :: x18 :: x19 :: x20 :: x21 :: some (.o d) :: r) K) = (@lendK ld (x0 :: x1 :: x2 :: x3 :: x4 :: x5 :: x6 :: x7 :: x8 :: x9 :: x10 :: x11 :: x12 :: x13 :: x14 :: x15 :: x16 :: x17 :: x18 :: x19 :: x20 :: x21 :: some (.p d) :: r) K) := id rfl
theorem un_22 {ld : List Nat} {x0 x1 x2 x3 x4 x5 x6 x7 x8 x9 x10 x11 x12 x13 x14 x15 x16 x17 x18 x19 x20 x21 : Option Sl} {d : D} {r r1 : Ev} {K : RK} : (@unlK (x0 :: x1 :: x2 :: x3 :: x4 :: x5 :: x6 :: x7 :: x8 :: x9 :: x10 :: x11 :: x12 :: x13 :: x14 :: x15 :: x16 :: x17 :: x18 :: x19 :: x20 :: x21 :: some (.o d) :: r) r1 (22 :: ld) K) = (@setK r1 22 (some (.o d)) ⟨fun r2 => @unlK (x0 :: x1 :: x2 :: x3 :: x4 :: x5 :: x6 :: x7 :: x8 :: x9 :: x10 :: x11 :: x12 :: x13 :: x14 :: x15 :: x16 :: x17 :: x18 :: x19 :: x20 :: x21 :: some (.o d) :: r) r2 ld K⟩) := id rfl
theorem fn_22 {x0 x1 x2 x3 x4 x5 x6 x7 x8 x9 x10 x11 x12 x13 x14 x15 x16 x17 x18 x19 x20 x21 : Option Sl} {f : Nat} {r : Ev} {k : Nat → Prop} : (@getFK (x0 :: x1 :: x2 :: x3 :: x4 :: x5 :: x6 :: x7 :: x8 :: x9 :: x10 :: x11 :: x12 :: x13 :: x14 :: x15 :: x16 :: x17 :: x18 :: x19 :: x20 :: x21 :: some (.f f) :: r) 22 ⟨k⟩) = (k f) := id rfl
theorem var_23 {Ph : Nat → List D → Rs} {x0 x1 x2 x3 x4 x5 x6 x7 x8 x9 x10 x11 x12 x13 x14 x15 x16 x17 x18 x19 x20 x21 x22 : Option Sl} {d : D} {r : Ev} {q : D → Bool → Ev → Prop} {E : XK} : (@wp (ev Ph (.var 23) (x0 :: x1 :: x2 :: x3 :: x4 :: x5 :: x6 :: x7 :: x8 :: x9 :: x10 :: x11 :: x12 :: x13 :: x14 :: x15 :: x16 :: x17 :: x18 :: x19 :: x20 :: x21 :: x22 :: some (.p d) :: r)) ⟨q⟩ E) = (q d false (x0 :: x1 :: x2 :: x3 :: x4 :: x5 :: x6 :: x7 :: x8 :: x9 :: x10 :: x11 :: x12 :: x13 :: x14 :: x15 :: x16 :: x17 :: x18 :: x19 :: x20 :: x21 :: x22 :: some (.p d) :: r)) := id rfl
theorem set_23 {x0 x1 x2 x3 x4 x5 x6 x7 x8 x9 x10 x11 x12 x13 x14 x15 x16 x17 x18 x19 x20 x21 x22 : Option Sl} {y s : Option Sl} {r : Ev} {k : Ev → Prop} : (@setK (x0 :: x1 :: x2 :: x3 :: x4 :: x5 :: x6 :: x7 :: x8 :: x9 :: x10 :: x11 :: x12 :: x13 :: x14 :: x15 :: x16 :: x17 :: x18 :: x19 :: x20 :: x21 :: x22 :: y :: r) 23 s ⟨k⟩) = (k (x0 :: x1 :: x2 :: x3 :: x4 :: x5 :: x6 :: x7 :: x8 :: x9 :: x10 :: x11 :: x12 :: x13 :: x14 :: x15 :: x16 :: x17 :: x18 :: x19 :: x20 :: x21 :: x22 :: s :: r)) := id rfl
theorem nm_23 {x0 x1 x2 x3 x4 x5 x6 x7 x8 x9 x10 x11 x12 x13 x14 x15 x16 x17 x18 x19 x20 x21 x22 : Option Sl} {y : Option Sl} {d : D} {r : Ev} {K : RK} : (@bindK (.nm 23) d (x0 :: x1 :: x2 :: x3 :: x4 :: x5 :: x6 :: x7 :: x8 :: x9 :: x10 :: x11 :: x12 :: x13 :: x14 :: x15 :: x16 :: x17 :: x18 :: x19 :: x20 :: x21 :: x22 :: y :: r) K) = (@setK (x0 :: x1 :: x2 :: x3 :: x4 :: x5 :: x6 :: x7 :: x8 :: x9 :: x10 :: x11 :: x12 :: x13 :: x14 :: x15 :: x16 :: x17 :: x18 :: x19 :: x20 :: x21 :: x22 :: y :: r) 23 (some (.p d)) K) := nmlem (by simp only [List.length_cons]; omega)
theorem get_23 {x0 x1 x2 x3 x4 x5 x6 x7 x8 x9 x10 x11 x12 x13 x14 x15 x16 x17 x18 x19 x20 x21 x22 : Option Sl} {d : D} {r : Ev} {k : D → Prop} : (@getOK (x0 :: x1 :: x2 :: x3 :: x4 :: x5 :: x6 :: x7 :: x8 :: x9 :: x10 :: x11 :: x12 :: x13 :: x14 :: x15 :: x16 :: x17 :: x18 :: x19 :: x20 :: x21 :: x22 :: some (.o d) :: r) 23 ⟨k⟩) = (k d) := id rfl
theorem ld_p23 {Ph : Nat → List D → Rs} {own ld : List Nat} {e : CE} {x0 x1 x2 x3 x4 x5 x6 x7 x8 x9 x10 x11 x12 x13 x14 x15 x16 x17 x18 x19 x20 x21 x22 : Option Sl} {d : D} {r : Ev} {Q : QK} {E : XK} : (@wpM Ph own (23 :: ld) e (x0 :: x1 :: x2 :: x3 :: x4 :: x5 :: x6 :: x7 :: x8 :: x9 :: x10 :: x11 :: x12 :: x13 :: x14 :: x15 :: x16 :: x17 :: x18 :: x19 :: x20 :: x21 :: x22 :: some (.p d) :: r) Q E) = (@wpM Ph own ld e (x0 :: x1 :: x2 :: x3 :: x4 :: x5 :: x6 :: x7 :: x8 :: x9 :: x10 :: x11 :: x12 :: x13 :: x14 :: x15 :: x16 :: x17 :: x18 :: x19 :: x20 :: x21 :: x22 :: some (.p d) :: r) Q E) := wpM_skip rfl
theorem lf_p23 {ld : List Nat} {x0 x1 x2 x3 x4 x5 x6 x7 x8 x9 x10 x11 x12 x13 x14 x15 x16 x17 x18 x19 x20 x21 x22 : Option Sl} {d : D} {r : Ev} {K : RK} : (@lendK (23 :: ld) (x0 :: x1 :: x2 :: x3 :: x4 :: x5 :: x6 :: x7 :: x8 :: x9 :: x10 :: x11 :: x12 :: x13 :: x14 :: x15 :: x16 :: x17 :: x18 :: x19 :: x20 :: x21 :: x22 :: some (.p d) :: r) K) = (@lendK ld (x0 :: x1 :: x2 :: x3 :: x4 :: x5 :: x6 :: x7 :: x8 :: x9 :: x10 :: x11 :: x12 :: x13 :: x14 :: x15 :: x16 :: x17 :: x18 :: x19 :: x20 :: x21 :: x22 :: some (.p d) :: r) K) := id rfl
theorem ld_n23 {Ph : Nat → List D → Rs} {own ld : List Nat} {e : CE} {x0 x1 x2 x3 x4 x5 x6 x7 x8 x9 x10 x11 x12 x13 x14 x15 x16 x17 x18 x19 x20 x21 x22 : Option Sl} {r : Ev} {Q : QK} {E : XK} : (@wpM Ph own (23 :: ld) e (x0 :: x1 :: x2 :: x3 :: x4 :: x5 :: x6 :: x7 :: x8 :: x9 :: x10 :: x11 :: x12 :: x13 :: x14 :: x15 :: x16 :: x17 :: x18 :: x19 :: x20 :: x21 :: x22 :: none :: r) Q E) = (@wpM Ph own ld e (x0 :: x1 :: x2 :: x3 :: x4 :: x5 :: x6 :: x7 :: x8 :: x9 :: x10 :: x11 :: x12 :: x13 :: x14 :: x15 :: x16 :: x17 :: x18 :: x19 :: x20 :: x21 :: x22 :: none :: r) Q E) := wpM_skip rfl
theorem lf_n23 {ld : List Nat} {x0 x1 x2 x3 x4 x5 x6 x7 x8 x9 x10 x11 x12 x13 x14 x15 x16 x17 x18 x19 x20 x21 x22 : Option Sl} {r : Ev} {K : RK} : (@lendK (23 :: ld) (x0 :: x1 :: x2 :: x3 :: x4 :: x5 :: x6 :: x7 :: x8 :: x9 :: x10 :: x11 :: x12 :: x13 :: x14 :: x15 :: x16 :: x17 :: x18 :: x19 :: x20 :: x21 :: x22 :: none :: r) K) = (@lendK ld (x0 :: x1 :: x2 :: x3 :: x4 :: x5 :: x6 :: x7 :: x8 :: x9 :: x10 :: x11 :: x12 :: x13 :: x14 :: x15 :: x16 :: x17 :: x18 :: x19 :: x20 :: x21 :: x22 :: none :: r) K) := id rfl
theorem ld_f23 {Ph : Nat → List D → Rs} {own ld : List Nat} {e : CE} {x0 x1 x2 x3 x4 x5 x6 x7 x8 x9 x10 x11 x12 x13 x14 x15 x16 x17 x18 x19 x20 x21 x22 : Option Sl} {d : Nat} {r : Ev} {Q : QK} {E : XK} : (@wpM Ph own (23 :: ld) e (x0 :: x1 :: x2 :: x3 :: x4 :: x5 :: x6 :: x7 :: x8 :: x9 :: x10 :: x11 :: x12 :: x13 :: x14 :: x15 :: x16 :: x17 :: x18 :: x19 :: x20 :: x21 :: x22 :: some (.f d) :: r) Q E) = (@wpM Ph own ld e (x0 :: x1 :: x2 :: x3 :: x4 :: x5 :: x6 :: x7 :: x8 :: x9 :: x10 :: x11 :: x12 :: x13 :: x14 :: x15 :: x16 :: x17 :: x18 :: x19 :: x20 :: x21 :: x22 :: some (.f d) :: r) Q E) := wpM_skip rfl
theorem lf_f23 {ld : List Nat} {x0 x1 x2 x3 x4 x5 x6 x7 x8 x9 x10 x11 x12 x13 x14 x15 x16 x17 x18 x19 x20 x21 x22 : Option Sl} {d : Nat} {r : Ev} {K : RK} : (@lendK (23 :: ld) (x0 :: x1 :: x2 :: x3 :: x4 :: x5 :: x6 :: x7 :: x8 :: x9 :: x10 :: x11 :: x12 :: x13 :: x14 :: x15 :: x16 :: x17 :: x18 :: x19 :: x20 :: x21 :: x22 :: some (.f d) :: r) K) = (@lendK ld (x0 :: x1 :: x2 :: x3 :: x4 :: x5 :: x6 :: x7 :: x8 :: x9 :: x10 :: x11 :: x12 :: x13 :: x14 :: x15 :: x16 :: x17 :: x18 :: x19 :: x20 :: x21 :: x22 :: some (.f d) :: r) K) := id rfl
theorem ld_o23 {Ph : Nat → List D → Rs} {own ld : List Nat} {e : CE} {x0 x1 x2 x3 x4 x5 x6 x7 x8 x9 x10 x11 x12 x13 x14 x15 x16 x17 x18 x19 x20 x21 x22 : Option Sl} {d : D} {r : Ev} {Q : QK} {E : XK} : (@wpM Ph own (23 :: ld) e (x0 :: x1 :: x2 :: x3 :: x4 :: x5 :: x6 :: x7 :: x8 :: x9 :: x10 :: x11 :: x12 :: x13 :: x14 :: x15 :: x16 :: x17 :: x18 :: x19 :: x20 :: x21 :: x22 :: some (.o d) :: r) Q E) = (@wpM Ph (own ++ [23]) ld e (x0 :: x1 :: x2 :: x3 :: x4 :: x5 :: x6 :: x7 :: x8 :: x9 :: x10 :: x11 :: x12 :: x13 :: x14 :: x15 :: x16 :: x17 :: x18 :: x19 :: x20 :: x21 :: x22 :: some (.o d) :: r) Q E) := wpM_own
theorem lf_o23 {ld : List Nat} {x0 x1 x2 x3 x4 x5 x6 x7 x8 x9 x10 x11 x12 x13 x14 x15 x16 x17 x18 x19 x20 x21 x22 : Option Sl} {d : D} {r : Ev} {K : RK} : (@lendK (23 :: ld) (x0 :: x1 :: x2 :: x3 :: x4 :: x5 :: x6 :: x7 :: x8 :: x9 :: x10 :: x11 :: x12 :: x13 :: x14 :: x15 :: x16 :: x17 :: x18 :: x19 :: x20 :: x21 :: x22 :: some (.o d) :: r) K) = (@lendK ld (x0 :: x1 :: x2 :: x3 :: x4 :: x5 :: x6 :: x7 :: x8 :: x9 :: x10 :: x11 :: x12 :: x13 :: x14 :: x15 :: x16 :: x17 :: x18 :: x19 :: x20 :: x21 :: x22 :: some (.p d) :: r) K) := id rfl
theorem un_23 {ld : List Nat} {x0 x1 x2 x3 x4 x5 x6 x7 x8 x9 x10 x11 x12 x13 x14 x15 x16 x17 x18 x19 x20 x21 x22 : Option Sl} {d : D} {r r1 : Ev} {K : RK} : (@unlK (x0 :: x1 :: x2 :: x3 :: x4 :: x5 :: x6 :: x7 :: x8 :: x9 :: x10 :: x11 :: x12 :: x13 :: x14 :: x15 :: x16 :: x17 :: x18 :: x19 :: x20 :: x21 :: x22 :: some (.o d) :: r) r1 (23 :: ld) K) = (@setK r1 23 (some (.o d)) ⟨fun r2 => @unlK (x0 :: x1 :: x2 :: x3 :: x4 :: x5 :: x6 :: x7 :: x8 :: x9 :: x10 :: x11 :: x12 :: x13 :: x14 :: x15 :: x16 :: x17 :: x18 :: x19 :: x20 :: x21 :: x22 :: some (.o d) :: r) r2 ld K⟩) := id rfl
theorem fn_23 {x0 x1 x2 x3 x4 x5 x6 x7 x8 x9 x10 x11 x12 x13 x14 x15 x16 x17 x18 x19 x20 x21 x22 : Option Sl} {f : Nat} {r : Ev} {k : Nat → Prop} : (@getFK (x0 :: x1 :: x2 :: x3 :: x4 :: x5 :: x6 :: x7 :: x8 :: x9 :: x10 :: x11 :: x12 :: x13 :: x14 :: x15 :: x16 :: x17 :: x18 :: x19 :: x20 :: x21 :: x22 :: some (.f f) :: r) 23 ⟨k⟩) = (k f) := id rfl
theorem var_24 {Ph : Nat → List D → Rs} {x0 x1 x2 x3 x4 x5 x6 x7 x8 x9 x10 x11 x12 x13 x14 x15 x16 x17 x18 x19 x20 x21 x22 x23 : Option Sl} {d : D} {r : Ev} {q : D → Bool → Ev → Prop} {E : XK} : (@wp (ev Ph (.var 24) (x0 :: x1 :: x2 :: x3 :: x4 :: x5 :: x6 :: x7 :: x8 :: x9 :: x10 :: x11 :: x12 :: x13 :: x14 :: x15 :: x16 :: x17 :: x18 :: x19 :: x20 :: x21 :: x22 :: x23 :: some (.p d) :: r)) ⟨q⟩ E) = (q d false (x0 :: x1 :: x2 :: x3 :: x4 :: x5 :: x6 :: x7 :: x8 :: x9 :: x10 :: x11 :: x12 :: x13 :: x14 :: x15 :: x16 :: x17 :: x18 :: x19 :: x20 :: x21 :: x22 :: x23 :: some (.p d) :: r)) := id rfl
theorem set_24 {x0 x1 x2 x3 x4 x5 x6 x7 x8 x9 x10 x11 x12 x13 x14 x15 x16 x17 x18 x19 x20 x21 x22 x23 : Option Sl} {y s : Option Sl} {r : Ev} {k : Ev → Prop} : (@setK (x0 :: x1 :: x2 :: x3 :: x4 :: x5 :: x6 :: x7 :: x8 :: x9 :: x10 :: x11 :: x12 :: x13 :: x14 :: x15 :: x16 :: x17 :: x18 :: x19 :: x20 :: x21 :: x22 :: x23 :: y :: r) 24 s ⟨k⟩) = (k (x0 :: x1 :: x2 :: x3 :: x4 :: x5 :: x6 :: x7 :: x8 :: x9 :: x10 :: x11 :: x12 :: x13 :: x14 :: x15 :: x16 :: x17 :: x18 :: x19 :: x20 :: x21 :: x22 :: x23 :: s :: r)) := id rfl
theorem nm_24 {x0 x1 x2 x3 x4 x5 x6 x7 x8 x9 x10 x11 x12 x13 x14 x15 x16 x17 x18 x19 x20 x21 x22 x23 : Option Sl} {y : Option Sl} {d : D} {r : Ev} {K : RK} : (@bindK (.nm 24) d (x0 :: x1 :: x2 :: x3 :: x4 :: x5 :: x6 :: x7 :: x8 :: x9 :: x10 :: x11 :: x12 :: x13 :: x14 :: x15 :: x16 :: x17 :: x18 :: x19 :: x20 :: x21 :: x22 :: x23 :: y :: r) K) = (@setK (x0 :: x1 :: x2 :: x3 :: x4 :: x5 :: x6 :: x7 :: x8 :: x9 :: x10 :: x11 :: x12 :: x13 :: x14 :: x15 :: x16 :: x17 :: x18 :: x19 :: x20 :: x21 :: x22 :: x23 :: y :: r) 24 (some (.p d)) K) := nmlem (by simp only [List.length_cons]; omega)
theorem get_24 {x0 x1 x2 x3 x4 x5 x6 x7 x8 x9 x10 x11 x12 x13 x14 x15 x16 x17 x18 x19 x20 x21 x22 x23 : Option Sl} {d : D} {r : Ev} {k : D → Prop} : (@getOK (x0 :: x1 :: x2 :: x3 :: x4 :: x5 :: x6 :: x7 :: x8 :: x9 :: x10 :: x11 :: x12 :: x13 :: x14 :: x15 :: x16 :: x17 :: x18 :: x19 :: x20 :: x21 :: x22 :: x23 :: some (.o d) :: r) 24 ⟨k⟩) = (k d) := id rfl
theorem ld_p24 {Ph : Nat → List D → Rs} {own ld : List Nat} {e : CE} {x0 x1 x2 x3 x4 x5 x6 x7 x8 x9 x10 x11 x12 x13 x14 x15 x16 x17 x18 x19 x20 x21 x22 x23 : Option Sl} {d : D} {r : Ev} {Q : QK} {E : XK} : (@wpM Ph own (24 :: ld) e (x0 :: x1 :: x2 :: x3 :: x4 :: x5 :: x6 :: x7 :: x8 :: x9 :: x10 :: x11 :: x12 :: x13 :: x14 :: x15 :: x16 :: x17 :: x18 :: x19 :: x20 :: x21 :: x22 :: x23 :: some (.p d) :: r) Q E) = (@wpM Ph own ld e (x0 :: x1 :: x2 :: x3 :: x4 :: x5 :: x6 :: x7 :: x8 :: x9 :: x10 :: x11 :: x12 :: x13 :: x14 :: x15 :: x16 :: x17 :: x18 :: x19 :: x20 :: x21 :: x22 :: x23 :: some (.p d) :: r) Q E) := wpM_skip rfl
theorem lf_p24 {ld : List Nat} {x0 x1 x2 x3 x4 x5 x6 x7 x8 x9 x10 x11 x12 x13 x14 x15 x16 x17 x18 x19 x20 x21 x22 x23 : Option Sl} {d : D} {r : Ev} {K : RK} : (@lendK (24 :: ld) (x0 :: x1 :: x2 :: x3 :: x4 :: x5 :: x6 :: x7 :: x8 :: x9 :: x10 :: x11 :: x12 :: x13 :: x14 :: x15 :: x16 :: x17 :: x18 :: x19 :: x20 :: x21 :: x22 :: x23 :: some (.p d) :: r) K) = (@lendK ld (x0 :: x1 :: x2 :: x3 :: x4 :: x5 :: x6 :: x7 :: x8 :: x9 :: x10 :: x11 :: x12 :: x13 :: x14 :: x15 :: x16 :: x17 :: x18 :: x19 :: x20 :: x21 :: x22 :: x23 :: some (.p d) :: r) K) := id rfl
theorem ld_n24 {Ph : Nat → List D → Rs} {own ld : List Nat} {e : CE} {x0 x1 x2 x3 x4 x5 x6 x7 x8 x9 x10 x11 x12 x13 x14 x15 x16 x17 x18 x19 x20 x21 x22 x23 : Option Sl} {r : Ev} {Q : QK} {E : XK} : (@wpM Ph own (24 :: ld) e (x0 :: x1 :: x2 :: x3 :: x4 :: x5 :: x6 :: x7 :: x8 :: x9 :: x10 :: x11 :: x12 :: x13 :: x14 :: x15 :: x16 :: x17 :: x18 :: x19 :: x20 :: x21 :: x22 :: x23 :: none :: r) Q E) = (@wpM Ph own ld e (x0 :: x1 :: x2 :: x3 :: x4 :: x5 :: x6 :: x7 :: x8 :: x9 :: x10 :: x11 :: x12 :: x13 :: x14 :: x15 :: x16 :: x17 :: x18 :: x19 :: x20 :: x21 :: x22 :: x23 :: none :: r) Q E) := wpM_skip rfl
theorem lf_n24 {ld : List Nat} {x0 x1 x2 x3 x4 x5 x6 x7 x8 x9 x10 x11 x12 x13 x14 x15 x16 x17 x18 x19 x20 x21 x22 x23 : Option Sl} {r : Ev} {K : RK} : (@lendK (24 :: ld) (x0 :: x1 :: x2 :: x3 :: x4 :: x5 :: x6 :: x7 :: x8 :: x9 :: x10 :: x11 :: x12 :: x13 :: x14 :: x15 :: x16 :: x17 :: x18 :: x19 :: x20 :: x21 :: x22 :: x23 :: none :: r) K) = (@lendK ld (x0 :: x1 :: x2 :: x3 :: x4 :: x5 :: x6 :: x7 :: x8 :: x9 :: x10 :: x11 :: x12 :: x13 :: x14 :: x15 :: x16 :: x17 :: x18 :: x19 :: x20 :: x21 :: x22 :: x23 :: none :: r) K) := id rfl
theorem ld_f24 {Ph : Nat → List D → Rs} {own ld : List Nat} {e : CE} {x0 x1 x2 x3 x4 x5 x6 x7 x8 x9 x10 x11 x12 x13 x14 x15 x16 x17 x18 x19 x20 x21 x22 x23 : Option Sl} {d : Nat} {r : Ev} {Q : QK} {E : XK} : (@wpM Ph own (24 :: ld) e (x0 :: x1 :: x2 :: x3 :: x4 :: x5 :: x6 :: x7 :: x8 :: x9 :: x10 :: x11 :: x12 :: x13 :: x14 :: x15 :: x16 :: x17 :: x18 :: x19 :: x20 :: x21 :: x22 :: x23 :: some (.f d) :: r) Q E) = (@wpM Ph own ld e (x0 :: x1 :: x2 :: x3 :: x4 :: x5 :: x6 :: x7 :: x8 :: x9 :: x10 :: x11 :: x12 :: x13 :: x14 :: x15 :: x16 :: x17 :: x18 :: x19 :: x20 :: x21 :: x22 :: x23 :: some (.f d) :: r) Q E) := wpM_skip rfl
theorem lf_f24 {ld : List Nat} {x0 x1 x2 x3 x4 x5 x6 x7 x8 x9 x10 x11 x12 x13 x14 x15 x16 x17 x18 x19 x20 x21 x22 x23 : Option Sl} {d : Nat} {r : Ev} {K : RK} : (@lendK (24 :: ld) (x0 :: x1 :: x2 :: x3 :: x4 :: x5 :: x6 :: x7 :: x8 :: x9 :: x10 :: x11 :: x12 :: x13 :: x14 :: x15 :: x16 :: x17 :: x18 :: x19 :: x20 :: x21 :: x22 :: x23 :: some (.f d) :: r) K) = (@lendK ld (x0 :: x1 :: x2 :: x3 :: x4 :: x5 :: x6 :: x7 :: x8 :: x9 :: x10 :: x11 :: x12 :: x13 :: x14 :: x15 :: x16 :: x17 :: x18 :: x19 :: x20 :: x21 :: x22 :: x23 :: some (.f d) :: r) K) := id rfl
theorem ld_o24 {Ph : Nat → List D → Rs} {own ld : List Nat} {e : CE} {x0 x1 x2 x3 x4 x5 x6 x7 x8 x9 x10 x11 x12 x13 x14 x15 x16 x17 x18 x19 x20 x21 x22 x23 : Option Sl} {d : D} {r : Ev} {Q : QK} {E : XK} : (@wpM Ph own (24 :: ld) e (x0 :: x1 :: x2 :: x3 :: x4 :: x5 :: x6 :: x7 :: x8 :: x9 :: x10 :: x11 :: x12 :: x13 :: x14 :: x15 :: x16 :: x17 :: x18 :: x19 :: x20 :: x21 :: x22 :: x23 :: some (.o d) :: r) Q E) = (@wpM Ph (own ++ [24]) ld e (x0 :: x1 :: x2 :: x3 :: x4 :: x5 :: x6 :: x7 :: x8 :: x9 :: x10 :: x11 :: x12 :: x13 :: x14 :: x15 :: x16 :: x17 :: x18 :: x19 :: x20 :: x21 :: x22 :: x23 :: some (.o d) :: r) Q E) := wpM_own
theorem lf_o24 {ld : List Nat} {x0 x1 x2 x3 x4 x5 x6 x7 x8 x9 x10 x11 x12 x13 x14 x15 x16 x17 x18 x19 x20 x21 x22 x23 : Option Sl} {d : D} {r : Ev} {K : RK} : (@lendK (24 :: ld) (x0 :: x1 :: x2 :: x3 :: x4 :: x5 :: x6 :: x7 :: x8 :: x9 :: x10 :: x11 :: x12 :: x13 :: x14 :: x15 :: x16 :: x17 :: x18 :: x19 :: x20 :: x21 :: x22 :: x23 :: some (.o d) :: r) K) = (@lendK ld (x0 :: x1 :: x2 :: x3 :: x4 :: x5 :: x6 :: x7 :: x8 :: x9 :: x10 :: x11 :: x12 :: x13 :: x14 :: x15 :: x16 :: x17 :: x18 :: x19 :: x20 :: x21 :: x22 :: x23 :: some (.p d) :: r) K) := id rfl
theorem un_24 {ld : List Nat} {x0 x1 x2 x3 x4 x5 x6 x7 x8 x9 x10 x11 x12 x13 x14 x15 x16 x17 x18 x19 x20 x21 x22 x23 : Option Sl} {d : D} {r r1 : Ev} {K : RK} : (@unlK (x0 :: x1 :: x2 :: x3 :: x4 :: x5 :: x6 :: x7 :: x8 :: x9 :: x10 :: x11 :: x12 :: x13 :: x14 :: x15 :: x16 :: x17 :: x18 :: x19 :: x20 :: x21 :: x22 :: x23 :: some (.o d) :: r) r1 (24 :: ld) K) = (@setK r1 24 (some (.o d)) ⟨fun r2 => @unlK (x0 :: x1 :: x2 :: x3 :: x4 :: x5 :: x6 :: x7 :: x8 :: x9 :: x10 :: x11 :: x12 :: x13 :: x14 :: x15 :: x16 :: x17 :: x18 :: x19 :: x20 :: x21 :: x22 :: x23 :: some (.o d) :: r) r2 ld K⟩) := id rfl
theorem fn_24 {x0 x1 x2 x3 x4 x5 x6 x7 x8 x9 x10 x11 x12 x13 x14 x15 x16 x17 x18 x19 x20 x21 x22 x23 : Option Sl} {f : Nat} {r : Ev} {k : Nat → Prop} : (@getFK (x0 :: x1 :: x2 :: x3 :: x4 :: x5 :: x6 :: x7 :: x8 :: x9 :: x10 :: x11 :: x12 :: x13 :: x14 :: x15 :: x16 :: x17 :: x18 :: x19 :: x20 :: x21 :: x22 :: x23 :: some (.f f) :: r) 24 ⟨k⟩) = (k f) := id rfl
theorem var_25 {Ph : Nat → List D → Rs} {x0 x1 x2 x3 x4 x5 x6 x7 x8 x9 x10 x11 x12 x13 x14 x15 x16 x17 x18 x19 x20 x21 x22 x23 x24 : Option Sl} {d : D} {r : Ev} {q : D → Bool → Ev → Prop} {E : XK} : (@wp (ev Ph (.var 25) (x0 :: x1 :: x2 :: x3 :: x4 :: x5 :: x6 :: x7 :: x8 :: x9 :: x10 :: x11 :: x12 :: x13 :: x14 :: x15 :: x16 :: x17 :: x18 :: x19 :: x20 :: x21 :: x22 :: x23 :: x24 :: some (.p d) :: r)) ⟨q⟩ E) = (q d false (x0 :: x1 :: x2 :: x3 :: x4 :: x5 :: x6 :: x7 :: x8 :: x9 :: x10 :: x11 :: x12 :: x13 :: x14 :: x15 :: x16 :: x17 :: x18 :: x19 :: x20 :: x21 :: x22 :: x23 :: x24 :: some (.p d) :: r)) := id rfl
theorem set_25 {x0 x1 x2 x3 x4 x5 x6 x7 x8 x9 x10 x11 x12 x13 x14 x15 x16 x17 x18 x19 x20 x21 x22 x23 x24 : Option Sl} {y s : Option Sl} {r : Ev} {k : Ev → Prop} : (@setK (x0 :: x1 :: x2 :: x3 :: x4 :: x5 :: x6 :: x7 :: x8 :: x9 :: x10 :: x11 :: x12 :: x13 :: x14 :: x15 :: x16 :: x17 :: x18 :: x19 :: x20 :: x21 :: x22 :: x23 :: x24 :: y :: r) 25 s ⟨k⟩) = (k (x0 :: x1 :: x2 :: x3 :: x4 :: x5 :: x6 :: x7 :: x8 :: x9 :: x10 :: x11 :: x12 :: x13 :: x14 :: x15 :: x16 :: x17 :: x18 :: x19 :: x20 :: x21 :: x22 :: x23 :: x24 :: s :: r)) := id rfl
theorem nm_25 {x0 x1 x2 x3 x4 x5 x6 x7 x8 x9 x10 x11 x12 x13 x14 x15 x16 x17 x18 x19 x20 x21 x22 x23 x24 : Option Sl} {y : Option Sl} {d : D} {r : Ev} {K : RK} : (@bindK (.nm 25) d (x0 :: x1 :: x2 :: x3 :: x4 :: x5 :: x6 :: x7 :: x8 :: x9 :: x10 :: x11 :: x12 :: x13 :: x14 :: x15 :: x16 :: x17 :: x18 :: x19 :: x20 :: x21 :: x22 :: x23 :: x24 :: y :: r) K) = (@setK (x0 :: x1 :: x2 :: x3 :: x4 :: x5 :: x6 :: x7 :: x8 :: x9 :: x10 :: x11 :: x12 :: x13 :: x14 :: x15 :: x16 :: x17 :: x18 :: x19 :: x20 :: x21 :: x22 :: x23 :: x24 :: y :: r) 25 (some (.p d)) K) := nmlem (by simp only [List.length_cons]; omega)
theorem get_25 {x0 x1 x2 x3 x4 x5 x6 x7 x8 x9 x10 x11 x12 x13 x14 x15 x16 x17 x18 x19 x20 x21 x22 x23 x24 : Option Sl} {d : D} {r : Ev} {k : D → Prop} : (@getOK (x0 :: x1 :: x2 :: x3 :: x4 :: x5 :: x6 :: x7 :: x8 :: x9 :: x10 :: x11 :: x12 :: x13 :: x14 :: x15 :: x16 :: x17 :: x18 :: x19 :: x20 :: x21 :: x22 :: x23 :: x24 :: some (.o d) :: r) 25 ⟨k⟩) = (k d) := id rfl
theorem ld_p25 {Ph : Nat → List D → Rs} {own ld : List Nat} {e : CE} {x0 x1 x2 x3 x4 x5 x6 x7 x8 x9 x10 x11 x12 x13 x14 x15 x16 x17 x18 x19 x20 x21 x22 x23 x24 : Option Sl} {d : D} {r : Ev} {Q : QK} {E : XK} : (@wpM Ph own (25 :: ld) e (x0 :: x1 :: x2 :: x3 :: x4 :: x5 :: x6 :: x7 :: x8 :: x9 :: x10 :: x11 :: x12 :: x13 :: x14 :: x15 :: x16 :: x17 :: x18 :: x19 :: x20 :: x21 :: x22 :: x23 :: x24 :: some (.p d) :: r) Q E) = (@wpM Ph own ld e (x0 :: x1 :: x2 :: x3 :: x4 :: x5 :: x6 :: x7 :: x8 :: x9 :: x10 :: x11 :: x12 :: x13 :: x14 :: x15 :: x16 :: x17 :: x18 :: x19 :: x20 :: x21 :: x22 :: x23 :: x24 :: some (.p d) :: r) Q E) := wpM_skip rfl
theorem lf_p25 {ld : List Nat} {x0 x1 x2 x3 x4 x5 x6 x7 x8 x9 x10 x11 x12 x13 x14 x15 x16 x17 x18 x19 x20 x21 x22 x23 x24 : Option Sl} {d : D} {r : Ev} {K : RK} : (@lendK (25 :: ld) (x0 :: x1 :: x2 :: x3 :: x4 :: x5 :: x6 :: x7 :: x8 :: x9 :: x10 :: x11 :: x12 :: x13 :: x14 :: x15 :: x16 :: x17 :: x18 :: x19 :: x20 :: x21 :: x22 :: x23 :: x24 :: some (.p d) :: r) K) = (@lendK ld (x0 :: x1 :: x2 :: x3 :: x4 :: x5 :: x6 :: x7 :: x8 :: x9 :: x10 :: x11 :: x12 :: x13 :: x14 :: x15 :: x16 :: x17 :: x18 :: x19 :: x20 :: x21 :: x22 :: x23 :: x24 :: some (.p d) :: r) K) := id rfl
theorem ld_n25 {Ph : Nat → List D → Rs} {own ld : List Nat} {e : CE} {x0 x1 x2 x3 x4 x5 x6 x7 x8 x9 x10 x11 x12 x13 x14 x15 x16 x17 x18 x19 x20 x21 x22 x23 x24 : Option Sl} {r : Ev} {Q : QK} {E : XK} : (@wpM Ph own (25 :: ld) e (x0 :: x1 :: x2 :: x3 :: x4 :: x5 :: x6 :: x7 :: x8 :: x9 :: x10 :: x11 :: x12 :: x13 :: x14 :: x15 :: x16 :: x17 :: x18 :: x19 :: x20 :: x21 :: x22 :: x23 :: x24 :: none :: r) Q E) = (@wpM Ph own ld e (x0 :: x1 :: x2 :: x3 :: x4 :: x5 :: x6 :: x7 :: x8 :: x9 :: x10 :: x11 :: x12 :: x13 :: x14 :: x15 :: x16 :: x17 :: x18 :: x19 :: x20 :: x21 :: x22 :: x23 :: x24 :: none :: r) Q E) := wpM_skip rfl
theorem lf_n25 {ld : List Nat} {x0 x1 x2 x3 x4 x5 x6 x7 x8 x9 x10 x11 x12 x13 x14 x15 x16 x17 x18 x19 x20 x21 x22 x23 x24 : Option Sl} {r : Ev} {K : RK} : (@lendK (25 :: ld) (x0 :: x1 :: x2 :: x3 :: x4 :: x5 :: x6 :: x7 :: x8 :: x9 :: x10 :: x11 :: x12 :: x13 :: x14 :: x15 :: x16 :: x17 :: x18 :: x19 :: x20 :: x21 :: x22 :: x23 :: x24 :: none :: r) K) = (@lendK ld (x0 :: x1 :: x2 :: x3 :: x4 :: x5 :: x6 :: x7 :: x8 :: x9 :: x10 :: x11 :: x12 :: x13 :: x14 :: x15 :: x16 :: x17 :: x18 :: x19 :: x20 :: x21 :: x22 :: x23 :: x24 :: none :: r) K) := id rfl
theorem ld_f25 {Ph : Nat → List D → Rs} {own ld : List Nat} {e : CE} {x0 x1 x2 x3 x4 x5 x6 x7 x8 x9 x10 x11 x12 x13 x14 x15 x16 x17 x18 x19 x20 x21 x22 x23 x24 : Option Sl} {d : Nat} {r : Ev} {Q : QK} {E : XK} : (@wpM Ph own (25 :: ld) e (x0 :: x1 :: x2 :: x3 :: x4 :: x5 :: x6 :: x7 :: x8 :: x9 :: x10 :: x11 :: x12 :: x13 :: x14 :: x15 :: x16 :: x17 :: x18 :: x19 :: x20 :: x21 :: x22 :: x23 :: x24 :: some (.f d) :: r) Q E) = (@wpM Ph own ld e (x0 :: x1 :: x2 :: x3 :: x4 :: x5 :: x6 :: x7 :: x8 :: x9 :: x10 :: x11 :: x12 :: x13 :: x14 :: x15 :: x16 :: x17 :: x18 :: x19 :: x20 :: x21 :: x22 :: x23 :: x24 :: some (.f d) :: r) Q E) := wpM_skip rfl
theorem lf_f25 {ld : List Nat} {x0 x1 x2 x3 x4 x5 x6 x7 x8 x9 x10 x11 x12 x13 x14 x15 x16 x17 x18 x19 x20 x21 x22 x23 x24 : Option Sl} {d : Nat} {r : Ev} {K : RK} : (@lendK (25 :: ld) (x0 :: x1 :: x2 :: x3 :: x4 :: x5 :: x6 :: x7 :: x8 :: x9 :: x10 :: x11 :: x12 :: x13 :: x14 :: x15 :: x16 :: x17 :: x18 :: x19 :: x20 :: x21 :: x22 :: x23 :: x24 :: some (.f d) :: r) K) = (@lendK ld (x0 :: x1 :: x2 :: x3 :: x4 :: x5 :: x6 :: x7 :: x8 :: x9 :: x10 :: x11 :: x12 :: x13 :: x14 :: x15 :: x16 :: x17 :: x18 :: x19 :: x20 :: x21 :: x22 :: x23 :: x24 :: some (.f d) :: r) K) := id rfl
theorem ld_o25 {Ph : Nat → List D → Rs} {own ld : List Nat} {e : CE} {x0 x1 x2 x3 x4 x5 x6 x7 x8 x9 x10 x11 x12 x13 x14 x15 x16 x17 x18 x19 x20 x21 x22 x23 x24 : Option Sl} {d : D} {r : Ev} {Q : QK} {E : XK} : (@wpM Ph own (25 :: ld) e (x0 :: x1 :: x2 :: x3 :: x4 :: x5 :: x6 :: x7 :: x8 :: x9 :: x10 :: x11 :: x12 :: x13 :: x14 :: x15 :: x16 :: x17 :: x18 :: x19 :: x20 :: x21 :: x22 :: x23 :: x24 :: some (.o d) :: r) Q E) = (@wpM Ph (own ++ [25]) ld e (x0 :: x1 :: x2 :: x3 :: x4 :: x5 :: x6 :: x7 :: x8 :: x9 :: x10 :: x11 :: x12 :: x13 :: x14 :: x15 :: x16 :: x17 :: x18 :: x19 :: x20 :: x21 :: x22 :: x23 :: x24 :: some (.o d) :: r) Q E) := wpM_own
theorem lf_o25 {ld : List Nat} {x0 x1 x2 x3 x4 x5 x6 x7 x8 x9 x10 x11 x12 x13 x14 x15 x16 x17 x18 x19 x20 x21 x22 x23 x24 : Option Sl} {d : D} {r : Ev} {K : RK} : (@lendK (25 :: ld) (x0 :: x1 :: x2 :: x3 :: x4 :: x5 :: x6 :: x7 :: x8 :: x9 :: x10 :: x11 :: x12 :: x13 :: x14 :: x15 :: x16 :: x17 :: x18 :: x19 :: x20 :: x21 :: x22 :: x23 :: x24 :: some (.o d) :: r) K) = (@lendK ld (x0 :: x1 :: x2 :: x3 :: x4 :: x5 :: x6 :: x7 :: x8 :: x9 :: x10 :: x11 :: x12 :: x13 :: x14 :: x15 :: x16 :: x17 :: x18 :: x19 :: x20 :: x21 :: x22 :: x23 :: x24 :: some (.p d) :: r) K) := id rfl
theorem un_25 {ld : List Nat} {x0 x1 x2 x3 x4 x5 x6 x7 x8 x9 x10 x11 x12 x13 x14 x15 x16 x17 x18 x19 x20 x21 x22 x23 x24 : Option Sl} {d : D} {r r1 : Ev} {K : RK} : (@unlK (x0 :: x1 :: x2 :: x3 :: x4 :: x5 :: x6 :: x7 :: x8 :: x9 :: x10 :: x11 :: x12 :: x13 :: x14 :: x15 :: x16 :: x17 :: x18 :: x19 :: x20 :: x21 :: x22 :: x23 :: x24 :: some (.o d) :: r) r1 (25 :: ld) K) = (@setK r1 25 (some (.o d)) ⟨fun r2 => @unlK (x0 :: x1 :: x2 :: x3 :: x4 :: x5 :: x6 :: x7 :: x8 :: x9 :: x10 :: x11 :: x12 :: x13 :: x14 :: x15 :: x16 :: x17 :: x18 :: x19 :: x20 :: x21 :: x22 :: x23 :: x24 :: some (.o d) :: r) r2 ld K⟩) := id rfl
theorem fn_25 {x0 x1 x2 x3 x4 x5 x6 x7 x8 x9 x10 x11 x12 x13 x14 x15 x16 x17 x18 x19 x20 x21 x22 x23 x24 : Option Sl} {f : Nat} {r : Ev} {k : Nat → Prop} : (@getFK (x0 :: x1 :: x2 :: x3 :: x4 :: x5 :: x6 :: x7 :: x8 :: x9 :: x10 :: x11 :: x12 :: x13 :: x14 :: x15 :: x16 :: x17 :: x18 :: x19 :: x20 :: x21 :: x22 :: x23 :: x24 :: some (.f f) :: r) 25 ⟨k⟩) = (k f) := id rfl
theorem var_26 {Ph : Nat → List D → Rs} {x0 x1 x2 x3 x4 x5 x6 x7 x8 x9 x10 x11 x12 x13 x14 x15 x16 x17 x18 x19 x20 x21 x22 x23 x24 x25 : Option Sl} {d : D} {r : Ev} {q : D → Bool → Ev → Prop} {E : XK} : (@wp (ev Ph (.var 26) (x0 :: x1 :: x2 :: x3 :: x4 :: x5 :: x6 :: x7 :: x8 :: x9 :: x10 :: x11 :: x12 :: x13 :: x14 :: x15 :: x16 :: x17 :: x18 :: x19 :: x20 :: x21 :: x22 :: x23 :: x24 :: x25 :: some (.p d) :: r)) ⟨q⟩ E) = (q d false (x0 :: x1 :: x2 :: x3 :: x4 :: x5 :: x6 :: x7 :: x8 :: x9 :: x10 :: x11 :: x12 :: x13 :: x14 :: x15 :: x16 :: x17 :: x18 :: x19 :: x20 :: x21 :: x22 :: x23 :: x24 :: x25 :: some (.p d) :: r)) := id rfl
theorem set_26 {x0 x1 x2 x3 x4 x5 x6 x7 x8 x9 x10 x11 x12 x13 x14 x15 x16 x17 x18 x19 x20 x21 x22 x23 x24 x25 : Option Sl} {y s : Option Sl} {r : Ev} {k : Ev → Prop} : (@setK (x0 :: x1 :: x2 :: x3 :: x4 :: x5 :: x6 :: x7 :: x8 :: x9 :: x10 :: x11 :: x12 :: x13 :: x14 :: x15 :: x16 :: x17 :: x18 :: x19 :: x20 :: x21 :: x22 :: x23 :: x24 :: x25 :: y :: r) 26 s ⟨k⟩) = (k (x0 :: x1 :: x2 :: x3 :: x4 :: x5 :: x6 :: x7 :: x8 :: x9 :: x10 :: x11 :: x12 :: x13 :: x14 :: x15 :: x16 :: x17 :: x18 :: x19 :: x20 :: x21 :: x22 :: x23 :: x24 :: x25 :: s :: r)) := id rfl
theorem nm_26 {x0 x1 x2 x3 x4 x5 x6 x7 x8 x9 x10 x11 x12 x13 x14 x15 x16 x17 x18 x19 x20 x21 x22 x23 x24 x25 : Option Sl} {y : Option Sl} {d : D} {r : Ev} {K : RK} : (@bindK (.nm 26) d (x0 :: x1 :: x2 :: x3 :: x4 :: x5 :: x6 :: x7 :: x8 :: x9 :: x10 :: x11 :: x12 :: x13 :: x14 :: x15 :: x16 :: x17 :: x18 :: x19 :: x20 :: x21 :: x22 :: x23 :: x24 :: x25 :: y :: r) K) = (@setK (x0 :: x1 :: x2 :: x3 :: x4 :: x5 :: x6 :: x7 :: x8 :: x9 :: x10 :: x11 :: x12 :: x13 :: x14 :: x15 :: x16 :: x17 :: x18 :: x19 :: x20 :: x21 :: x22 :: x23 :: x24 :: x25 :: y :: r) 26 (some (.p d)) K) := nmlem (by simp only [List.length_cons]; omega)
theorem get_26 {x0 x1 x2 x3 x4 x5 x6 x7 x8 x9 x10 x11 x12 x13 x14 x15 x16 x17 x18 x19 x20 x21 x22 x23 x24 x25 : Option Sl} {d : D} {r : Ev} {k : D → Prop} : (@getOK (x0 :: x1 :: x2 :: x3 :: x4 :: x5 :: x6 :: x7 :: x8 :: x9 :: x10 :: x11 :: x12 :: x13 :: x14 :: x15 :: x16 :: x17 :: x18 :: x19 :: x20 :: x21 :: x22 :: x23 :: x24 :: x25 :: some (.o d) :: r) 26 ⟨k⟩) = (k d) := id rfl
theorem ld_p26 {Ph : Nat → List D → Rs} {own ld : List Nat} {e : CE} {x0 x1 x2 x3 x4 x5 x6 x7 x8 x9 x10 x11 x12 x13 x14 x15 x16 x17 x18 x19 x20 x21 x22 x23 x24 x25 : Option Sl} {d : D} {r : Ev} {Q : QK} {E : XK} : (@wpM Ph own (26 :: ld) e (x0 :: x1 :: x2 :: x3 :: x4 :: x5 :: x6 :: x7 :: x8 :: x9 :: x10 :: x11 :: x12 :: x13 :: x14 :: x15 :: x16 :: x17 :: x18 :: x19 :: x20 :: x21 :: x22 :: x23 :: x24 :: x25 :: some (.p d) :: r) Q E) = (@wpM Ph own ld e (x0 :: x1 :: x2 :: x3 :: x4 :: x5 :: x6 :: x7 :: x8 :: x9 :: x10 :: x11 :: x12 :: x13 :: x14 :: x15 :: x16 :: x17 :: x18 :: x19 :: x20 :: x21 :: x22 :: x23 :: x24 :: x25 :: some (.p d) :: r) Q E) := wpM_skip rfl
theorem lf_p26 {ld : List Nat} {x0 x1 x2 x3 x4 x5 x6 x7 x8 x9 x10 x11 x12 x13 x14 x15 x16 x17 x18 x19 x20 x21 x22 x23 x24 x25 : Option Sl} {d : D} {r : Ev} {K : RK} : (@lendK (26 :: ld) (x0 :: x1 :: x2 :: x3 :: x4 :: x5 :: x6 :: x7 :: x8 :: x9 :: x10 :: x11 :: x12 :: x13 :: x14 :: x15 :: x16 :: x17 :: x18 :: x19 :: x20 :: x21 :: x22 :: x23 :: x24 :: x25 :: some (.p d) :: r) K) = (@lendK ld (x0 :: x1 :: x2 :: x3 :: x4 :: x5 :: x6 :: x7 :: x8 :: x9 :: x10 :: x11 :: x12 :: x13 :: x14 :: x15 :: x16 :: x17 :: x18 :: x19 :: x20 :: x21 :: x22 :: x23 :: x24 :: x25 :: some (.p d) :: r) K) := id rfl
theorem ld_n26 {Ph : Nat → List D → Rs} {own ld : List Nat} {e : CE} {x0 x1 x2 x3 x4 x5 x6 x7 x8 x9 x10 x11 x12 x13 x14 x15 x16 x17 x18 x19 x20 x21 x22 x23 x24 x25 : Option Sl} {r : Ev} {Q : QK} {E : XK} : (@wpM Ph own (26 :: ld) e (x0 :: x1 :: x2 :: x3 :: x4 :: x5 :: x6 :: x7 :: x8 :: x9 :: x10 :: x11 :: x12 :: x13 :: x14 :: x15 :: x16 :: x17 :: x18 :: x19 :: x20 :: x21 :: x22 :: x23 :: x24 :: x25 :: none :: r) Q E) = (@wpM Ph own ld e (x0 :: x1 :: x2 :: x3 :: x4 :: x5 :: x6 :: x7 :: x8 :: x9 :: x10 :: x11 :: x12 :: x13 :: x14 :: x15 :: x16 :: x17 :: x18 :: x19 :: x20 :: x21 :: x22 :: x23 :: x24 :: x25 :: none :: r) Q E) := wpM_skip rfl
theorem lf_n26 {ld : List Nat} {x0 x1 x2 x3 x4 x5 x6 x7 x8 x9 x10 x11 x12 x13 x14 x15 x16 x17 x18 x19 x20 x21 x22 x23 x24 x25 : Option Sl} {r : Ev} {K : RK} : (@lendK (26 :: ld) (x0 :: x1 :: x2 :: x3 :: x4 :: x5 :: x6 :: x7 :: x8 :: x9 :: x10 :: x11 :: x12 :: x13 :: x14 :: x15 :: x16 :: x17 :: x18 :: x19 :: x20 :: x21 :: x22 :: x23 :: x24 :: x25 :: none :: r) K) = (@lendK ld (x0 :: x1 :: x2 :: x3 :: x4 :: x5 :: x6 :: x7 :: x8 :: x9 :: x10 :: x11 :: x12 :: x13 :: x14 :: x15 :: x16 :: x17 :: x18 :: x19 :: x20 :: x21 :: x22 :: x23 :: x24 :: x25 :: none :: r) K) := id rfl
theorem ld_f26 {Ph : Nat → List D → Rs} {own ld : List Nat} {e : CE} {x0 x1 x2 x3 x4 x5 x6 x7 x8 x9 x10 x11 x12 x13 x14 x15 x16 x17 x18 x19 x20 x21 x22 x23 x24 x25 : Option Sl} {d : Nat} {r : Ev} {Q : QK} {E : XK} : (@wpM Ph own (26 :: ld) e (x0 :: x1 :: x2 :: x3 :: x4 :: x5 :: x6 :: x7 :: x8 :: x9 :: x10 :: x11 :: x12 :: x13 :: x14 :: x15 :: x16 :: x17 :: x18 :: x19 :: x20 :: x21 :: x22 :: x23 :: x24 :: x25 :: some (.f d) :: r) Q E) = (@wpM Ph own ld e (x0 :: x1 :: x2 :: x3 :: x4 :: x5 :: x6 :: x7 :: x8 :: x9 :: x10 :: x11 :: x12 :: x13 :: x14 :: x15 :: x16 :: x17 :: x18 :: x19 :: x20 :: x21 :: x22 :: x23 :: x24 :: x25 :: some (.f d) :: r) Q E) := wpM_skip rfl
theorem lf_f26 {ld : List Nat} {x0 x1 x2 x3 x4 x5 x6 x7 x8 x9 x10 x11 x12 x13 x14 x15 x16 x17 x18 x19 x20 x21 x22 x23 x24 x25 : Option Sl} {d : Nat} {r : Ev} {K : RK} : (@lendK (26 :: ld) (x0 :: x1 :: x2 :: x3 :: x4 :: x5 :: x6 :: x7 :: x8 :: x9 :: x10 :: x11 :: x12 :: x13 :: x14 :: x15 :: x16 :: x17 :: x18 :: x19 :: x20 :: x21 :: x22 :: x23 :: x24 :: x25 :: some (.f d) :: r) K) = (@lendK ld (x0 :: x1 :: x2 :: x3 :: x4 :: x5 :: x6 :: x7 :: x8 :: x9 :: x10 :: x11 :: x12 :: x13 :: x14 :: x15 :: x16 :: x17 :: x18 :: x19 :: x20 :: x21 :: x22 :: x23 :: x24 :: x25 :: some (.f d) :: r) K) := id rfl
theorem ld_o26 {Ph : Nat → List D → Rs} {own ld : List Nat} {e : CE} {x0 x1 x2 x3 x4 x5 x6 x7 x8 x9 x10 x11 x12 x13 x14 x15 x16 x17 x18 x19 x20 x21 x22 x23 x24 x25 : Option Sl} {d : D} {r : Ev} {Q : QK} {E : XK} : (@wpM Ph own (26 :: ld) e (x0 :: x1 :: x2 :: x3 :: x4 :: x5 :: x6 :: x7 :: x8 :: x9 :: x10 :: x11 :: x12 :: x13 :: x14 :: x15 :: x16 :: x17 :: x18 :: x19 :: x20 :: x21 :: x22 :: x23 :: x24 :: x25 :: some (.o d) :: r) Q E) = (@wpM Ph (own ++ [26]) ld e (x0 :: x1 :: x2 :: x3 :: x4 :: x5 :: x6 :: x7 :: x8 :: x9 :: x10 :: x11 :: x12 :: x13 :: x14 :: x15 :: x16 :: x17 :: x18 :: x19 :: x20 :: x21 :: x22 :: x23 :: x24 :: x25 :: some (.o d) :: r) Q E) := wpM_own
theorem lf_o26 {ld : List Nat} {x0 x1 x2 x3 x4 x5 x6 x7 x8 x9 x10 x11 x12 x13 x14 x15 x16 x17 x18 x19 x20 x21 x22 x23 x24 x25 : Option Sl} {d : D} {r : Ev} {K : RK} : (@lendK (26 :: ld) (x0 :: x1 :: x2 :: x3 :: x4 :: x5 :: x6 :: x7 :: x8 :: x9 :: x10 :: x11 :: x12 :: x13 :: x14 :: x15 :: x16 :: x17 :: x18 :: x19 :: x20 :: x21 :: x22 :: x23 :: x24 :: x25 :: some (.o d) :: r) K) = (@lendK ld (x0 :: x1 :: x2 :: x3 :: x4 :: x5 :: x6 :: x7 :: x8 :: x9 :: x10 :: x11 :: x12 :: x13 :: x14 :: x15 :: x16 :: x17 :: x18 :: x19 :: x20 :: x21 :: x22 :: x23 :: x24 :: x25 :: some (.p d) :: r) K) := id rfl
theorem un_26 {ld : List Nat} {x0 x1 x2 x3 x4 x5 x6 x7 x8 x9 x10 x11 x12 x13 x14 x15 x16 x17 x18 x19 x20 x21 x22 x23 x24 x25 : Option Sl} {d : D} {r r1 : Ev} {K : RK} : (@unlK (x0 :: x1 :: x2 :: x3 :: x4 :: x5 :: x6 :: x7 :: x8 :: x9 :: x10 :: x11 :: x12 :: x13 :: x14 :: x15 :: x16 :: x17 :: x18 :: x19 :: x20 :: x21 :: x22 :: x23 :: x24 :: x25 :: some (.o d) :: r) r1 (26 :: ld) K) = (@setK r1 26 (some (.o d)) ⟨fun r2 => @unlK (x0 :: x1 :: x2 :: x3 :: x4 :: x5 :: x6 :: x7 :: x8 :: x9 :: x10 :: x11 :: x12 :: x13 :: x14 :: x15 :: x16 :: x17 :: x18 :: x19 :: x20 :: x21 :: x22 :: x23 :: x24 :: x25 :: some (.o d) :: r) r2 ld K⟩) := id rfl
theorem fn_26 {x0 x1 x2 x3 x4 x5 x6 x7 x8 x9 x10 x11 x12 x13 x14 x15 x16 x17 x18 x19 x20 x21 x22 x23 x24 x25 : Option Sl} {f : Nat} {r : Ev} {k : Nat → Prop} : (@getFK (x0 :: x1 :: x2 :: x3 :: x4 :: x5 :: x6 :: x7 :: x8 :: x9 :: x10 :: x11 :: x12 :: x13 :: x14 :: x15 :: x16 :: x17 :: x18 :: x19 :: x20 :: x21 :: x22 :: x23 :: x24 :: x25 :: some (.f f) :: r) 26 ⟨k⟩) = (k f) := id rfl
theorem var_27 {Ph : Nat → List D → Rs} {x0 x1 x2 x3 x4 x5 x6 x7 x8 x9 x10 x11 x12 x13 x14 x15 x16 x17 x18 x19 x20 x21 x22 x23 x24 x25 x26 : Option Sl} {d : D} {r : Ev} {q : D → Bool → Ev → Prop} {E : XK} : (@wp (ev Ph (.var 27) (x0 :: x1 :: x2 :: x3 :: x4 :: x5 :: x6 :: x7 :: x8 :: x9 :: x10 :: x11 :: x12 :: x13 :: x14 :: x15 :: x16 :: x17 :: x18 :: x19 :: x20 :: x21 :: x22 :: x23 :: x24 :: x25 :: x26 :: some (.p d) :: r)) ⟨q⟩ E) = (q d false (x0 :: x1 :: x2 :: x3 :: x4 :: x5 :: x6 :: x7 :: x8 :: x9 :: x10 :: x11 :: x12 :: x13 :: x14 :: x15 :: x16 :: x17 :: x18 :: x19 :: x20 :: x21 :: x22 :: x23 :: x24 :: x25 :: x26 :: some (.p d) :: r)) := id rfl
theorem set_27 {x0 x1 x2 x3 x4 x5 x6 x7 x8 x9 x10 x11 x12 x13 x14 x15 x16 x17 x18 x19 x20 x21 x22 x23 x24 x25 x26 : Option Sl} {y s : Option Sl} {r : Ev} {k : Ev → Prop} : (@setK (x0 :: x1 :: x2 :: x3 :: x4 :: x5 :: x6 :: x7 :: x8 :: x9 :: x10 :: x11 :: x12 :: x13 :: x14 :: x15 :: x16 :: x17 :: x18 :: x19 :: x20 :: x21 :: x22 :: x23 :: x24 :: x25 :: x26 :: y :: r) 27 s ⟨k⟩) = (k (x0 :: x1 :: x2 :: x3 :: x4 :: x5 :: x6 :: x7 :: x8 :: x9 :: x10 :: x11 :: x12 :: x13 :: x14 :: x15 :: x16 :: x17 :: x18 :: x19 :: x20 :: x21 :: x22 :: x23 :: x24 :: x25 :: x26 :: s :: r)) := id rfl
theorem nm_27 {x0 x1 x2 x3 x4 x5 x6 x7 x8 x9 x10 x11 x12 x13 x14 x15 x16 x17 x18 x19 x20 x21 x22 x23 x24 x25 x26 : Option Sl} {y : Option Sl} {d : D} {r : Ev} {K : RK} : (@bindK (.nm 27) d (x0 :: x1 :: x2 :: x3 :: x4 :: x5 :: x6 :: x7 :: x8 :: x9 :: x10 :: x11 :: x12 :: x13 :: x14 :: x15 :: x16 :: x17 :: x18 :: x19 :: x20 :: x21 :: x22 :: x23 :: x24 :: x25 :: x26 :: y :: r) K) = (@setK (x0 :: x1 :: x2 :: x3 :: x4 :: x5 :: x6 :: x7 :: x8 :: x9 :: x10 :: x11 :: x12 :: x13 :: x14 :: x15 :: x16 :: x17 :: x18 :: x19 :: x20 :: x21 :: x22 :: x23 :: x24 :: x25 :: x26 :: y :: r) 27 (some (.p d)) K) := nmlem (by simp only [List.length_cons]; omega)
theorem get_27 {x0 x1 x2 x3 x4 x5 x6 x7 x8 x9 x10 x11 x12 x13 x14 x15 x16 x17 x18 x19 x20 x21 x22 x23 x24 x25 x26 : Option Sl} {d : D} {r : Ev} {k : D → Prop} : (@getOK (x0 :: x1 :: x2 :: x3 :: x4 :: x5 :: x6 :: x7 :: x8 :: x9 :: x10 :: x11 :: x12 :: x13 :: x14 :: x15 :: x16 :: x17 :: x18 :: x19 :: x20 :: x21 :: x22 :: x23 :: x24 :: x25 :: x26 :: some (.o d) :: r) 27 ⟨k⟩) = (k d) := id rfl
theorem ld_p27 {Ph : Nat → List D → Rs} {own ld : List Nat} {e : CE} {x0 x1 x2 x3 x4 x5 x6 x7 x8 x9 x10 x11 x12 x13 x14 x15 x16 x17 x18 x19 x20 x21 x22 x23 x24 x25 x26 : Option Sl} {d : D} {r : Ev} {Q : QK} {E : XK} : (@wpM Ph own (27 :: ld) e (x0 :: x1 :: x2 :: x3 :: x4 :: x5 :: x6 :: x7 :: x8 :: x9 :: x10 :: x11 :: x12 :: x13 :: x14 :: x15 :: x16 :: x17 :: x18 :: x19 :: x20 :: x21 :: x22 :: x23 :: x24 :: x25 :: x26 :: some (.p d) :: r) Q E) = (@wpM Ph own ld e (x0 :: x1 :: x2 :: x3 :: x4 :: x5 :: x6 :: x7 :: x8 :: x9 :: x10 :: x11 :: x12 :: x13 :: x14 :: x15 :: x16 :: x17 :: x18 :: x19 :: x20 :: x21 :: x22 :: x23 :: x24 :: x25 :: x26 :: some (.p d) :: r) Q E) := wpM_skip rfl
theorem lf_p27 {ld : List Nat} {x0 x1 x2 x3 x4 x5 x6 x7 x8 x9 x10 x11 x12 x13 x14 x15 x16 x17 x18 x19 x20 x21 x22 x23 x24 x25 x26 : Option Sl} {d : D} {r : Ev} {K : RK} : (@lendK (27 :: ld) (x0 :: x1 :: x2 :: x3 :: x4 :: x5 :: x6 :: x7 :: x8 :: x9 :: x10 :: x11 :: x12 :: x13 :: x14 :: x15 :: x16 :: x17 :: x18 :: x19 :: x20 :: x21 :: x22 :: x23 :: x24 :: x25 :: x26 :: some (.p d) :: r) K) = (@lendK ld (x0 :: x1 :: x2 :: x3 :: x4 :: x5 :: x6 :: x7 :: x8 :: x9 :: x10 :: x11 :: x12 :: x13 :: x14 :: x15 :: x16 :: x17 :: x18 :: x19 :: x20 :: x21 :: x22 :: x23 :: x24 :: x25 :: x26 :: some (.p d) :: r) K) := id rfl
theorem ld_n27 {Ph : Nat → List D → Rs} {own ld : List Nat} {e : CE} {x0 x1 x2 x3 x4 x5 x6 x7 x8 x9 x10 x11 x12 x13 x14 x15 x16 x17 x18 x19 x20 x21 x22 x23 x24 x25 x26 : Option Sl} {r : Ev} {Q : QK} {E : XK} : (@wpM Ph own (27 :: ld) e (x0 :: x1 :: x2 :: x3 :: x4 :: x5 :: x6 :: x7 :: x8 :: x9 :: x10 :: x11 :: x12 :: x13 :: x14 :: x15 :: x16 :: x17 :: x18 :: x19 :: x20 :: x21 :: x22 :: x23 :: x24 :: x25 :: x26 :: none :: r) Q E) = (@wpM Ph own ld e (x0 :: x1 :: x2 :: x3 :: x4 :: x5 :: x6 :: x7 :: x8 :: x9 :: x10 :: x11 :: x12 :: x13 :: x14 :: x15 :: x16 :: x17 :: x18 :: x19 :: x20 :: x21 :: x22 :: x23 :: x24 :: x25 :: x26 :: none :: r) Q E) := wpM_skip rfl
theorem lf_n27 {ld : List Nat} {x0 x1 x2 x3 x4 x5 x6 x7 x8 x9 x10 x11 x12 x13 x14 x15 x16 x17 x18 x19 x20 x21 x22 x23 x24 x25 x26 : Option Sl} {r : Ev} {K : RK} : (@lendK (27 :: ld) (x0 :: x1 :: x2 :: x3 :: x4 :: x5 :: x6 :: x7 :: x8 :: x9 :: x10 :: x11 :: x12 :: x13 :: x14 :: x15 :: x16 :: x17 :: x18 :: x19 :: x20 :: x21 :: x22 :: x23 :: x24 :: x25 :: x26 :: none :: r) K) = (@lendK ld (x0 :: x1 :: x2 :: x3 :: x4 :: x5 :: x6 :: x7 :: x8 :: x9 :: x10 :: x11 :: x12 :: x13 :: x14 :: x15 :: x16 :: x17 :: x18 :: x19 :: x20 :: x21 :: x22 :: x23 :: x24 :: x25 :: x26 :: none :: r) K) := id rfl
theorem ld_f27 {Ph : Nat → List D → Rs} {own ld : List Nat} {e : CE} {x0 x1 x2 x3 x4 x5 x6 x7 x8 x9 x10 x11 x12 x13 x14 x15 x16 x17 x18 x19 x20 x21 x22 x23 x24 x25 x26 : Option Sl} {d : Nat} {r : Ev} {Q : QK} {E : XK} : (@wpM Ph own (27 :: ld) e (x0 :: x1 :: x2 :: x3 :: x4 :: x5 :: x6 :: x7 :: x8 :: x9 :: x10 :: x11 :: x12 :: x13 :: x14 :: x15 :: x16 :: x17 :: x18 :: x19 :: x20 :: x21 :: x22 :: x23 :: x24 :: x25 :: x26 :: some (.f d) :: r) Q E) = (@wpM Ph own ld e (x0 :: x1 :: x2 :: x3 :: x4 :: x5 :: x6 :: x7 :: x8 :: x9 :: x10 :: x11 :: x12 :: x13 :: x14 :: x15 :: x16 :: x17 :: x18 :: x19 :: x20 :: x21 :: x22 :: x23 :: x24 :: x25 :: x26 :: some (.f d) :: r) Q E) := wpM_skip rfl
theorem lf_f27 {ld : List Nat} {x0 x1 x2 x3 x4 x5 x6 x7 x8 x9 x10 x11 x12 x13 x14 x15 x16 x17 x18 x19 x20 x21 x22 x23 x24 x25 x26 : Option Sl} {d : Nat} {r : Ev} {K : RK} : (@lendK (27 :: ld) (x0 :: x1 :: x2 :: x3 :: x4 :: x5 :: x6 :: x7 :: x8 :: x9 :: x10 :: x11 :: x12 :: x13 :: x14 :: x15 :: x16 :: x17 :: x18 :: x19 :: x20 :: x21 :: x22 :: x23 :: x24 :: x25 :: x26 :: some (.f d) :: r) K) = (@lendK ld (x0 :: x1 :: x2 :: x3 :: x4 :: x5 :: x6 :: x7 :: x8 :: x9 :: x10 :: x11 :: x12 :: x13 :: x14 :: x15 :: x16 :: x17 :: x18 :: x19 :: x20 :: x21 :: x22 :: x23 :: x24 :: x25 :: x26 :: some (.f d) :: r) K) := id rfl
theorem ld_o27 {Ph : Nat → List D → Rs} {own ld : List Nat} {e : CE} {x0 x1 x2 x3 x4 x5 x6 x7 x8 x9 x10 x11 x12 x13 x14 x15 x16 x17 x18 x19 x20 x21 x22 x23 x24 x25 x26 : Option Sl} {d : D} {r : Ev} {Q : QK} {E : XK} : (@wpM Ph own (27 :: ld) e (x0 :: x1 :: x2 :: x3 :: x4 :: x5 :: x6 :: x7 :: x8 :: x9 :: x10 :: x11 :: x12 :: x13 :: x14 :: x15 :: x16 :: x17 :: x18 :: x19 :: x20 :: x21 :: x22 :: x23 :: x24 :: x25 :: x26 :: some (.o d) :: r) Q E) = (@wpM Ph (own ++ [27]) ld e (x0 :: x1 :: x2 :: x3 :: x4 :: x5 :: x6 :: x7 :: x8 :: x9 :: x10 :: x11 :: x12 :: x13 :: x14 :: x15 :: x16 :: x17 :: x18 :: x19 :: x20 :: x21 :: x22 :: x23 :: x24 :: x25 :: x26 :: some (.o d) :: r) Q E) := wpM_own
theorem lf_o27 {ld : List Nat} {x0 x1 x2 x3 x4 x5 x6 x7 x8 x9 x10 x11 x12 x13 x14 x15 x16 x17 x18 x19 x20 x21 x22 x23 x24 x25 x26 : Option Sl} {d : D} {r : Ev} {K : RK} : (@lendK (27 :: ld) (x0 :: x1 :: x2 :: x3 :: x4 :: x5 :: x6 :: x7 :: x8 :: x9 :: x10 :: x11 :: x12 :: x13 :: x14 :: x15 :: x16 :: x17 :: x18 :: x19 :: x20 :: x21 :: x22 :: x23 :: x24 :: x25 :: x26 :: some (.o d) :: r) K) = (@lendK ld (x0 :: x1 :: x2 :: x3 :: x4 :: x5 :: x6 :: x7 :: x8 :: x9 :: x10 :: x11 :: x12 :: x13 :: x14 :: x15 :: x16 :: x17 :: x18 :: x19 :: x20 :: x21 :: x22 :: x23 :: x24 :: x25 :: x26 :: some (.p d) :: r) K) := id rfl
theorem un_27 {ld : List Nat} {x0 x1 x2 x3 x4 x5 x6 x7 x8 x9 x10 x11 x12 x13 x14 x15 x16 x17 x18 x19 x20 x21 x22 x23 x24 x25 x26 : Option Sl} {d : D} {r r1 : Ev} {K : RK} : (@unlK (x0 :: x1 :: x2 :: x3 :: x4 :: x5 :: x6 :: x7 :: x8 :: x9 :: x10 :: x11 :: x12 :: x13 :: x14 :: x15 :: x16 :: x17 :: x18 :: x19 :: x20 :: x21 :: x22 :: x23 :: x24 :: x25 :: x26 :: some (.o d) :: r) r1 (27 :: ld) K) = (@setK r1 27 (some (.o d)) ⟨fun r2 => @unlK (x0 :: x1 :: x2 :: x3 :: x4 :: x5 :: x6 :: x7 :: x8 :: x9 :: x10 :: x11 :: x12 :: x13 :: x14 :: x15 :: x16 :: x17 :: x18 :: x19 :: x20 :: x21 :: x22 :: x23 :: x24 :: x25 :: x26 :: some (.o d) :: r) r2 ld K⟩) := id rfl
theorem fn_27 {x0 x1 x2 x3 x4 x5 x6 x7 x8 x9 x10 x11 x12 x13 x14 x15 x16 x17 x18 x19 x20 x21 x22 x23 x24 x25 x26 : Option Sl} {f : Nat} {r : Ev} {k : Nat → Prop} : (@getFK (x0 :: x1 :: x2 :: x3 :: x4 :: x5 :: x6 :: x7 :: x8 :: x9 :: x10 :: x11 :: x12 :: x13 :: x14 :: x15 :: x16 :: x17 :: x18 :: x19 :: x20 :: x21 :: x22 :: x23 :: x24 :: x25 :: x26 :: some (.f f) :: r) 27 ⟨k⟩) = (k f) := id rfl
theorem var_28 {Ph : Nat → List D → Rs} {x0 x1 x2 x3 x4 x5 x6 x7 x8 x9 x10 x11 x12 x13 x14 x15 x16 x17 x18 x19 x20 x21 x22 x23 x24 x25 x26 x27 : Option Sl} {d : D} {r : Ev} {q : D → Bool → Ev → Prop} {E : XK} : (@wp (ev Ph (.var 28) (x0 :: x1 :: x2 :: x3 :: x4 :: x5 :: x6 :: x7 :: x8 :: x9 :: x10 :: x11 :: x12 :: x13 :: x14 :: x15 :: x16 :: x17 :: x18 :: x19 :: x20 :: x21 :: x22 :: x23 :: x24 :: x25 :: x26 :: x27 :: some (.p d) :: r)) ⟨q⟩ E) = (q d false (x0 :: x1 :: x2 :: x3 :: x4 :: x5 :: x6 :: x7 :: x8 :: x9 :: x10 :: x11 :: x12 :: x13 :: x14 :: x15 :: x16 :: x17 :: x18 :: x19 :: x20 :: x21 :: x22 :: x23 :: x24 :: x25 :: x26 :: x27 :: some (.p d) :: r)) := id rfl
theorem set_28 {x0 x1 x2 x3 x4 x5 x6 x7 x8 x9 x10 x11 x12 x13 x14 x15 x16 x17 x18 x19 x20 x21 x22 x23 x24 x25 x26 x27 : Option Sl} {y s : Option Sl} {r : Ev} {k : Ev → Prop} : (@setK (x0 :: x1 :: x2 :: x3 :: x4 :: x5 :: x6 :: x7 :: x8 :: x9 :: x10 :: x11 :: x12 :: x13 :: x14 :: x15 :: x16 :: x17 :: x18 :: x19 :: x20 :: x21 :: x22 :: x23 :: x24 :: x25 :: x26 :: x27 :: y :: r) 28 s ⟨k⟩) = (k (x0 :: x1 :: x2 :: x3 :: x4 :: x5 :: x6 :: x7 :: x8 :: x9 :: x10 :: x11 :: x12 :: x13 :: x14 :: x15 :: x16 :: x17 :: x18 :: x19 :: x20 :: x21 :: x22 :: x23 :: x24 :: x25 :: x26 :: x27 :: s :: r)) := id rfl
theorem nm_28 {x0 x1 x2 x3 x4 x5 x6 x7 x8 x9 x10 x11 x12 x13 x14 x15 x16 x17 x18 x19 x20 x21 x22 x23 x24 x25 x26 x27 : Option Sl} {y : Option Sl} {d : D} {r : Ev} {K : RK} : (@bindK (.nm 28) d (x0 :: x1 :: x2 :: x3 :: x4 :: x5 :: x6 :: x7 :: x8 :: x9 :: x10 :: x11 :: x12 :: x13 :: x14 :: x15 :: x16 :: x17 :: x18 :: x19 :: x20 :: x21 :: x22 :: x23 :: x24 :: x25 :: x26 :: x27 :: y :: r) K) = (@setK (x0 :: x1 :: x2 :: x3 :: x4 :: x5 :: x6 :: x7 :: x8 :: x9 :: x10 :: x11 :: x12 :: x13 :: x14 :: x15 :: x16 :: x17 :: x18 :: x19 :: x20 :: x21 :: x22 :: x23 :: x24 :: x25 :: x26 :: x27 :: y :: r) 28 (some (.p d)) K) := nmlem (by simp only [List.length_cons]; omega)
theorem get_28 {x0 x1 x2 x3 x4 x5 x6 x7 x8 x9 x10 x11 x12 x13 x14 x15 x16 x17 x18 x19 x20 x21 x22 x23 x24 x25 x26 x27 : Option Sl} {d : D} {r : Ev} {k : D → Prop} : (@getOK (x0 :: x1 :: x2 :: x3 :: x4 :: x5 :: x6 :: x7 :: x8 :: x9 :: x10 :: x11 :: x12 :: x13 :: x14 :: x15 :: x16 :: x17 :: x18 :: x19 :: x20 :: x21 :: x22 :: x23 :: x24 :: x25 :: x26 :: x27 :: some (.o d) :: r) 28 ⟨k⟩) = (k d) := id rfl
theorem ld_p28 {Ph : Nat → List D → Rs} {own ld : List Nat} {e : CE} {x0 x1 x2 x3 x4 x5 x6 x7 x8 x9 x10 x11 x12 x13 x14 x15 x16 x17 x18 x19 x20 x21 x22 x23 x24 x25 x26 x27 : Option Sl} {d : D} {r : Ev} {Q : QK} {E : XK} : (@wpM Ph own (28 :: ld) e (x0 :: x1 :: x2 :: x3 :: x4 :: x5 :: x6 :: x7 :: x8 :: x9 :: x10 :: x11 :: x12 :: x13 :: x14 :: x15 :: x16 :: x17 :: x18 :: x19 :: x20 :: x21 :: x22 :: x23 :: x24 :: x25 :: x26 :: x27 :: some (.p d) :: r) Q E) = (@wpM Ph own ld e (x0 :: x1 :: x2 :: x3 :: x4 :: x5 :: x6 :: x7 :: x8 :: x9 :: x10 :: x11 :: x12 :: x13 :: x14 :: x15 :: x16 :: x17 :: x18 :: x19 :: x20 :: x21 :: x22 :: x23 :: x24 :: x25 :: x26 :: x27 :: some (.p d) :: r) Q E) := wpM_skip rfl
theorem lf_p28 {ld : List Nat} {x0 x1 x2 x3 x4 x5 x6 x7 x8 x9 x10 x11 x12 x13 x14 x15 x16 x17 x18 x19 x20 x21 x22 x23 x24 x25 x26 x27 : Option Sl} {d : D} {r : Ev} {K : RK} : (@lendK (28 :: ld) (x0 :: x1 :: x2 :: x3 :: x4 :: x5 :: x6 :: x7 :: x8 :: x9 :: x10 :: x11 :: x12 :: x13 :: x14 :: x15 :: x16 :: x17 :: x18 :: x19 :: x20 :: x21 :: x22 :: x23 :: x24 :: x25 :: x26 :: x27 :: some (.p d) :: r) K) = (@lendK ld (x0 :: x1 :: x2 :: x3 :: x4 :: x5 :: x6 :: x7 :: x8 :: x9 :: x10 :: x11 :: x12 :: x13 :: x14 :: x15 :: x16 :: x17 :: x18 :: x19 :: x20 :: x21 :: x22 :: x23 :: x24 :: x25 :: x26 :: x27 :: some (.p d) :: r) K) := id rfl
theorem ld_n28 {Ph : Nat → List D → Rs} {own ld : List Nat} {e : CE} {x0 x1 x2 x3 x4 x5 x6 x7 x8 x9 x10 x11 x12 x13 x14 x15 x16 x17 x18 x19 x20 x21 x22 x23 x24 x25 x26 x27 : Option Sl} {r : Ev} {Q : QK} {E : XK} : (@wpM Ph own (28 :: ld) e (x0 :: x1 :: x2 :: x3 :: x4 :: x5 :: x6 :: x7 :: x8 :: x9 :: x10 :: x11 :: x12 :: x13 :: x14 :: x15 :: x16 :: x17 :: x18 :: x19 :: x20 :: x21 :: x22 :: x23 :: x24 :: x25 :: x26 :: x27 :: none :: r) Q E) = (@wpM Ph own ld e (x0 :: x1 :: x2 :: x3 :: x4 :: x5 :: x6 :: x7 :: x8 :: x9 :: x10 :: x11 :: x12 :: x13 :: x14 :: x15 :: x16 :: x17 :: x18 :: x19 :: x20 :: x21 :: x22 :: x23 :: x24 :: x25 :: x26 :: x27 :: none :: r) Q E) := wpM_skip rfl
theorem lf_n28 {ld : List Nat} {x0 x1 x2 x3 x4 x5 x6 x7 x8 x9 x10 x11 x12 x13 x14 x15 x16 x17 x18 x19 x20 x21 x22 x23 x24 x25 x26 x27 : Option Sl} {r : Ev} {K : RK} : (@lendK (28 :: ld) (x0 :: x1 :: x2 :: x3 :: x4 :: x5 :: x6 :: x7 :: x8 :: x9 :: x10 :: x11 :: x12 :: x13 :: x14 :: x15 :: x16 :: x17 :: x18 :: x19 :: x20 :: x21 :: x22 :: x23 :: x24 :: x25 :: x26 :: x27 :: none :: r) K) = (@lendK ld (x0 :: x1 :: x2 :: x3 :: x4 :: x5 :: x6 :: x7 :: x8 :: x9 :: x10 :: x11 :: x12 :: x13 :: x14 :: x15 :: x16 :: x17 :: x18 :: x19 :: x20 :: x21 :: x22 :: x23 :: x24 :: x25 :: x26 :: x27 :: none :: r) K) := id rfl
theorem ld_f28 {Ph : Nat → List D → Rs} {own ld : List Nat} {e : CE} {x0 x1 x2 x3 x4 x5 x6 x7 x8 x9 x10 x11 x12 x13 x14 x15 x16 x17 x18 x19 x20 x21 x22 x23 x24 x25 x26 x27 : Option Sl} {d : Nat} {r : Ev} {Q : QK} {E : XK} : (@wpM Ph own (28 :: ld) e (x0 :: x1 :: x2 :: x3 :: x4 :: x5 :: x6 :: x7 :: x8 :: x9 :: x10 :: x11 :: x12 :: x13 :: x14 :: x15 :: x16 :: x17 :: x18 :: x19 :: x20 :: x21 :: x22 :: x23 :: x24 :: x25 :: x26 :: x27 :: some (.f d) :: r) Q E) = (@wpM Ph own ld e (x0 :: x1 :: x2 :: x3 :: x4 :: x5 :: x6 :: x7 :: x8 :: x9 :: x10 :: x11 :: x12 :: x13 :: x14 :: x15 :: x16 :: x17 :: x18 :: x19 :: x20 :: x21 :: x22 :: x23 :: x24 :: x25 :: x26 :: x27 :: some (.f d) :: r) Q E) := wpM_skip rfl
theorem lf_f28 {ld : List Nat} {x0 x1 x2 x3 x4 x5 x6 x7 x8 x9 x10 x11 x12 x13 x14 x15 x16 x17 x18 x19 x20 x21 x22 x23 x24 x25 x26 x27 : Option Sl} {d : Nat} {r : Ev} {K : RK} : (@lendK (28 :: ld) (x0 :: x1 :: x2 :: x3 :: x4 :: x5 :: x6 :: x7 :: x8 :: x9 :: x10 :: x11 :: x12 :: x13 :: x14 :: x15 :: x16 :: x17 :: x18 :: x19 :: x20 :: x21 :: x22 :: x23 :: x24 :: x25 :: x26 :: x27 :: some (.f d) :: r) K) = (@lendK ld (x0 :: x1 :: x2 :: x3 :: x4 :: x5 :: x6 :: x7 :: x8 :: x9 :: x10 :: x11 :: x12 :: x13 :: x14 :: x15 :: x16 :: x17 :: x18 :: x19 :: x20 :: x21 :: x22 :: x23 :: x24 :: x25 :: x26 :: x27 :: some (.f d) :: r) K) := id rfl
theorem ld_o28 {Ph : Nat → List D → Rs} {own ld : List Nat} {e : CE} {x0 x1 x2 x3 x4 x5 x6 x7 x8 x9 x10 x11 x12 x13 x14 x15 x16 x17 x18 x19 x20 x21 x22 x23 x24 x25 x26 x27 : Option Sl} {d : D} {r : Ev} {Q : QK} {E : XK} : (@wpM Ph own (28 :: ld) e (x0 :: x1 :: x2 :: x3 :: x4 :: x5 :: x6 :: x7 :: x8 :: x9 :: x10 :: x11 :: x12 :: x13 :: x14 :: x15 :: x16 :: x17 :: x18 :: x19 :: x20 :: x21 :: x22 :: x23 :: x24 :: x25 :: x26 :: x27 :: some (.o d) :: r) Q E) = (@wpM Ph (own ++ [28]) ld e (x0 :: x1 :: x2 :: x3 :: x4 :: x5 :: x6 :: x7 :: x8 :: x9 :: x10 :: x11 :: x12 :: x13 :: x14 :: x15 :: x16 :: x17 :: x18 :: x19 :: x20 :: x21 :: x22 :: x23 :: x24 :: x25 :: x26 :: x27 :: some (.o d) :: r) Q E) := wpM_own
theorem lf_o28 {ld : List Nat} {x0 x1 x2 x3 x4 x5 x6 x7 x8 x9 x10 x11 x12 x13 x14 x15 x16 x17 x18 x19 x20 x21 x22 x23 x24 x25 x26 x27 : Option Sl} {d : D} {r : Ev} {K : RK} : (@lendK (28 :: ld) (x0 :: x1 :: x2 :: x3 :: x4 :: x5 :: x6 :: x7 :: x8 :: x9 :: x10 :: x11 :: x12 :: x13 :: x14 :: x15 :: x16 :: x17 :: x18 :: x19 :: x20 :: x21 :: x22 :: x23 :: x24 :: x25 :: x26 :: x27 :: some (.o d) :: r) K) = (@lendK ld (x0 :: x1 :: x2 :: x3 :: x4 :: x5 :: x6 :: x7 :: x8 :: x9 :: x10 :: x11 :: x12 :: x13 :: x14 :: x15 :: x16 :: x17 :: x18 :: x19 :: x20 :: x21 :: x22 :: x23 :: x24 :: x25 :: x26 :: x27 :: some (.p d) :: r) K) := id rfl
theorem un_28 {ld : List Nat} {x0 x1 x2 x3 x4 x5 x6 x7 x8 x9 x10 x11 x12 x13 x14 x15 x16 x17 x18 x19 x20 x21 x22 x23 x24 x25 x26 x27 : Option Sl} {d : D} {r r1 : Ev} {K : RK} : (@unlK (x0 :: x1 :: x2 :: x3 :: x4 :: x5 :: x6 :: x7 :: x8 :: x9 :: x10 :: x11 :: x12 :: x13 :: x14 :: x15 :: x16 :: x17 :: x18 :: x19 :: x20 :: x21 :: x22 :: x23 :: x24 :: x25 :: x26 :: x27 :: some (.o d) :: r) r1 (28 :: ld) K) = (@setK r1 28 (some (.o d)) ⟨fun r2 => @unlK (x0 :: x1 :: x2 :: x3 :: x4 :: x5 :: x6 :: x7 :: x8 :: x9 :: x10 :: x11 :: x12 :: x13 :: x14 :: x15 :: x16 :: x17 :: x18 :: x19 :: x20 :: x21 :: x22 :: x23 :: x24 :: x25 :: x26 :: x27 :: some (.o d) :: r) r2 ld K⟩) := id rfl
theorem fn_28 {x0 x1 x2 x3 x4 x5 x6 x7 x8 x9 x10 x11 x12 x13 x14 x15 x16 x17 x18 x19 x20 x21 x22 x23 x24 x25 x26 x27 : Option Sl} {f : Nat} {r : Ev} {k : Nat → Prop} : (@getFK (x0 :: x1 :: x2 :: x3 :: x4 :: x5 :: x6 :: x7 :: x8 :: x9 :: x10 :: x11 :: x12 :: x13 :: x14 :: x15 :: x16 :: x17 :: x18 :: x19 :: x20 :: x21 :: x22 :: x23 :: x24 :: x25 :: x26 :: x27 :: some (.f f) :: r) 28 ⟨k⟩) = (k f) := id rfl
theorem var_29 {Ph : Nat → List D → Rs} {x0 x1 x2 x3 x4 x5 x6 x7 x8 x9 x10 x11 x12 x13 x14 x15 x16 x17 x18 x19 x20 x21 x22 x23 x24 x25 x26 x27 x28 : Option Sl} {d : D} {r : Ev} {q : D → Bool → Ev → Prop} {E : XK} : (@wp (ev Ph (.var 29) (x0 :: x1 :: x2 :: x3 :: x4 :: x5 :: x6 :: x7 :: x8 :: x9 :: x10 :: x11 :: x12 :: x13 :: x14 :: x15 :: x16 :: x17 :: x18 :: x19 :: x20 :: x21 :: x22 :: x23 :: x24 :: x25 :: x26 :: x27 :: x28 :: some (.p d) :: r)) ⟨q⟩ E) = (q d false (x0 :: x1 :: x2 :: x3 :: x4 :: x5 :: x6 :: x7 :: x8 :: x9 :: x10 :: x11 :: x12 :: x13 :: x14 :: x15 :: x16 :: x17 :: x18 :: x19 :: x20 :: x21 :: x22 :: x23 :: x24 :: x25 :: x26 :: x27 :: x28 :: some (.p d) :: r)) := id rfl
theorem set_29 {x0 x1 x2 x3 x4 x5 x6 x7 x8 x9 x10 x11 x12 x13 x14 x15 x16 x17 x18 x19 x20 x21 x22 x23 x24 x25 x26 x27 x28 : Option Sl} {y s : Option Sl} {r : Ev} {k : Ev → Prop} : (@setK (x0 :: x1 :: x2 :: x3 :: x4 :: x5 :: x6 :: x7 :: x8 :: x9 :: x10 :: x11 :: x12 :: x13 :: x14 :: x15 :: x16 :: x17 :: x18 :: x19 :: x20 :: x21 :: x22 :: x23 :: x24 :: x25 :: x26 :: x27 :: x28 :: y :: r) 29 s ⟨k⟩) = (k (x0 :: x1 :: x2 :: x3 :: x4 :: x5 :: x6 :: x7 :: x8 :: x9 :: x10 :: x11 :: x12 :: x13 :: x14 :: x15 :: x16 :: x17 :: x18 :: x19 :: x20 :: x21 :: x22 :: x23 :: x24 :: x25 :: x26 :: x27 :: x28 :: s :: r)) := id rfl
theorem nm_29 {x0 x1 x2 x3 x4 x5 x6 x7 x8 x9 x10 x11 x12 x13 x14 x15 x16 x17 x18 x19 x20 x21 x22 x23 x24 x25 x26 x27 x28 : Option Sl} {y : Option Sl} {d : D} {r : Ev} {K : RK} : (@bindK (.nm 29) d (x0 :: x1 :: x2 :: x3 :: x4 :: x5 :: x6 :: x7 :: x8 :: x9 :: x10 :: x11 :: x12 :: x13 :: x14 :: x15 :: x16 :: x17 :: x18 :: x19 :: x20 :: x21 :: x22 :: x23 :: x24 :: x25 :: x26 :: x27 :: x28 :: y :: r) K) = (@setK (x0 :: x1 :: x2 :: x3 :: x4 :: x5 :: x6 :: x7 :: x8 :: x9 :: x10 :: x11 :: x12 :: x13 :: x14 :: x15 :: x16 :: x17 :: x18 :: x19 :: x20 :: x21 :: x22 :: x23 :: x24 :: x25 :: x26 :: x27 :: x28 :: y :: r) 29 (some (.p d)) K) := nmlem (by simp only [List.length_cons]; omega)
theorem get_29 {x0 x1 x2 x3 x4 x5 x6 x7 x8 x9 x10 x11 x12 x13 x14 x15 x16 x17 x18 x19 x20 x21 x22 x23 x24 x25 x26 x27 x28 : Option Sl} {d : D} {r : Ev} {k : D → Prop} : (@getOK (x0 :: x1 :: x2 :: x3 :: x4 :: x5 :: x6 :: x7 :: x8 :: x9 :: x10 :: x11 :: x12 :: x13 :: x14 :: x15 :: x16 :: x17 :: x18 :: x19 :: x20 :: x21 :: x22 :: x23 :: x24 :: x25 :: x26 :: x27 :: x28 :: some (.o d) :: r) 29 ⟨k⟩) = (k d) := id rfl
theorem ld_p29 {Ph : Nat → List D → Rs} {own ld : List Nat} {e : CE} {x0 x1 x2 x3 x4 x5 x6 x7 x8 x9 x10 x11 x12 x13 x14 x15 x16 x17 x18 x19 x20 x21 x22 x23 x24 x25 x26 x27 x28 : Option Sl} {d : D} {r : Ev} {Q : QK} {E : XK} : (@wpM Ph own (29 :: ld) e (x0 :: x1 :: x2 :: x3 :: x4 :: x5 :: x6 :: x7 :: x8 :: x9 :: x10 :: x11 :: x12 :: x13 :: x14 :: x15 :: x16 :: x17 :: x18 :: x19 :: x20 :: x21 :: x22 :: x23 :: x24 :: x25 :: x26 :: x27 :: x28 :: some (.p d) :: r) Q E) = (@wpM Ph own ld e (x0 :: x1 :: x2 :: x3 :: x4 :: x5 :: x6 :: x7 :: x8 :: x9 :: x10 :: x11 :: x12 :: x13 :: x14 :: x15 :: x16 :: x17 :: x18 :: x19 :: x20 :: x21 :: x22 :: x23 :: x24 :: x25 :: x26 :: x27 :: x28 :: some (.p d) :: r) Q E) := wpM_skip rfl
theorem lf_p29 {ld : List Nat} {x0 x1 x2 x3 x4 x5 x6 x7 x8 x9 x10 x11 x12 x13 x14 x15 x16 x17 x18 x19 x20 x21 x22 x23 x24 x25 x26 x27 x28 : Option Sl} {d : D} {r : Ev} {K : RK} : (@lendK (29 :: ld) (x0 :: x1 :: x2 :: x3 :: x4 :: x5 :: x6 :: x7 :: x8 :: x9 :: x10 :: x11 :: x12 :: x13 :: x14 :: x15 :: x16 :: x17 :: x18 :: x19 :: x20 :: x21 :: x22 :: x23 :: x24 :: x25 :: x26 :: x27 :: x28 :: some (.p d) :: r) K) = (@lendK ld (x0 :: x1 :: x2 :: x3 :: x4 :: x5 :: x6 :: x7 :: x8 :: x9 :: x10 :: x11 :: x12 :: x13 :: x14 :: x15 :: x16 :: x17 :: x18 :: x19 :: x20 :: x21 :: x22 :: x23 :: x24 :: x25 :: x26 :: x27 :: x28 :: some (.p d) :: r) K) := id rfl
theorem ld_n29 {Ph : Nat → List D → Rs} {own ld : List Nat} {e : CE} {x0 x1 x2 x3 x4 x5 x6 x7 x8 x9 x10 x11 x12 x13 x14 x15 x16 x17 x18 x19 x20 x21 x22 x23 x24 x25 x26 x27 x28 : Option Sl} {r : Ev} {Q : QK} {E : XK} : (@wpM Ph own (29 :: ld) e (x0 :: x1 :: x2 :: x3 :: x4 :: x5 :: x6 :: x7 :: x8 :: x9 :: x10 :: x11 :: x12 :: x13 :: x14 :: x15 :: x16 :: x17 :: x18 :: x19 :: x20 :: x21 :: x22 :: x23 :: x24 :: x25 :: x26 :: x27 :: x28 :: none :: r) Q E) = (@wpM Ph own ld e (x0 :: x1 :: x2 :: x3 :: x4 :: x5 :: x6 :: x7 :: x8 :: x9 :: x10 :: x11 :: x12 :: x13 :: x14 :: x15 :: x16 :: x17 :: x18 :: x19 :: x20 :: x21 :: x22 :: x23 :: x24 :: x25 :: x26 :: x27 :: x28 :: none :: r) Q E) := wpM_skip rfl
theorem lf_n29 {ld : List Nat} {x0 x1 x2 x3 x4 x5 x6 x7 x8 x9 x10 x11 x12 x13 x14 x15 x16 x17 x18 x19 x20 x21 x22 x23 x24 x25 x26 x27 x28 : Option Sl} {r : Ev} {K : RK} : (@lendK (29 :: ld) (x0 :: x1 :: x2 :: x3 :: x4 :: x5 :: x6 :: x7 :: x8 :: x9 :: x10 :: x11 :: x12 :: x13 :: x14 :: x15 :: x16 :: x17 :: x18 :: x19 :: x20 :: x21 :: x22 :: x23 :: x24 :: x25 :: x26 :: x27 :: x28 :: none :: r) K) = (@lendK ld (x0 :: x1 :: x2 :: x3 :: x4 :: x5 :: x6 :: x7 :: x8 :: x9 :: x10 :: x11 :: x12 :: x13 :: x14 :: x15 :: x16 :: x17 :: x18 :: x19 :: x20 :: x21 :: x22 :: x23 :: x24 :: x25 :: x26 :: x27 :: x28 :: none :: r) K) := id rfl
theorem ld_f29 {Ph : Nat → List D → Rs} {own ld : List Nat} {e : CE} {x0 x1 x2 x3 x4 x5 x6 x7 x8 x9 x10 x11 x12 x13 x14 x15 x16 x17 x18 x19 x20 x21 x22 x23 x24 x25 x26 x27 x28 : Option Sl} {d : Nat} {r : Ev} {Q : QK} {E : XK} : (@wpM Ph own (29 :: ld) e (x0 :: x1 :: x2 :: x3 :: x4 :: x5 :: x6 :: x7 :: x8 :: x9 :: x10 :: x11 :: x12 :: x13 :: x14 :: x15 :: x16 :: x17 :: x18 :: x19 :: x20 :: x21 :: x22 :: x23 :: x24 :: x25 :: x26 :: x27 :: x28 :: some (.f d) :: r) Q E) = (@wpM Ph own ld e (x0 :: x1 :: x2 :: x3 :: x4 :: x5 :: x6 :: x7 :: x8 :: x9 :: x10 :: x11 :: x12 :: x13 :: x14 :: x15 :: x16 :: x17 :: x18 :: x19 :: x20 :: x21 :: x22 :: x23 :: x24 :: x25 :: x26 :: x27 :: x28 :: some (.f d) :: r) Q E) := wpM_skip rfl
theorem lf_f29 {ld : List Nat} {x0 x1 x2 x3 x4 x5 x6 x7 x8 x9 x10 x11 x12 x13 x14 x15 x16 x17 x18 x19 x20 x21 x22 x23 x24 x25 x26 x27 x28 : Option Sl} {d : Nat} {r : Ev} {K : RK} : (@lendK (29 :: ld) (x0 :: x1 :: x2 :: x3 :: x4 :: x5 :: x6 :: x7 :: x8 :: x9 :: x10 :: x11 :: x12 :: x13 :: x14 :: x15 :: x16 :: x17 :: x18 :: x19 :: x20 :: x21 :: x22 :: x23 :: x24 :: x25 :: x26 :: x27 :: x28 :: some (.f d) :: r) K) = (@lendK ld (x0 :: x1 :: x2 :: x3 :: x4 :: x5 :: x6 :: x7 :: x8 :: x9 :: x10 :: x11 :: x12 :: x13 :: x14 :: x15 :: x16 :: x17 :: x18 :: x19 :: x20 :: x21 :: x22 :: x23 :: x24 :: x25 :: x26 :: x27 :: x28 :: some (.f d) :: r) K) := id rfl
theorem ld_o29 {Ph : Nat → List D → Rs} {own ld : List Nat} {e : CE} {x0 x1 x2 x3 x4 x5 x6 x7 x8 x9 x10 x11 x12 x13 x14 x15 x16 x17 x18 x19 x20 x21 x22 x23 x24 x25 x26 x27 x28 : Option Sl} {d : D} {r : Ev} {Q : QK} {E : XK} : (@wpM Ph own (29 :: ld) e (x0 :: x1 :: x2 :: x3 :: x4 :: x5 :: x6 :: x7 :: x8 :: x9 :: x10 :: x11 :: x12 :: x13 :: x14 :: x15 :: x16 :: x17 :: x18 :: x19 :: x20 :: x21 :: x22 :: x23 :: x24 :: x25 :: x26 :: x27 :: x28 :: some (.o d) :: r) Q E) = (@wpM Ph (own ++ [29]) ld e (x0 :: x1 :: x2 :: x3 :: x4 :: x5 :: x6 :: x7 :: x8 :: x9 :: x10 :: x11 :: x12 :: x13 :: x14 :: x15 :: x16 :: x17 :: x18 :: x19 :: x20 :: x21 :: x22 :: x23 :: x24 :: x25 :: x26 :: x27 :: x28 :: some (.o d) :: r) Q E) := wpM_own
theorem lf_o29 {ld : List Nat} {x0 x1 x2 x3 x4 x5 x6 x7 x8 x9 x10 x11 x12 x13 x14 x15 x16 x17 x18 x19 x20 x21 x22 x23 x24 x25 x26 x27 x28 : Option Sl} {d : D} {r : Ev} {K : RK} : (@lendK (29 :: ld) (x0 :: x1 :: x2 :: x3 :: x4 :: x5 :: x6 :: x7 :: x8 :: x9 :: x10 :: x11 :: x12 :: x13 :: x14 :: x15 :: x16 :: x17 :: x18 :: x19 :: x20 :: x21 :: x22 :: x23 :: x24 :: x25 :: x26 :: x27 :: x28 :: some (.o d) :: r) K) = (@lendK ld (x0 :: x1 :: x2 :: x3 :: x4 :: x5 :: x6 :: x7 :: x8 :: x9 :: x10 :: x11 :: x12 :: x13 :: x14 :: x15 :: x16 :: x17 :: x18 :: x19 :: x20 :: x21 :: x22 :: x23 :: x24 :: x25 :: x26 :: x27 :: x28 :: some (.p d) :: r) K) := id rfl
theorem un_29 {ld : List Nat} {x0 x1 x2 x3 x4 x5 x6 x7 x8 x9 x10 x11 x12 x13 x14 x15 x16 x17 x18 x19 x20 x21 x22 x23 x24 x25 x26 x27 x28 : Option Sl} {d : D} {r r1 : Ev} {K : RK} : (@unlK (x0 :: x1 :: x2 :: x3 :: x4 :: x5 :: x6 :: x7 :: x8 :: x9 :: x10 :: x11 :: x12 :: x13 :: x14 :: x15 :: x16 :: x17 :: x18 :: x19 :: x20 :: x21 :: x22 :: x23 :: x24 :: x25 :: x26 :: x27 :: x28 :: some (.o d) :: r) r1 (29 :: ld) K) = (@setK r1 29 (some (.o d)) ⟨fun r2 => @unlK (x0 :: x1 :: x2 :: x3 :: x4 :: x5 :: x6 :: x7 :: x8 :: x9 :: x10 :: x11 :: x12 :: x13 :: x14 :: x15 :: x16 :: x17 :: x18 :: x19 :: x20 :: x21 :: x22 :: x23 :: x24 :: x25 :: x26 :: x27 :: x28 :: some (.o d) :: r) r2 ld K⟩) := id rfl
theorem fn_29 {x0 x1 x2 x3 x4 x5 x6 x7 x8 x9 x10 x11 x12 x13 x14 x15 x16 x17 x18 x19 x20 x21 x22 x23 x24 x25 x26 x27 x28 : Option Sl} {f : Nat} {r : Ev} {k : Nat → Prop} : (@getFK (x0 :: x1 :: x2 :: x3 :: x4 :: x5 :: x6 :: x7 :: x8 :: x9 :: x10 :: x11 :: x12 :: x13 :: x14 :: x15 :: x16 :: x17 :: x18 :: x19 :: x20 :: x21 :: x22 :: x23 :: x24 :: x25 :: x26 :: x27 :: x28 :: some (.f f) :: r) 29 ⟨k⟩) = (k f) := id rfl
theorem var_30 {Ph : Nat → List D → Rs} {x0 x1 x2 x3 x4 x5 x6 x7 x8 x9 x10 x11 x12 x13 x14 x15 x16 x17 x18 x19 x20 x21 x22 x23 x24 x25 x26 x27 x28 x29 : Option Sl} {d : D} {r : Ev} {q : D → Bool → Ev → Prop} {E : XK} : (@wp (ev Ph (.var 30) (x0 :: x1 :: x2 :: x3 :: x4 :: x5 :: x6 :: x7 :: x8 :: x9 :: x10 :: x11 :: x12 :: x13 :: x14 :: x15 :: x16 :: x17 :: x18 :: x19 :: x20 :: x21 :: x22 :: x23 :: x24 :: x25 :: x26 :: x27 :: x28 :: x29 :: some (.p d) :: r)) ⟨q⟩ E) = (q d false (x0 :: x1 :: x2 :: x3 :: x4 :: x5 :: x6 :: x7 :: x8 :: x9 :: x10 :: x11 :: x12 :: x13 :: x14 :: x15 :: x16 :: x17 :: x18 :: x19 :: x20 :: x21 :: x22 :: x23 :: x24 :: x25 :: x26 :: x27 :: x28 :: x29 :: some (.p d) :: r)) := id rfl
theorem set_30 {x0 x1 x2 x3 x4 x5 x6 x7 x8 x9 x10 x11 x12 x13 x14 x15 x16 x17 x18 x19 x20 x21 x22 x23 x24 x25 x26 x27 x28 x29 : Option Sl} {y s : Option Sl} {r : Ev} {k : Ev → Prop} : (@setK (x0 :: x1 :: x2 :: x3 :: x4 :: x5 :: x6 :: x7 :: x8 :: x9 :: x10 :: x11 :: x12 :: x13 :: x14 :: x15 :: x16 :: x17 :: x18 :: x19 :: x20 :: x21 :: x22 :: x23 :: x24 :: x25 :: x26 :: x27 :: x28 :: x29 :: y :: r) 30 s ⟨k⟩) = (k (x0 :: x1 :: x2 :: x3 :: x4 :: x5 :: x6 :: x7 :: x8 :: x9 :: x10 :: x11 :: x12 :: x13 :: x14 :: x15 :: x16 :: x17 :: x18 :: x19 :: x20 :: x21 :: x22 :: x23 :: x24 :: x25 :: x26 :: x27 :: x28 :: x29 :: s :: r)) := id rfl
theorem nm_30 {x0 x1 x2 x3 x4 x5 x6 x7 x8 x9 x10 x11 x12 x13 x14 x15 x16 x17 x18 x19 x20 x21 x22 x23 x24 x25 x26 x27 x28 x29 : Option Sl} {y : Option Sl} {d : D} {r : Ev} {K : RK} : (@bindK (.nm 30) d (x0 :: x1 :: x2 :: x3 :: x4 :: x5 :: x6 :: x7 :: x8 :: x9 :: x10 :: x11 :: x12 :: x13 :: x14 :: x15 :: x16 :: x17 :: x18 :: x19 :: x20 :: x21 :: x22 :: x23 :: x24 :: x25 :: x26 :: x27 :: x28 :: x29 :: y :: r) K) = (@setK (x0 :: x1 :: x2 :: x3 :: x4 :: x5 :: x6 :: x7 :: x8 :: x9 :: x10 :: x11 :: x12 :: x13 :: x14 :: x15 :: x16 :: x17 :: x18 :: x19 :: x20 :: x21 :: x22 :: x23 :: x24 :: x25 :: x26 :: x27 :: x28 :: x29 :: y :: r) 30 (some (.p d)) K) := nmlem (by simp only [List.length_cons]; omega)
theorem get_30 {x0 x1 x2 x3 x4 x5 x6 x7 x8 x9 x10 x11 x12 x13 x14 x15 x16 x17 x18 x19 x20 x21 x22 x23 x24 x25 x26 x27 x28 x29 : Option Sl} {d : D} {r : Ev} {k : D → Prop} : (@getOK (x0 :: x1 :: x2 :: x3 :: x4 :: x5 :: x6 :: x7 :: x8 :: x9 :: x10 :: x11 :: x12 :: x13 :: x14 :: x15 :: x16 :: x17 :: x18 :: x19 :: x20 :: x21 :: x22 :: x23 :: x24 :: x25 :: x26 :: x27 :: x28 :: x29 :: some (.o d) :: r) 30 ⟨k⟩) = (k d) := id rfl
theorem ld_p30 {Ph : Nat → List D → Rs} {own ld : List Nat} {e : CE} {x0 x1 x2 x3 x4 x5 x6 x7 x8 x9 x10 x11 x12 x13 x14 x15 x16 x17 x18 x19 x20 x21 x22 x23 x24 x25 x26 x27 x28 x29 : Option Sl} {d : D} {r : Ev} {Q : QK} {E : XK} : (@wpM Ph own (30 :: ld) e (x0 :: x1 :: x2 :: x3 :: x4 :: x5 :: x6 :: x7 :: x8 :: x9 :: x10 :: x11 :: x12 :: x13 :: x14 :: x15 :: x16 :: x17 :: x18 :: x19 :: x20 :: x21 :: x22 :: x23 :: x24 :: x25 :: x26 :: x27 :: x28 :: x29 :: some (.p d) :: r) Q E) = (@wpM Ph own ld e (x0 :: x1 :: x2 :: x3 :: x4 :: x5 :: x6 :: x7 :: x8 :: x9 :: x10 :: x11 :: x12 :: x13 :: x14 :: x15 :: x16 :: x17 :: x18 :: x19 :: x20 :: x21 :: x22 :: x23 :: x24 :: x25 :: x26 :: x27 :: x28 :: x29 :: some (.p d) :: r) Q E) := wpM_skip rfl
theorem lf_p30 {ld : List Nat} {x0 x1 x2 x3 x4 x5 x6 x7 x8 x9 x10 x11 x12 x13 x14 x15 x16 x17 x18 x19 x20 x21 x22 x23 x24 x25 x26 x27 x28 x29 : Option Sl} {d : D} {r : Ev} {K : RK} : (@lendK (30 :: ld) (x0 :: x1 :: x2 :: x3 :: x4 :: x5 :: x6 :: x7 :: x8 :: x9 :: x10 :: x11 :: x12 :: x13 :: x14 :: x15 :: x16 :: x17 :: x18 :: x19 :: x20 :: x21 :: x22 :: x23 :: x24 :: x25 :: x26 :: x27 :: x28 :: x29 :: some (.p d) :: r) K) = (@lendK ld (x0 :: x1 :: x2 :: x3 :: x4 :: x5 :: x6 :: x7 :: x8 :: x9 :: x10 :: x11 :: x12 :: x13 :: x14 :: x15 :: x16 :: x17 :: x18 :: x19 :: x20 :: x21 :: x22 :: x23 :: x24 :: x25 :: x26 :: x27 :: x28 :: x29 :: some (.p d) :: r) K) := id rfl
theorem ld_n30 {Ph : Nat → List D → Rs} {own ld : List Nat} {e : CE} {x0 x1 x2 x3 x4 x5 x6 x7 x8 x9 x10 x11 x12 x13 x14 x15 x16 x17 x18 x19 x20 x21 x22 x23 x24 x25 x26 x27 x28 x29 : Option Sl} {r : Ev} {Q : QK} {E : XK} : (@wpM Ph own (30 :: ld) e (x0 :: x1 :: x2 :: x3 :: x4 :: x5 :: x6 :: x7 :: x8 :: x9 :: x10 :: x11 :: x12 :: x13 :: x14 :: x15 :: x16 :: x17 :: x18 :: x19 :: x20 :: x21 :: x22 :: x23 :: x24 :: x25 :: x26 :: x27 :: x28 :: x29 :: none :: r) Q E) = (@wpM Ph own ld e (x0 :: x1 :: x2 :: x3 :: x4 :: x5 :: x6 :: x7 :: x8 :: x9 :: x10 :: x11 :: x12 :: x13 :: x14 :: x15 :: x16 :: x17 :: x18 :: x19 :: x20 :: x21 :: x22 :: x23 :: x24 :: x25 :: x26 :: x27 :: x28 :: x29 :: none :: r) Q E) := wpM_skip rfl
theorem lf_n30 {ld : List Nat} {x0 x1 x2 x3 x4 x5 x6 x7 x8 x9 x10 x11 x12 x13 x14 x15 x16 x17 x18 x19 x20 x21 x22 x23 x24 x25 x26 x27 x28 x29 : Option Sl} {r : Ev} {K : RK} : (@lendK (30 :: ld) (x0 :: x1 :: x2 :: x3 :: x4 :: x5 :: x6 :: x7 :: x8 :: x9 :: x10 :: x11 :: x12 :: x13 :: x14 :: x15 :: x16 :: x17 :: x18 :: x19 :: x20 :: x21 :: x22 :: x23 :: x24 :: x25 :: x26 :: x27 :: x28 :: x29 :: none :: r) K) = (@lendK ld (x0 :: x1 :: x2 :: x3 :: x4 :: x5 :: x6 :: x7 :: x8 :: x9 :: x10 :: x11 :: x12 :: x13 :: x14 :: x15 :: x16 :: x17 :: x18 :: x19 :: x20 :: x21 :: x22 :: x23 :: x24 :: x25 :: x26 :: x27 :: x28 :: x29 :: none :: r) K) := id rfl
theorem ld_f30 {Ph : Nat → List D → Rs} {own ld : List Nat} {e : CE} {x0 x1 x2 x3 x4 x5 x6 x7 x8 x9 x10 x11 x12 x13 x14 x15 x16 x17 x18 x19 x20 x21 x22 x23 x24 x25 x26 x27 x28 x29 : Option Sl} {d : Nat} {r : Ev} {Q : QK} {E : XK} : (@wpM Ph own (30 :: ld) e (x0 :: x1 :: x2 :: x3 :: x4 :: x5 :: x6 :: x7 :: x8 :: x9 :: x10 :: x11 :: x12 :: x13 :: x14 :: x15 :: x16 :: x17 :: x18 :: x19 :: x20 :: x21 :: x22 :: x23 :: x24 :: x25 :: x26 :: x27 :: x28 :: x29 :: some (.f d) :: r) Q E) = (@wpM Ph own ld e (x0 :: x1 :: x2 :: x3 :: x4 :: x5 :: x6 :: x7 :: x8 :: x9 :: x10 :: x11 :: x12 :: x13 :: x14 :: x15 :: x16 :: x17 :: x18 :: x19 :: x20 :: x21 :: x22 :: x23 :: x24 :: x25 :: x26 :: x27 :: x28 :: x29 :: some (.f d) :: r) Q E) := wpM_skip rfl
theorem lf_f30 {ld : List Nat} {x0 x1 x2 x3 x4 x5 x6 x7 x8 x9 x10 x11 x12 x13 x14 x15 x16 x17 x18 x19 x20 x21 x22 x23 x24 x25 x26 x27 x28 x29 : Option Sl} {d : Nat} {r : Ev} {K : RK} : (@lendK (30 :: ld) (x0 :: x1 :: x2 :: x3 :: x4 :: x5 :: x6 :: x7 :: x8 :: x9 :: x10 :: x11 :: x12 :: x13 :: x14 :: x15 :: x16 :: x17 :: x18 :: x19 :: x20 :: x21 :: x22 :: x23 :: x24 :: x25 :: x26 :: x27 :: x28 :: x29 :: some (.f d) :: r) K) = (@lendK ld (x0 :: x1 :: x2 :: x3 :: x4 :: x5 :: x6 :: x7 :: x8 :: x9 :: x10 :: x11 :: x12 :: x13 :: x14 :: x15 :: x16 :: x17 :: x18 :: x19 :: x20 :: x21 :: x22 :: x23 :: x24 :: x25 :: x26 :: x27 :: x28 :: x29 :: some (.f d) :: r) K) := id rfl
theorem ld_o30 {Ph : Nat → List D → Rs} {own ld : List Nat} {e : CE} {x0 x1 x2 x3 x4 x5 x6 x7 x8 x9 x10 x11 x12 x13 x14 x15 x16 x17 x18 x19 x20 x21 x22 x23 x24 x25 x26 x27 x28 x29 : Option Sl} {d : D} {r : Ev} {Q : QK} {E : XK} : (@wpM Ph own (30 :: ld) e (x0 :: x1 :: x2 :: x3 :: x4 :: x5 :: x6 :: x7 :: x8 :: x9 :: x10 :: x11 :: x12 :: x13 :: x14 :: x15 :: x16 :: x17 :: x18 :: x19 :: x20 :: x21 :: x22 :: x23 :: x24 :: x25 :: x26 :: x27 :: x28 :: x29 :: some (.o d) :: r) Q E) = (@wpM Ph (own ++ [30]) ld e (x0 :: x1 :: x2 :: x3 :: x4 :: x5 :: x6 :: x7 :: x8 :: x9 :: x10 :: x11 :: x12 :: x13 :: x14 :: x15 :: x16 :: x17 :: x18 :: x19 :: x20 :: x21 :: x22 :: x23 :: x24 :: x25 :: x26 :: x27 :: x28 :: x29 :: some (.o d) :: r) Q E) := wpM_own
theorem lf_o30 {ld : List Nat} {x0 x1 x2 x3 x4 x5 x6 x7 x8 x9 x10 x11 x12 x13 x14 x15 x16 x17 x18 x19 x20 x21 x22 x23 x24 x25 x26 x27 x28 x29 : Option Sl} {d : D} {r : Ev} {K : RK} : (@lendK (30 :: ld) (x0 :: x1 :: x2 :: x3 :: x4 :: x5 :: x6 :: x7 :: x8 :: x9 :: x10 :: x11 :: x12 :: x13 :: x14 :: x15 :: x16 :: x17 :: x18 :: x19 :: x20 :: x21 :: x22 :: x23 :: x24 :: x25 :: x26 :: x27 :: x28 :: x29 :: some (.o d) :: r) K) = (@lendK ld (x0 :: x1 :: x2 :: x3 :: x4 :: x5 :: x6 :: x7 :: x8 :: x9 :: x10 :: x11 :: x12 :: x13 :: x14 :: x15 :: x16 :: x17 :: x18 :: x19 :: x20 :: x21 :: x22 :: x23 :: x24 :: x25 :: x26 :: x27 :: x28 :: x29 :: some (.p d) :: r) K) := id rfl
theorem un_30 {ld : List Nat} {x0 x1 x2 x3 x4 x5 x6 x7 x8 x9 x10 x11 x12 x13 x14 x15 x16 x17 x18 x19 x20 x21 x22 x23 x24 x25 x26 x27 x28 x29 : Option Sl} {d : D} {r r1 : Ev} {K : RK} : (@unlK (x0 :: x1 :: x2 :: x3 :: x4 :: x5 :: x6 :: x7 :: x8 :: x9 :: x10 :: x11 :: x12 :: x13 :: x14 :: x15 :: x16 :: x17 :: x18 :: x19 :: x20 :: x21 :: x22 :: x23 :: x24 :: x25 :: x26 :: x27 :: x28 :: x29 :: some (.o d) :: r) r1 (30 :: ld) K) = (@setK r1 30 (some (.o d)) ⟨fun r2 => @unlK (x0 :: x1 :: x2 :: x3 :: x4 :: x5 :: x6 :: x7 :: x8 :: x9 :: x10 :: x11 :: x12 :: x13 :: x14 :: x15 :: x16 :: x17 :: x18 :: x19 :: x20 :: x21 :: x22 :: x23 :: x24 :: x25 :: x26 :: x27 :: x28 :: x29 :: some (.o d) :: r) r2 ld K⟩) := id rfl
theorem fn_30 {x0 x1 x2 x3 x4 x5 x6 x7 x8 x9 x10 x11 x12 x13 x14 x15 x16 x17 x18 x19 x20 x21 x22 x23 x24 x25 x26 x27 x28 x29 : Option Sl} {f : Nat} {r : Ev} {k : Nat → Prop} : (@getFK (x0 :: x1 :: x2 :: x3 :: x4 :: x5 :: x6 :: x7 :: x8 :: x9 :: x10 :: x11 :: x12 :: x13 :: x14 :: x15 :: x16 :: x17 :: x18 :: x19 :: x20 :: x21 :: x22 :: x23 :: x24 :: x25 :: x26 :: x27 :: x28 :: x29 :: some (.f f) :: r) 30 ⟨k⟩) = (k f) := id rfl
theorem var_31 {Ph : Nat → List D → Rs} {x0 x1 x2 x3 x4 x5 x6 x7 x8 x9 x10 x11 x12 x13 x14 x15 x16 x17 x18 x19 x20 x21 x22 x23 x24 x25 x26 x27 x28 x29 x30 : Option Sl} {d : D} {r : Ev} {q : D → Bool → Ev → Prop} {E : XK} : (@wp (ev Ph (.var 31) (x0 :: x1 :: x2 :: x3 :: x4 :: x5 :: x6 :: x7 :: x8 :: x9 :: x10 :: x11 :: x12 :: x13 :: x14 :: x15 :: x16 :: x17 :: x18 :: x19 :: x20 :: x21 :: x22 :: x23 :: x24 :: x25 :: x26 :: x27 :: x28 :: x29 :: x30 :: some (.p d) :: r)) ⟨q⟩ E) = (q d false (x0 :: x1 :: x2 :: x3 :: x4 :: x5 :: x6 :: x7 :: x8 :: x9 :: x10 :: x11 :: x12 :: x13 :: x14 :: x15 :: x16 :: x17 :: x18 :: x19 :: x20 :: x21 :: x22 :: x23 :: x24 :: x25 :: x26 :: x27 :: x28 :: x29 :: x30 :: some (.p d) :: r)) := id rfl
theorem set_31 {x0 x1 x2 x3 x4 x5 x6 x7 x8 x9 x10 x11 x12 x13 x14 x15 x16 x17 x18 x19 x20 x21 x22 x23 x24 x25 x26 x27 x28 x29 x30 : Option Sl} {y s : Option Sl} {r : Ev} {k : Ev → Prop} : (@setK (x0 :: x1 :: x2 :: x3 :: x4 :: x5 :: x6 :: x7 :: x8 :: x9 :: x10 :: x11 :: x12 :: x13 :: x14 :: x15 :: x16 :: x17 :: x18 :: x19 :: x20 :: x21 :: x22 :: x23 :: x24 :: x25 :: x26 :: x27 :: x28 :: x29 :: x30 :: y :: r) 31 s ⟨k⟩) = (k (x0 :: x1 :: x2 :: x3 :: x4 :: x5 :: x6 :: x7 :: x8 :: x9 :: x10 :: x11 :: x12 :: x13 :: x14 :: x15 :: x16 :: x17 :: x18 :: x19 :: x20 :: x21 :: x22 :: x23 :: x24 :: x25 :: x26 :: x27 :: x28 :: x29 :: x30 :: s :: r)) := id rfl
theorem nm_31 {x0 x1 x2 x3 x4 x5 x6 x7 x8 x9 x10 x11 x12 x13 x14 x15 x16 x17 x18 x19 x20 x21 x22 x23 x24 x25 x26 x27 x28 x29 x30 : Option Sl} {y : Option Sl} {d : D} {r : Ev} {K : RK} : (@bindK (.nm 31) d (x0 :: x1 :: x2 :: x3 :: x4 :: x5 :: x6 :: x7 :: x8 :: x9 :: x10 :: x11 :: x12 :: x13 :: x14 :: x15 :: x16 :: x17 :: x18 :: x19 :: x20 :: x21 :: x22 :: x23 :: x24 :: x25 :: x26 :: x27 :: x28 :: x29 :: x30 :: y :: r) K) = (@setK (x0 :: x1 :: x2 :: x3 :: x4 :: x5 :: x6 :: x7 :: x8 :: x9 :: x10 :: x11 :: x12 :: x13 :: x14 :: x15 :: x16 :: x17 :: x18 :: x19 :: x20 :: x21 :: x22 :: x23 :: x24 :: x25 :: x26 :: x27 :: x28 :: x29 :: x30 :: y :: r) 31 (some (.p d)) K) := nmlem (by simp only [List.length_cons]; omega)
theorem get_31 {x0 x1 x2 x3 x4 x5 x6 x7 x8 x9 x10 x11 x12 x13 x14 x15 x16 x17 x18 x19 x20 x21 x22 x23 x24 x25 x26 x27 x28 x29 x30 : Option Sl} {d : D} {r : Ev} {k : D → Prop} : (@getOK (x0 :: x1 :: x2 :: x3 :: x4 :: x5 :: x6 :: x7 :: x8 :: x9 :: x10 :: x11 :: x12 :: x13 :: x14 :: x15 :: x16 :: x17 :: x18 :: x19 :: x20 :: x21 :: x22 :: x23 :: x24 :: x25 :: x26 :: x27 :: x28 :: x29 :: x30 :: some (.o d) :: r) 31 ⟨k⟩) = (k d) := id rfl
theorem ld_p31 {Ph : Nat → List D → Rs} {own ld : List Nat} {e : CE} {x0 x1 x2 x3 x4 x5 x6 x7 x8 x9 x10 x11 x12 x13 x14 x15 x16 x17 x18 x19 x20 x21 x22 x23 x24 x25 x26 x27 x28 x29 x30 : Option Sl} {d : D} {r : Ev} {Q : QK} {E : XK} : (@wpM Ph own (31 :: ld) e (x0 :: x1 :: x2 :: x3 :: x4 :: x5 :: x6 :: x7 :: x8 :: x9 :: x10 :: x11 :: x12 :: x13 :: x14 :: x15 :: x16 :: x17 :: x18 :: x19 :: x20 :: x21 :: x22 :: x23 :: x24 :: x25 :: x26 :: x27 :: x28 :: x29 :: x30 :: some (.p d) :: r) Q E) = (@wpM Ph own ld e (x0 :: x1 :: x2 :: x3 :: x4 :: x5 :: x6 :: x7 :: x8 :: x9 :: x10 :: x11 :: x12 :: x13 :: x14 :: x15 :: x16 :: x17 :: x18 :: x19 :: x20 :: x21 :: x22 :: x23 :: x24 :: x25 :: x26 :: x27 :: x28 :: x29 :: x30 :: some (.p d) :: r) Q E) := wpM_skip rfl
theorem lf_p31 {ld : List Nat} {x0 x1 x2 x3 x4 x5 x6 x7 x8 x9 x10 x11 x12 x13 x14 x15 x16 x17 x18 x19 x20 x21 x22 x23 x24 x25 x26 x27 x28 x29 x30 : Option Sl} {d : D} {r : Ev} {K : RK} : (@lendK (31 :: ld) (x0 :: x1 :: x2 :: x3 :: x4 :: x5 :: x6 :: x7 :: x8 :: x9 :: x10 :: x11 :: x12 :: x13 :: x14 :: x15 :: x16 :: x17 :: x18 :: x19 :: x20 :: x21 :: x22 :: x23 :: x24 :: x25 :: x26 :: x27 :: x28 :: x29 :: x30 :: some (.p d) :: r) K) = (@lendK ld (x0 :: x1 :: x2 :: x3 :: x4 :: x5 :: x6 :: x7 :: x8 :: x9 :: x10 :: x11 :: x12 :: x13 :: x14 :: x15 :: x16 :: x17 :: x18 :: x19 :: x20 :: x21 :: x22 :: x23 :: x24 :: x25 :: x26 :: x27 :: x28 :: x29 :: x30 :: some (.p d) :: r) K) := id rfl
theorem ld_n31 {Ph : Nat → List D → Rs} {own ld : List Nat} {e : CE} {x0 x1 x2 x3 x4 x5 x6 x7 x8 x9 x10 x11 x12 x13 x14 x15 x16 x17 x18 x19 x20 x21 x22 x23 x24 x25 x26 x27 x28 x29 x30 : Option Sl} {r : Ev} {Q : QK} {E : XK} : (@wpM Ph own (31 :: ld) e (x0 :: x1 :: x2 :: x3 :: x4 :: x5 :: x6 :: x7 :: x8 :: x9 :: x10 :: x11 :: x12 :: x13 :: x14 :: x15 :: x16 :: x17 :: x18 :: x19 :: x20 :: x21 :: x22 :: x23 :: x24 :: x25 :: x26 :: x27 :: x28 :: x29 :: x30 :: none :: r) Q E) = (@wpM Ph own ld e (x0 :: x1 :: x2 :: x3 :: x4 :: x5 :: x6 :: x7 :: x8 :: x9 :: x10 :: x11 :: x12 :: x13 :: x14 :: x15 :: x16 :: x17 :: x18 :: x19 :: x20 :: x21 :: x22 :: x23 :: x24 :: x25 :: x26 :: x27 :: x28 :: x29 :: x30 :: none :: r) Q E) := wpM_skip rfl
theorem lf_n31 {ld : List Nat} {x0 x1 x2 x3 x4 x5 x6 x7 x8 x9 x10 x11 x12 x13 x14 x15 x16 x17 x18 x19 x20 x21 x22 x23 x24 x25 x26 x27 x28 x29 x30 : Option Sl} {r : Ev} {K : RK} : (@lendK (31 :: ld) (x0 :: x1 :: x2 :: x3 :: x4 :: x5 :: x6 :: x7 :: x8 :: x9 :: x10 :: x11 :: x12 :: x13 :: x14 :: x15 :: x16 :: x17 :: x18 :: x19 :: x20 :: x21 :: x22 :: x23 :: x24 :: x25 :: x26 :: x27 :: x28 :: x29 :: x30 :: none :: r) K) = (@lendK ld (x0 :: x1 :: x2 :: x3 :: x4 :: x5 :: x6 :: x7 :: x8 :: x9 :: x10 :: x11 :: x12 :: x13 :: x14 :: x15 :: x16 :: x17 :: x18 :: x19 :: x20 :: x21 :: x22 :: x23 :: x24 :: x25 :: x26 :: x27 :: x28 :: x29 :: x30 :: none :: r) K) := id rfl
theorem ld_f31 {Ph : Nat → List D → Rs} {own ld : List Nat} {e : CE} {x0 x1 x2 x3 x4 x5 x6 x7 x8 x9 x10 x11 x12 x13 x14 x15 x16 x17 x18 x19 x20 x21 x22 x23 x24 x25 x26 x27 x28 x29 x30 : Option Sl} {d : Nat} {r : Ev} {Q : QK} {E : XK} : (@wpM Ph own (31 :: ld) e (x0 :: x1 :: x2 :: x3 :: x4 :: x5 :: x6 :: x7 :: x8 :: x9 :: x10 :: x11 :: x12 :: x13 :: x14 :: x15 :: x16 :: x17 :: x18 :: x19 :: x20 :: x21 :: x22 :: x23 :: x24 :: x25 :: x26 :: x27 :: x28 :: x29 :: x30 :: some (.f d) :: r) Q E) = (@wpM Ph own ld e (x0 :: x1 :: x2 :: x3 :: x4 :: x5 :: x6 :: x7 :: x8 :: x9 :: x10 :: x11 :: x12 :: x13 :: x14 :: x15 :: x16 :: x17 :: x18 :: x19 :: x20 :: x21 :: x22 :: x23 :: x24 :: x25 :: x26 :: x27 :: x28 :: x29 :: x30 :: some (.f d) :: r) Q E) := wpM_skip rfl
theorem lf_f31 {ld : List Nat} {x0 x1 x2 x3 x4 x5 x6 x7 x8 x9 x10 x11 x12 x13 x14 x15 x16 x17 x18 x19 x20 x21 x22 x23 x24 x25 x26 x27 x28 x29 x30 : Option Sl} {d : Nat} {r : Ev} {K : RK} : (@lendK (31 :: ld) (x0 :: x1 :: x2 :: x3 :: x4 :: x5 :: x6 :: x7 :: x8 :: x9 :: x10 :: x11 :: x12 :: x13 :: x14 :: x15 :: x16 :: x17 :: x18 :: x19 :: x20 :: x21 :: x22 :: x23 :: x24 :: x25 :: x26 :: x27 :: x28 :: x29 :: x30 :: some (.f d) :: r) K) = (@lendK ld (x0 :: x1 :: x2 :: x3 :: x4 :: x5 :: x6 :: x7 :: x8 :: x9 :: x10 :: x11 :: x12 :: x13 :: x14 :: x15 :: x16 :: x17 :: x18 :: x19 :: x20 :: x21 :: x22 :: x23 :: x24 :: x25 :: x26 :: x27 :: x28 :: x29 :: x30 :: some (.f d) :: r) K) := id rfl
theorem ld_o31 {Ph : Nat → List D → Rs} {own ld : List Nat} {e : CE} {x0 x1 x2 x3 x4 x5 x6 x7 x8 x9 x10 x11 x12 x13 x14 x15 x16 x17 x18 x19 x20 x21 x22 x23 x24 x25 x26 x27 x28 x29 x30 : Option Sl} {d : D} {r : Ev} {Q : QK} {E : XK} : (@wpM Ph own (31 :: ld) e (x0 :: x1 :: x2 :: x3 :: x4 :: x5 :: x6 :: x7 :: x8 :: x9 :: x10 :: x11 :: x12 :: x13 :: x14 :: x15 :: x16 :: x17 :: x18 :: x19 :: x20 :: x21 :: x22 :: x23 :: x24 :: x25 :: x26 :: x27 :: x28 :: x29 :: x30 :: some (.o d) :: r) Q E) = (@wpM Ph (own ++ [31]) ld e (x0 :: x1 :: x2 :: x3 :: x4 :: x5 :: x6 :: x7 :: x8 :: x9 :: x10 :: x11 :: x12 :: x13 :: x14 :: x15 :: x16 :: x17 :: x18 :: x19 :: x20 :: x21 :: x22 :: x23 :: x24 :: x25 :: x26 :: x27 :: x28 :: x29 :: x30 :: some (.o d) :: r) Q E) := wpM_own
theorem lf_o31 {ld : List Nat} {x0 x1 x2 x3 x4 x5 x6 x7 x8 x9 x10 x11 x12 x13 x14 x15 x16 x17 x18 x19 x20 x21 x22 x23 x24 x25 x26 x27 x28 x29 x30 : Option Sl} {d : D} {r : Ev} {K : RK} : (@lendK (31 :: ld) (x0 :: x1 :: x2 :: x3 :: x4 :: x5 :: x6 :: x7 :: x8 :: x9 :: x10 :: x11 :: x12 :: x13 :: x14 :: x15 :: x16 :: x17 :: x18 :: x19 :: x20 :: x21 :: x22 :: x23 :: x24 :: x25 :: x26 :: x27 :: x28 :: x29 :: x30 :: some (.o d) :: r) K) = (@lendK ld (x0 :: x1 :: x2 :: x3 :: x4 :: x5 :: x6 :: x7 :: x8 :: x9 :: x10 :: x11 :: x12 :: x13 :: x14 :: x15 :: x16 :: x17 :: x18 :: x19 :: x20 :: x21 :: x22 :: x23 :: x24 :: x25 :: x26 :: x27 :: x28 :: x29 :: x30 :: some (.p d) :: r) K) := id rfl
theorem un_31 {ld : List Nat} {x0 x1 x2 x3 x4 x5 x6 x7 x8 x9 x10 x11 x12 x13 x14 x15 x16 x17 x18 x19 x20 x21 x22 x23 x24 x25 x26 x27 x28 x29 x30 : Option Sl} {d : D} {r r1 : Ev} {K : RK} : (@unlK (x0 :: x1 :: x2 :: x3 :: x4 :: x5 :: x6 :: x7 :: x8 :: x9 :: x10 :: x11 :: x12 :: x13 :: x14 :: x15 :: x16 :: x17 :: x18 :: x19 :: x20 :: x21 :: x22 :: x23 :: x24 :: x25 :: x26 :: x27 :: x28 :: x29 :: x30 :: some (.o d) :: r) r1 (31 :: ld) K) = (@setK r1 31 (some (.o d)) ⟨fun r2 => @unlK (x0 :: x1 :: x2 :: x3 :: x4 :: x5 :: x6 :: x7 :: x8 :: x9 :: x10 :: x11 :: x12 :: x13 :: x14 :: x15 :: x16 :: x17 :: x18 :: x19 :: x20 :: x21 :: x22 :: x23 :: x24 :: x25 :: x26 :: x27 :: x28 :: x29 :: x30 :: some (.o d) :: r) r2 ld K⟩) := id rfl
theorem fn_31 {x0 x1 x2 x3 x4 x5 x6 x7 x8 x9 x10 x11 x12 x13 x14 x15 x16 x17 x18 x19 x20 x21 x22 x23 x24 x25 x26 x27 x28 x29 x30 : Option Sl} {f : Nat} {r : Ev} {k : Nat → Prop} : (@getFK (x0 :: x1 :: x2 :: x3 :: x4 :: x5 :: x6 :: x7 :: x8 :: x9 :: x10 :: x11 :: x12 :: x13 :: x14 :: x15 :: x16 :: x17 :: x18 :: x19 :: x20 :: x21 :: x22 :: x23 :: x24 :: x25 :: x26 :: x27 :: x28 :: x29 :: x30 :: some (.f f) :: r) 31 ⟨k⟩) = (k f) := id rfl
theorem var_32 {Ph : Nat → List D → Rs} {x0 x1 x2 x3 x4 x5 x6 x7 x8 x9 x10 x11 x12 x13 x14 x15 x16 x17 x18 x19 x20 x21 x22 x23 x24 x25 x26 x27 x28 x29 x30 x31 : Option Sl} {d : D} {r : Ev} {q : D → Bool → Ev → Prop} {E : XK} : (@wp (ev Ph (.var 32) (x0 :: x1 :: x2 :: x3 :: x4 :: x5 :: x6 :: x7 :: x8 :: x9 :: x10 :: x11 :: x12 :: x13 :: x14 :: x15 :: x16 :: x17 :: x18 :: x19 :: x20 :: x21 :: x22 :: x23 :: x24 :: x25 :: x26 :: x27 :: x28 :: x29 :: x30 :: x31 :: some (.p d) :: r)) ⟨q⟩ E) = (q d false (x0 :: x1 :: x2 :: x3 :: x4 :: x5 :: x6 :: x7 :: x8 :: x9 :: x10 :: x11 :: x12 :: x13 :: x14 :: x15 :: x16 :: x17 :: x18 :: x19 :: x20 :: x21 :: x22 :: x23 :: x24 :: x25 :: x26 :: x27 :: x28 :: x29 :: x30 :: x31 :: some (.p d) :: r)) := id rfl
theorem set_32 {x0 x1 x2 x3 x4 x5 x6 x7 x8 x9 x10 x11 x12 x13 x14 x15 x16 x17 x18 x19 x20 x21 x22 x23 x24 x25 x26 x27 x28 x29 x30 x31 : Option Sl} {y s : Option Sl} {r : Ev} {k : Ev → Prop} : (@setK (x0 :: x1 :: x2 :: x3 :: x4 :: x5 :: x6 :: x7 :: x8 :: x9 :: x10 :: x11 :: x12 :: x13 :: x14 :: x15 :: x16 :: x17 :: x18 :: x19 :: x20 :: x21 :: x22 :: x23 :: x24 :: x25 :: x26 :: x27 :: x28 :: x29 :: x30 :: x31 :: y :: r) 32 s ⟨k⟩) = (k (x0 :: x1 :: x2 :: x3 :: x4 :: x5 :: x6 :: x7 :: x8 :: x9 :: x10 :: x11 :: x12 :: x13 :: x14 :: x15 :: x16 :: x17 :: x18 :: x19 :: x20 :: x21 :: x22 :: x23 :: x24 :: x25 :: x26 :: x27 :: x28 :: x29 :: x30 :: x31 :: s :: r)) := id rfl
theorem nm_32 {x0 x1 x2 x3 x4 x5 x6 x7 x8 x9 x10 x11 x12 x13 x14 x15 x16 x17 x18 x19 x20 x21 x22 x23 x24 x25 x26 x27 x28 x29 x30 x31 : Option Sl} {y : Option Sl} {d : D} {r : Ev} {K : RK} : (@bindK (.nm 32) d (x0 :: x1 :: x2 :: x3 :: x4 :: x5 :: x6 :: x7 :: x8 :: x9 :: x10 :: x11 :: x12 :: x13 :: x14 :: x15 :: x16 :: x17 :: x18 :: x19 :: x20 :: x21 :: x22 :: x23 :: x24 :: x25 :: x26 :: x27 :: x28 :: x29 :: x30 :: x31 :: y :: r) K) = (@setK (x0 :: x1 :: x2 :: x3 :: x4 :: x5 :: x6 :: x7 :: x8 :: x9 :: x10 :: x11 :: x12 :: x13 :: x14 :: x15 :: x16 :: x17 :: x18 :: x19 :: x20 :: x21 :: x22 :: x23 :: x24 :: x25 :: x26 :: x27 :: x28 :: x29 :: x30 :: x31 :: y :: r) 32 (some (.p d)) K) := nmlem (by simp only [List.length_cons]; omega)
theorem get_32 {x0 x1 x2 x3 x4 x5 x6 x7 x8 x9 x10 x11 x12 x13 x14 x15 x16 x17 x18 x19 x20 x21 x22 x23 x24 x25 x26 x27 x28 x29 x30 x31 : Option Sl} {d : D} {r : Ev} {k : D → Prop} : (@getOK (x0 :: x1 :: x2 :: x3 :: x4 :: x5 :: x6 :: x7 :: x8 :: x9 :: x10 :: x11 :: x12 :: x13 :: x14 :: x15 :: x16 :: x17 :: x18 :: x19 :: x20 :: x21 :: x22 :: x23 :: x24 :: x25 :: x26 :: x27 :: x28 :: x29 :: x30 :: x31 :: some (.o d) :: r) 32 ⟨k⟩) = (k d) := id rfl
theorem ld_p32 {Ph : Nat → List D → Rs} {own ld : List Nat} {e : CE} {x0 x1 x2 x3 x4 x5 x6 x7 x8 x9 x10 x11 x12 x13 x14 x15 x16 x17 x18 x19 x20 x21 x22 x23 x24 x25 x26 x27 x28 x29 x30 x31 : Option Sl} {d : D} {r : Ev} {Q : QK} {E : XK} : (@wpM Ph own (32 :: ld) e (x0 :: x1 :: x2 :: x3 :: x4 :: x5 :: x6 :: x7 :: x8 :: x9 :: x10 :: x11 :: x12 :: x13 :: x14 :: x15 :: x16 :: x17 :: x18 :: x19 :: x20 :: x21 :: x22 :: x23 :: x24 :: x25 :: x26 :: x27 :: x28 :: x29 :: x30 :: x31 :: some (.p d) :: r) Q E) = (@wpM Ph own ld e (x0 :: x1 :: x2 :: x3 :: x4 :: x5 :: x6 :: x7 :: x8 :: x9 :: x10 :: x11 :: x12 :: x13 :: x14 :: x15 :: x16 :: x17 :: x18 :: x19 :: x20 :: x21 :: x22 :: x23 :: x24 :: x25 :: x26 :: x27 :: x28 :: x29 :: x30 :: x31 :: some (.p d) :: r) Q E) := wpM_skip rfl
theorem lf_p32 {ld : List Nat} {x0 x1 x2 x3 x4 x5 x6 x7 x8 x9 x10 x11 x12 x13 x14 x15 x16 x17 x18 x19 x20 x21 x22 x23 x24 x25 x26 x27 x28 x29 x30 x31 : Option Sl} {d : D} {r : Ev} {K : RK} : (@lendK (32 :: ld) (x0 :: x1 :: x2 :: x3 :: x4 :: x5 :: x6 :: x7 :: x8 :: x9 :: x10 :: x11 :: x12 :: x13 :: x14 :: x15 :: x16 :: x17 :: x18 :: x19 :: x20 :: x21 :: x22 :: x23 :: x24 :: x25 :: x26 :: x27 :: x28 :: x29 :: x30 :: x31 :: some (.p d) :: r) K) = (@lendK ld (x0 :: x1 :: x2 :: x3 :: x4 :: x5 :: x6 :: x7 :: x8 :: x9 :: x10 :: x11 :: x12 :: x13 :: x14 :: x15 :: x16 :: x17 :: x18 :: x19 :: x20 :: x21 :: x22 :: x23 :: x24 :: x25 :: x26 :: x27 :: x28 :: x29 :: x30 :: x31 :: some (.p d) :: r) K) := id rfl
theorem ld_n32 {Ph : Nat → List D → Rs} {own ld : List Nat} {e : CE} {x0 x1 x2 x3 x4 x5 x6 x7 x8 x9 x10 x11 x12 x13 x14 x15 x16 x17 x18 x19 x20 x21 x22 x23 x24 x25 x26 x27 x28 x29 x30 x31 : Option Sl} {r : Ev} {Q : QK} {E : XK} : (@wpM Ph own (32 :: ld) e (x0 :: x1 :: x2 :: x3 :: x4 :: x5 :: x6 :: x7 :: x8 :: x9 :: x10 :: x11 :: x12 :: x13 :: x14 :: x15 :: x16 :: x17 :: x18 :: x19 :: x20 :: x21 :: x22 :: x23 :: x24 :: x25 :: x26 :: x27 :: x28 :: x29 :: x30 :: x31 :: none :: r) Q E) = (@wpM Ph own ld e (x0 :: x1 :: x2 :: x3 :: x4 :: x5 :: x6 :: x7 :: x8 :: x9 :: x10 :: x11 :: x12 :: x13 :: x14 :: x15 :: x16 :: x17 :: x18 :: x19 :: x20 :: x21 :: x22 :: x23 :: x24 :: x25 :: x26 :: x27 :: x28 :: x29 :: x30 :: x31 :: none :: r) Q E) := wpM_skip rfl
theorem lf_n32 {ld : List Nat} {x0 x1 x2 x3 x4 x5 x6 x7 x8 x9 x10 x11 x12 x13 x14 x15 x16 x17 x18 x19 x20 x21 x22 x23 x24 x25 x26 x27 x28 x29 x30 x31 : Option Sl} {r : Ev} {K : RK} : (@lendK (32 :: ld) (x0 :: x1 :: x2 :: x3 :: x4 :: x5 :: x6 :: x7 :: x8 :: x9 :: x10 :: x11 :: x12 :: x13 :: x14 :: x15 :: x16 :: x17 :: x18 :: x19 :: x20 :: x21 :: x22 :: x23 :: x24 :: x25 :: x26 :: x27 :: x28 :: x29 :: x30 :: x31 :: none :: r) K) = (@lendK ld (x0 :: x1 :: x2 :: x3 :: x4 :: x5 :: x6 :: x7 :: x8 :: x9 :: x10 :: x11 :: x12 :: x13 :: x14 :: x15 :: x16 :: x17 :: x18 :: x19 :: x20 :: x21 :: x22 :: x23 :: x24 :: x25 :: x26 :: x27 :: x28 :: x29 :: x30 :: x31 :: none :: r) K) := id rfl
theorem ld_f32 {Ph : Nat → List D → Rs} {own ld : List Nat} {e : CE} {x0 x1 x2 x3 x4 x5 x6 x7 x8 x9 x10 x11 x12 x13 x14 x15 x16 x17 x18 x19 x20 x21 x22 x23 x24 x25 x26 x27 x28 x29 x30 x31 : Option Sl} {d : Nat} {r : Ev} {Q : QK} {E : XK} : (@wpM Ph own (32 :: ld) e (x0 :: x1 :: x2 :: x3 :: x4 :: x5 :: x6 :: x7 :: x8 :: x9 :: x10 :: x11 :: x12 :: x13 :: x14 :: x15 :: x16 :: x17 :: x18 :: x19 :: x20 :: x21 :: x22 :: x23 :: x24 :: x25 :: x26 :: x27 :: x28 :: x29 :: x30 :: x31 :: some (.f d) :: r) Q E) = (@wpM Ph own ld e (x0 :: x1 :: x2 :: x3 :: x4 :: x5 :: x6 :: x7 :: x8 :: x9 :: x10 :: x11 :: x12 :: x13 :: x14 :: x15 :: x16 :: x17 :: x18 :: x19 :: x20 :: x21 :: x22 :: x23 :: x24 :: x25 :: x26 :: x27 :: x28 :: x29 :: x30 :: x31 :: some (.f d) :: r) Q E) := wpM_skip rfl
theorem lf_f32 {ld : List Nat} {x0 x1 x2 x3 x4 x5 x6 x7 x8 x9 x10 x11 x12 x13 x14 x15 x16 x17 x18 x19 x20 x21 x22 x23 x24 x25 x26 x27 x28 x29 x30 x31 : Option Sl} {d : Nat} {r : Ev} {K : RK} : (@lendK (32 :: ld) (x0 :: x1 :: x2 :: x3 :: x4 :: x5 :: x6 :: x7 :: x8 :: x9 :: x10 :: x11 :: x12 :: x13 :: x14 :: x15 :: x16 :: x17 :: x18 :: x19 :: x20 :: x21 :: x22 :: x23 :: x24 :: x25 :: x26 :: x27 :: x28 :: x29 :: x30 :: x31 :: some (.f d) :: r) K) = (@lendK ld (x0 :: x1 :: x2 :: x3 :: x4 :: x5 :: x6 :: x7 :: x8 :: x9 :: x10 :: x11 :: x12 :: x13 :: x14 :: x15 :: x16 :: x17 :: x18 :: x19 :: x20 :: x21 :: x22 :: x23 :: x24 :: x25 :: x26 :: x27 :: x28 :: x29 :: x30 :: x31 :: some (.f d) :: r) K) := id rfl
theorem ld_o32 {Ph : Nat → List D → Rs} {own ld : List Nat} {e : CE} {x0 x1 x2 x3 x4 x5 x6 x7 x8 x9 x10 x11 x12 x13 x14 x15 x16 x17 x18 x19 x20 x21 x22 x23 x24 x25 x26 x27 x28 x29 x30 x31 : Option Sl} {d : D} {r : Ev} {Q : QK} {E : XK} : (@wpM Ph own (32 :: ld) e (x0 :: x1 :: x2 :: x3 :: x4 :: x5 :: x6 :: x7 :: x8 :: x9 :: x10 :: x11 :: x12 :: x13 :: x14 :: x15 :: x16 :: x17 :: x18 :: x19 :: x20 :: x21 :: x22 :: x23 :: x24 :: x25 :: x26 :: x27 :: x28 :: x29 :: x30 :: x31 :: some (.o d) :: r) Q E) = (@wpM Ph (own ++ [32]) ld e (x0 :: x1 :: x2 :: x3 :: x4 :: x5 :: x6 :: x7 :: x8 :: x9 :: x10 :: x11 :: x12 :: x13 :: x14 :: x15 :: x16 :: x17 :: x18 :: x19 :: x20 :: x21 :: x22 :: x23 :: x24 :: x25 :: x26 :: x27 :: x28 :: x29 :: x30 :: x31 :: some (.o d) :: r) Q E) := wpM_own
theorem lf_o32 {ld : List Nat} {x0 x1 x2 x3 x4 x5 x6 x7 x8 x9 x10 x11 x12 x13 x14 x15 x16 x17 x18 x19 x20 x21 x22 x23 x24 x25 x26 x27 x28 x29 x30 x31 : Option Sl} {d : D} {r : Ev} {K : RK} : (@lendK (32 :: ld) (x0 :: x1 :: x2 :: x3 :: x4 :: x5 :: x6 :: x7 :: x8 :: x9 :: x10 :: x11 :: x12 :: x13 :: x14 :: x15 :: x16 :: x17 :: x18 :: x19 :: x20 :: x21 :: x22 :: x23 :: x24 :: x25 :: x26 :: x27 :: x28 :: x29 :: x30 :: x31 :: some (.o d) :: r) K) = (@lendK ld (x0 :: x1 :: x2 :: x3 :: x4 :: x5 :: x6 :: x7 :: x8 :: x9 :: x10 :: x11 :: x12 :: x13 :: x14 :: x15 :: x16 :: x17 :: x18 :: x19 :: x20 :: x21 :: x22 :: x23 :: x24 :: x25 :: x26 :: x27 :: x28 :: x29 :: x30 :: x31 :: some (.p d) :: r) K) := id rfl
theorem un_32 {ld : List Nat} {x0 x1 x2 x3 x4 x5 x6 x7 x8 x9 x10 x11 x12 x13 x14 x15 x16 x17 x18 x19 x20 x21 x22 x23 x24 x25 x26 x27 x28 x29 x30 x31 : Option Sl} {d : D} {r r1 : Ev} {K : RK} : (@unlK (x0 :: x1 :: x2 :: x3 :: x4 :: x5 :: x6 :: x7 :: x8 :: x9 :: x10 :: x11 :: x12 :: x13 :: x14 :: x15 :: x16 :: x17 :: x18 :: x19 :: x20 :: x21 :: x22 :: x23 :: x24 :: x25 :: x26 :: x27 :: x28 :: x29 :: x30 :: x31 :: some (.o d) :: r) r1 (32 :: ld) K) = (@setK r1 32 (some (.o d)) ⟨fun r2 => @unlK (x0 :: x1 :: x2 :: x3 :: x4 :: x5 :: x6 :: x7 :: x8 :: x9 :: x10 :: x11 :: x12 :: x13 :: x14 :: x15 :: x16 :: x17 :: x18 :: x19 :: x20 :: x21 :: x22 :: x23 :: x24 :: x25 :: x26 :: x27 :: x28 :: x29 :: x30 :: x31 :: some (.o d) :: r) r2 ld K⟩) := id rfl
theorem fn_32 {x0 x1 x2 x3 x4 x5 x6 x7 x8 x9 x10 x11 x12 x13 x14 x15 x16 x17 x18 x19 x20 x21 x22 x23 x24 x25 x26 x27 x28 x29 x30 x31 : Option Sl} {f : Nat} {r : Ev} {k : Nat → Prop} : (@getFK (x0 :: x1 :: x2 :: x3 :: x4 :: x5 :: x6 :: x7 :: x8 :: x9 :: x10 :: x11 :: x12 :: x13 :: x14 :: x15 :: x16 :: x17 :: x18 :: x19 :: x20 :: x21 :: x22 :: x23 :: x24 :: x25 :: x26 :: x27 :: x28 :: x29 :: x30 :: x31 :: some (.f f) :: r) 32 ⟨k⟩) = (k f) := id rfl
theorem var_33 {Ph : Nat → List D → Rs} {x0 x1 x2 x3 x4 x5 x6 x7 x8 x9 x10 x11 x12 x13 x14 x15 x16 x17 x18 x19 x20 x21 x22 x23 x24 x25 x26 x27 x28 x29 x30 x31 x32 : Option Sl} {d : D} {r : Ev} {q : D → Bool → Ev → Prop} {E : XK} : (@wp (ev Ph (.var 33) (x0 :: x1 :: x2 :: x3 :: x4 :: x5 :: x6 :: x7 :: x8 :: x9 :: x10 :: x11 :: x12 :: x13 :: x14 :: x15 :: x16 :: x17 :: x18 :: x19 :: x20 :: x21 :: x22 :: x23 :: x24 :: x25 :: x26 :: x27 :: x28 :: x29 :: x30 :: x31 :: x32 :: some (.p d) :: r)) ⟨q⟩ E) = (q d false (x0 :: x1 :: x2 :: x3 :: x4 :: x5 :: x6 :: x7 :: x8 :: x9 :: x10 :: x11 :: x12 :: x13 :: x14 :: x15 :: x16 :: x17 :: x18 :: x19 :: x20 :: x21 :: x22 :: x23 :: x24 :: x25 :: x26 :: x27 :: x28 :: x29 :: x30 :: x31 :: x32 :: some (.p d) :: r)) := id rfl
theorem set_33 {x0 x1 x2 x3 x4 x5 x6 x7 x8 x9 x10 x11 x12 x13 x14 x15 x16 x17 x18 x19 x20 x21 x22 x23 x24 x25 x26 x27 x28 x29 x30 x31 x32 : Option Sl} {y s : Option Sl} {r : Ev} {k : Ev → Prop} : (@setK (x0 :: x1 :: x2 :: x3 :: x4 :: x5 :: x6 :: x7 :: x8 :: x9 :: x10 :: x11 :: x12 :: x13 :: x14 :: x15 :: x16 :: x17 :: x18 :: x19 :: x20 :: x21 :: x22 :: x23 :: x24 :: x25 :: x26 :: x27 :: x28 :: x29 :: x30 :: x31 :: x32 :: y :: r) 33 s ⟨k⟩) = (k (x0 :: x1 :: x2 :: x3 :: x4 :: x5 :: x6 :: x7 :: x8 :: x9 :: x10 :: x11 :: x12 :: x13 :: x14 :: x15 :: x16 :: x17 :: x18 :: x19 :: x20 :: x21 :: x22 :: x23 :: x24 :: x25 :: x26 :: x27 :: x28 :: x29 :: x30 :: x31 :: x32 :: s :: r)) := id rfl
theorem nm_33 {x0 x1 x2 x3 x4 x5 x6 x7 x8 x9 x10 x11 x12 x13 x14 x15 x16 x17 x18 x19 x20 x21 x22 x23 x24 x25 x26 x27 x28 x29 x30 x31 x32 : Option Sl} {y : Option Sl} {d : D} {r : Ev} {K : RK} : (@bindK (.nm 33) d (x0 :: x1 :: x2 :: x3 :: x4 :: x5 :: x6 :: x7 :: x8 :: x9 :: x10 :: x11 :: x12 :: x13 :: x14 :: x15 :: x16 :: x17 :: x18 :: x19 :: x20 :: x21 :: x22 :: x23 :: x24 :: x25 :: x26 :: x27 :: x28 :: x29 :: x30 :: x31 :: x32 :: y :: r) K) = (@setK (x0 :: x1 :: x2 :: x3 :: x4 :: x5 :: x6 :: x7 :: x8 :: x9 :: x10 :: x11 :: x12 :: x13 :: x14 :: x15 :: x16 :: x17 :: x18 :: x19 :: x20 :: x21 :: x22 :: x23 :: x24 :: x25 :: x26 :: x27 :: x28 :: x29 :: x30 :: x31 :: x32 :: y :: r) 33 (some (.p d)) K) := nmlem (by simp only [List.length_cons]; omega)
theorem get_33 {x0 x1 x2 x3 x4 x5 x6 x7 x8 x9 x10 x11 x12 x13 x14 x15 x16 x17 x18 x19 x20 x21 x22 x23 x24 x25 x26 x27 x28 x29 x30 x31 x32 : Option Sl} {d : D} {r : Ev} {k : D → Prop} : (@getOK (x0 :: x1 :: x2 :: x3 :: x4 :: x5 :: x6 :: x7 :: x8 :: x9 :: x10 :: x11 :: x12 :: x13 :: x14 :: x15 :: x16 :: x17 :: x18 :: x19 :: x20 :: x21 :: x22 :: x23 :: x24 :: x25 :: x26 :: x27 :: x28 :: x29 :: x30 :: x31 :: x32 :: some (.o d) :: r) 33 ⟨k⟩) = (k d) := id rfl
theorem ld_p33 {Ph : Nat → List D → Rs} {own ld : List Nat} {e : CE} {x0 x1 x2 x3 x4 x5 x6 x7 x8 x9 x10 x11 x12 x13 x14 x15 x16 x17 x18 x19 x20 x21 x22 x23 x24 x25 x26 x27 x28 x29 x30 x31 x32 : Option Sl} {d : D} {r : Ev} {Q : QK} {E : XK} : (@wpM Ph own (33 :: ld) e (x0 :: x1 :: x2 :: x3 :: x4 :: x5 :: x6 :: x7 :: x8 :: x9 :: x10 :: x11 :: x12 :: x13 :: x14 :: x15 :: x16 :: x17 :: x18 :: x19 :: x20 :: x21 :: x22 :: x23 :: x24 :: x25 :: x26 :: x27 :: x28 :: x29 :: x30 :: x31 :: x32 :: some (.p d) :: r) Q E) = (@wpM Ph own ld e (x0 :: x1 :: x2 :: x3 :: x4 :: x5 :: x6 :: x7 :: x8 :: x9 :: x10 :: x11 :: x12 :: x13 :: x14 :: x15 :: x16 :: x17 :: x18 :: x19 :: x20 :: x21 :: x22 :: x23 :: x24 :: x25 :: x26 :: x27 :: x28 :: x29 :: x30 :: x31 :: x32 :: some (.p d) :: r) Q E) := wpM_skip rfl
theorem lf_p33 {ld : List Nat} {x0 x1 x2 x3 x4 x5 x6 x7 x8 x9 x10 x11 x12 x13 x14 x15 x16 x17 x18 x19 x20 x21 x22 x23 x24 x25 x26 x27 x28 x29 x30 x31 x32 : Option Sl} {d : D} {r : Ev} {K : RK} : (@lendK (33 :: ld) (x0 :: x1 :: x2 :: x3 :: x4 :: x5 :: x6 :: x7 :: x8 :: x9 :: x10 :: x11 :: x12 :: x13 :: x14 :: x15 :: x16 :: x17 :: x18 :: x19 :: x20 :: x21 :: x22 :: x23 :: x24 :: x25 :: x26 :: x27 :: x28 :: x29 :: x30 :: x31 :: x32 :: some (.p d) :: r) K) = (@lendK ld (x0 :: x1 :: x2 :: x3 :: x4 :: x5 :: x6 :: x7 :: x8 :: x9 :: x10 :: x11 :: x12 :: x13 :: x14 :: x15 :: x16 :: x17 :: x18 :: x19 :: x20 :: x21 :: x22 :: x23 :: x24 :: x25 :: x26 :: x27 :: x28 :: x29 :: x30 :: x31 :: x32 :: some (.p d) :: r) K) := id rfl
theorem ld_n33 {Ph : Nat → List D → Rs} {own ld : List Nat} {e : CE} {x0 x1 x2 x3 x4 x5 x6 x7 x8 x9 x10 x11 x12 x13 x14 x15 x16 x17 x18 x19 x20 x21 x22 x23 x24 x25 x26 x27 x28 x29 x30 x31 x32 : Option Sl} {r : Ev} {Q : QK} {E : XK} : (@wpM Ph own (33 :: ld) e (x0 :: x1 :: x2 :: x3 :: x4 :: x5 :: x6 :: x7 :: x8 :: x9 :: x10 :: x11 :: x12 :: x13 :: x14 :: x15 :: x16 :: x17 :: x18 :: x19 :: x20 :: x21 :: x22 :: x23 :: x24 :: x25 :: x26 :: x27 :: x28 :: x29 :: x30 :: x31 :: x32 :: none :: r) Q E) = (@wpM Ph own ld e (x0 :: x1 :: x2 :: x3 :: x4 :: x5 :: x6 :: x7 :: x8 :: x9 :: x10 :: x11 :: x12 :: x13 :: x14 :: x15 :: x16 :: x17 :: x18 :: x19 :: x20 :: x21 :: x22 :: x23 :: x24 :: x25 :: x26 :: x27 :: x28 :: x29 :: x30 :: x31 :: x32 :: none :: r) Q E) := wpM_skip rfl
theorem lf_n33 {ld : List Nat} {x0 x1 x2 x3 x4 x5 x6 x7 x8 x9 x10 x11 x12 x13 x14 x15 x16 x17 x18 x19 x20 x21 x22 x23 x24 x25 x26 x27 x28 x29 x30 x31 x32 : Option Sl} {r : Ev} {K : RK} : (@lendK (33 :: ld) (x0 :: x1 :: x2 :: x3 :: x4 :: x5 :: x6 :: x7 :: x8 :: x9 :: x10 :: x11 :: x12 :: x13 :: x14 :: x15 :: x16 :: x17 :: x18 :: x19 :: x20 :: x21 :: x22 :: x23 :: x24 :: x25 :: x26 :: x27 :: x28 :: x29 :: x30 :: x31 :: x32 :: none :: r) K) = (@lendK ld (x0 :: x1 :: x2 :: x3 :: x4 :: x5 :: x6 :: x7 :: x8 :: x9 :: x10 :: x11 :: x12 :: x13 :: x14 :: x15 :: x16 :: x17 :: x18 :: x19 :: x20 :: x21 :: x22 :: x23 :: x24 :: x25 :: x26 :: x27 :: x28 :: x29 :: x30 :: x31 :: x32 :: none :: r) K) := id rfl
theorem ld_f33 {Ph : Nat → List D → Rs} {own ld : List Nat} {e : CE} {x0 x1 x2 x3 x4 x5 x6 x7 x8 x9 x10 x11 x12 x13 x14 x15 x16 x17 x18 x19 x20 x21 x22 x23 x24 x25 x26 x27 x28 x29 x30 x31 x32 : Option Sl} {d : Nat} {r : Ev} {Q : QK} {E : XK} : (@wpM Ph own (33 :: ld) e (x0 :: x1 :: x2 :: x3 :: x4 :: x5 :: x6 :: x7 :: x8 :: x9 :: x10 :: x11 :: x12 :: x13 :: x14 :: x15 :: x16 :: x17 :: x18 :: x19 :: x20 :: x21 :: x22 :: x23 :: x24 :: x25 :: x26 :: x27 :: x28 :: x29 :: x30 :: x31 :: x32 :: some (.f d) :: r) Q E) = (@wpM Ph own ld e (x0 :: x1 :: x2 :: x3 :: x4 :: x5 :: x6 :: x7 :: x8 :: x9 :: x10 :: x11 :: x12 :: x13 :: x14 :: x15 :: x16 :: x17 :: x18 :: x19 :: x20 :: x21 :: x22 :: x23 :: x24 :: x25 :: x26 :: x27 :: x28 :: x29 :: x30 :: x31 :: x32 :: some (.f d) :: r) Q E) := wpM_skip rfl
theorem lf_f33 {ld : List Nat} {x0 x1 x2 x3 x4 x5 x6 x7 x8 x9 x10 x11 x12 x13 x14 x15 x16 x17 x18 x19 x20 x21 x22 x23 x24 x25 x26 x27 x28 x29 x30 x31 x32 : Option Sl} {d : Nat} {r : Ev} {K : RK} : (@lendK (33 :: ld) (x0 :: x1 :: x2 :: x3 :: x4 :: x5 :: x6 :: x7 :: x8 :: x9 :: x10 :: x11 :: x12 :: x13 :: x14 :: x15 :: x16 :: x17 :: x18 :: x19 :: x20 :: x21 :: x22 :: x23 :: x24 :: x25 :: x26 :: x27 :: x28 :: x29 :: x30 :: x31 :: x32 :: some (.f d) :: r) K) = (@lendK ld (x0 :: x1 :: x2 :: x3 :: x4 :: x5 :: x6 :: x7 :: x8 :: x9 :: x10 :: x11 :: x12 :: x13 :: x14 :: x15 :: x16 :: x17 :: x18 :: x19 :: x20 :: x21 :: x22 :: x23 :: x24 :: x25 :: x26 :: x27 :: x28 :: x29 :: x30 :: x31 :: x32 :: some (.f d) :: r) K) := id rfl
theorem ld_o33 {Ph : Nat → List D → Rs} {own ld : List Nat} {e : CE} {x0 x1 x2 x3 x4 x5 x6 x7 x8 x9 x10 x11 x12 x13 x14 x15 x16 x17 x18 x19 x20 x21 x22 x23 x24 x25 x26 x27 x28 x29 x30 x31 x32 : Option Sl} {d : D} {r : Ev} {Q : QK} {E : XK} : (@wpM Ph own (33 :: ld) e (x0 :: x1 :: x2 :: x3 :: x4 :: x5 :: x6 :: x7 :: x8 :: x9 :: x10 :: x11 :: x12 :: x13 :: x14 :: x15 :: x16 :: x17 :: x18 :: x19 :: x20 :: x21 :: x22 :: x23 :: x24 :: x25 :: x26 :: x27 :: x28 :: x29 :: x30 :: x31 :: x32 :: some (.o d) :: r) Q E) = (@wpM Ph (own ++ [33]) ld e (x0 :: x1 :: x2 :: x3 :: x4 :: x5 :: x6 :: x7 :: x8 :: x9 :: x10 :: x11 :: x12 :: x13 :: x14 :: x15 :: x16 :: x17 :: x18 :: x19 :: x20 :: x21 :: x22 :: x23 :: x24 :: x25 :: x26 :: x27 :: x28 :: x29 :: x30 :: x31 :: x32 :: some (.o d) :: r) Q E) := wpM_own
theorem lf_o33 {ld : List Nat} {x0 x1 x2 x3 x4 x5 x6 x7 x8 x9 x10 x11 x12 x13 x14 x15 x16 x17 x18 x19 x20 x21 x22 x23 x24 x25 x26 x27 x28 x29 x30 x31 x32 : Option Sl} {d : D} {r : Ev} {K : RK} : (@lendK (33 :: ld) (x0 :: x1 :: x2 :: x3 :: x4 :: x5 :: x6 :: x7 :: x8 :: x9 :: x10 :: x11 :: x12 :: x13 :: x14 :: x15 :: x16 :: x17 :: x18 :: x19 :: x20 :: x21 :: x22 :: x23 :: x24 :: x25 :: x26 :: x27 :: x28 :: x29 :: x30 :: x31 :: x32 :: some (.o d) :: r) K) = (@lendK ld (x0 :: x1 :: x2 :: x3 :: x4 :: x5 :: x6 :: x7 :: x8 :: x9 :: x10 :: x11 :: x12 :: x13 :: x14 :: x15 :: x16 :: x17 :: x18 :: x19 :: x20 :: x21 :: x22 :: x23 :: x24 :: x25 :: x26 :: x27 :: x28 :: x29 :: x30 :: x31 :: x32 :: some (.p d) :: r) K) := id rfl
theorem un_33 {ld : List Nat} {x0 x1 x2 x3 x4 x5 x6 x7 x8 x9 x10 x11 x12 x13 x14 x15 x16 x17 x18 x19 x20 x21 x22 x23 x24 x25 x26 x27 x28 x29 x30 x31 x32 : Option Sl} {d : D} {r r1 : Ev} {K : RK} : (@unlK (x0 :: x1 :: x2 :: x3 :: x4 :: x5 :: x6 :: x7 :: x8 :: x9 :: x10 :: x11 :: x12 :: x13 :: x14 :: x15 :: x16 :: x17 :: x18 :: x19 :: x20 :: x21 :: x22 :: x23 :: x24 :: x25 :: x26 :: x27 :: x28 :: x29 :: x30 :: x31 :: x32 :: some (.o d) :: r) r1 (33 :: ld) K) = (@setK r1 33 (some (.o d)) ⟨fun r2 => @unlK (x0 :: x1 :: x2 :: x3 :: x4 :: x5 :: x6 :: x7 :: x8 :: x9 :: x10 :: x11 :: x12 :: x13 :: x14 :: x15 :: x16 :: x17 :: x18 :: x19 :: x20 :: x21 :: x22 :: x23 :: x24 :: x25 :: x26 :: x27 :: x28 :: x29 :: x30 :: x31 :: x32 :: some (.o d) :: r) r2 ld K⟩) := id rfl
theorem fn_33 {x0 x1 x2 x3 x4 x5 x6 x7 x8 x9 x10 x11 x12 x13 x14 x15 x16 x17 x18 x19 x20 x21 x22 x23 x24 x25 x26 x27 x28 x29 x30 x31 x32 : Option Sl} {f : Nat} {r : Ev} {k : Nat → Prop} : (@getFK (x0 :: x1 :: x2 :: x3 :: x4 :: x5 :: x6 :: x7 :: x8 :: x9 :: x10 :: x11 :: x12 :: x13 :: x14 :: x15 :: x16 :: x17 :: x18 :: x19 :: x20 :: x21 :: x22 :: x23 :: x24 :: x25 :: x26 :: x27 :: x28 :: x29 :: x30 :: x31 :: x32 :: some (.f f) :: r) 33 ⟨k⟩) = (k f) := id rfl
theorem ix_l0 {x0 : D} {l : List D} {r : Ev} {q : D → Bool → Ev → Prop} : (@wpD (dIdx (.list (x0 :: l)) (.int 0)) r ⟨q⟩) = (q x0 false r) := ixl (i := 0) rfl (by simp only [List.length_cons]; omega)
theorem ix_t0 {x0 : D} {l : List D} {r : Ev} {q : D → Bool → Ev → Prop} : (@wpD (dIdx (.tuple (x0 :: l)) (.int 0)) r ⟨q⟩) = (q x0 false r) := ixt (i := 0) rfl (by simp only [List.length_cons]; omega)
theorem st_0 {x0 d : D} {l : List D} {i : Nat} {r : Ev} {N : RK} : (@wpSto (.list (x0 :: l)) (.int 0) d i r N) = (@setK r i (some (.o (.list (d :: l)))) N) := stlem (j := 0) (by simp only [List.length_cons]; omega)
theorem ix_l1 {x0 x1 : D} {l : List D} {r : Ev} {q : D → Bool → Ev → Prop} : (@wpD (dIdx (.list (x0 :: x1 :: l)) (.int 1)) r ⟨q⟩) = (q x1 false r) := ixl (i := 1) rfl (by simp only [List.length_cons]; omega)
theorem ix_t1 {x0 x1 : D} {l : List D} {r : Ev} {q : D → Bool → Ev → Prop} : (@wpD (dIdx (.tuple (x0 :: x1 :: l)) (.int 1)) r ⟨q⟩) = (q x1 false r) := ixt (i := 1) rfl (by simp only [List.length_cons]; omega)
theorem st_1 {x0 x1 d : D} {l : List D} {i : Nat} {r : Ev} {N : RK} : (@wpSto (.list (x0 :: x1 :: l)) (.int 1) d i r N) = (@setK r i (some (.o (.list (x0 :: d :: l)))) N) := stlem (j := 1) (by simp only [List.length_cons]; omega)
theorem ix_l2 {x0 x1 x2 : D} {l : List D} {r : Ev} {q : D → Bool → Ev → Prop} : (@wpD (dIdx (.list (x0 :: x1 :: x2 :: l)) (.int 2)) r ⟨q⟩) = (q x2 false r) := ixl (i := 2) rfl (by simp only [List.length_cons]; omega)
theorem ix_t2 {x0 x1 x2 : D} {l : List D} {r : Ev} {q : D → Bool → Ev → Prop} : (@wpD (dIdx (.tuple (x0 :: x1 :: x2 :: l)) (.int 2)) r ⟨q⟩) = (q x2 false r) := ixt (i := 2) rfl (by simp only [List.length_cons]; omega)
theorem st_2 {x0 x1 x2 d : D} {l : List D} {i : Nat} {r : Ev} {N : RK} : (@wpSto (.list (x0 :: x1 :: x2 :: l)) (.int 2) d i r N) = (@setK r i (some (.o (.list (x0 :: x1 :: d :: l)))) N) := stlem (j := 2) (by simp only [List.length_cons]; omega)
theorem ix_l3 {x0 x1 x2 x3 : D} {l : List D} {r : Ev} {q : D → Bool → Ev → Prop} : (@wpD (dIdx (.list (x0 :: x1 :: x2 :: x3 :: l)) (.int 3)) r ⟨q⟩) = (q x3 false r) := ixl (i := 3) rfl (by simp only [List.length_cons]; omega)
theorem ix_t3 {x0 x1 x2 x3 : D} {l : List D} {r : Ev} {q : D → Bool → Ev → Prop} : (@wpD (dIdx (.tuple (x0 :: x1 :: x2 :: x3 :: l)) (.int 3)) r ⟨q⟩) = (q x3 false r) := ixt (i := 3) rfl (by simp only [List.length_cons]; omega)
theorem st_3 {x0 x1 x2 x3 d : D} {l : List D} {i : Nat} {r : Ev} {N : RK} : (@wpSto (.list (x0 :: x1 :: x2 :: x3 :: l)) (.int 3) d i r N) = (@setK r i (some (.o (.list (x0 :: x1 :: x2 :: d :: l)))) N) := stlem (j := 3) (by simp only [List.length_cons]; omega)
theorem ix_l4 {x0 x1 x2 x3 x4 : D} {l : List D} {r : Ev} {q : D → Bool → Ev → Prop} : (@wpD (dIdx (.list (x0 :: x1 :: x2 :: x3 :: x4 :: l)) (.int 4)) r ⟨q⟩) = (q x4 false r) := ixl (i := 4) rfl (by simp only [List.length_cons]; omega)
theorem ix_t4 {x0 x1 x2 x3 x4 : D} {l : List D} {r : Ev} {q : D → Bool → Ev → Prop} : (@wpD (dIdx (.tuple (x0 :: x1 :: x2 :: x3 :: x4 :: l)) (.int 4)) r ⟨q⟩) = (q x4 false r) := ixt (i := 4) rfl (by simp only [List.length_cons]; omega)
theorem ix_l5 {x0 x1 x2 x3 x4 x5 : D} {l : List D} {r : Ev} {q : D → Bool → Ev → Prop} : (@wpD (dIdx (.list (x0 :: x1 :: x2 :: x3 :: x4 :: x5 :: l)) (.int 5)) r ⟨q⟩) = (q x5 false r) := ixl (i := 5) rfl (by simp only [List.length_cons]; omega)
theorem ix_t5 {x0 x1 x2 x3 x4 x5 : D} {l : List D} {r : Ev} {q : D → Bool → Ev → Prop} : (@wpD (dIdx (.tuple (x0 :: x1 :: x2 :: x3 :: x4 :: x5 :: l)) (.int 5)) r ⟨q⟩) = (q x5 false r) := ixt (i := 5) rfl (by simp only [List.length_cons]; omega)
theorem ix_l6 {x0 x1 x2 x3 x4 x5 x6 : D} {l : List D} {r : Ev} {q : D → Bool → Ev → Prop} : (@wpD (dIdx (.list (x0 :: x1 :: x2 :: x3 :: x4 :: x5 :: x6 :: l)) (.int 6)) r ⟨q⟩) = (q x6 false r) := ixl (i := 6) rfl (by simp only [List.length_cons]; omega)
theorem ix_t6 {x0 x1 x2 x3 x4 x5 x6 : D} {l : List D} {r : Ev} {q : D → Bool → Ev → Prop} : (@wpD (dIdx (.tuple (x0 :: x1 :: x2 :: x3 :: x4 :: x5 :: x6 :: l)) (.int 6)) r ⟨q⟩) = (q x6 false r) := ixt (i := 6) rfl (by simp only [List.length_cons]; omega)
theorem ix_l7 {x0 x1 x2 x3 x4 x5 x6 x7 : D} {l : List D} {r : Ev} {q : D → Bool → Ev → Prop} : (@wpD (dIdx (.list (x0 :: x1 :: x2 :: x3 :: x4 :: x5 :: x6 :: x7 :: l)) (.int 7)) r ⟨q⟩) = (q x7 false r) := ixl (i := 7) rfl (by simp only [List.length_cons]; omega)
theorem ix_t7 {x0 x1 x2 x3 x4 x5 x6 x7 : D} {l : List D} {r : Ev} {q : D → Bool → Ev → Prop} : (@wpD (dIdx (.tuple (x0 :: x1 :: x2 :: x3 :: x4 :: x5 :: x6 :: x7 :: l)) (.int 7)) r ⟨q⟩) = (q x7 false r) := ixt (i := 7) rfl (by simp only [List.length_cons]; omega)
theorem ix_l8 {x0 x1 x2 x3 x4 x5 x6 x7 x8 : D} {l : List D} {r : Ev} {q : D → Bool → Ev → Prop} : (@wpD (dIdx (.list (x0 :: x1 :: x2 :: x3 :: x4 :: x5 :: x6 :: x7 :: x8 :: l)) (.int 8)) r ⟨q⟩) = (q x8 false r) := ixl (i := 8) rfl (by simp only [List.length_cons]; omega)
theorem ix_t8 {x0 x1 x2 x3 x4 x5 x6 x7 x8 : D} {l : List D} {r : Ev} {q : D → Bool → Ev → Prop} : (@wpD (dIdx (.tuple (x0 :: x1 :: x2 :: x3 :: x4 :: x5 :: x6 :: x7 :: x8 :: l)) (.int 8)) r ⟨q⟩) = (q x8 false r) := ixt (i := 8) rfl (by simp only [List.length_cons]; omega)
theorem ix_l9 {x0 x1 x2 x3 x4 x5 x6 x7 x8 x9 : D} {l : List D} {r : Ev} {q : D → Bool → Ev → Prop} : (@wpD (dIdx (.list (x0 :: x1 :: x2 :: x3 :: x4 :: x5 :: x6 :: x7 :: x8 :: x9 :: l)) (.int 9)) r ⟨q⟩) = (q x9 false r) := ixl (i := 9) rfl (by simp only [List.length_cons]; omega)
theorem ix_t9 {x0 x1 x2 x3 x4 x5 x6 x7 x8 x9 : D} {l : List D} {r : Ev} {q : D → Bool → Ev → Prop} : (@wpD (dIdx (.tuple (x0 :: x1 :: x2 :: x3 :: x4 :: x5 :: x6 :: x7 :: x8 :: x9 :: l)) (.int 9)) r ⟨q⟩) = (q x9 false r) := ixt (i := 9) rfl (by simp only [List.length_cons]; omega)
theorem gl_0 {P : PK} : (@gLen [] P) = (P.p) := propext ⟨fun h => h.2, fun h => ⟨by simp only [List.length_cons, List.length_nil]; decide, h⟩⟩
theorem gl_1 {x0 : D} {P : PK} : (@gLen [x0] P) = (P.p) := propext ⟨fun h => h.2, fun h => ⟨by simp only [List.length_cons, List.length_nil]; decide, h⟩⟩
theorem gl_2 {x0 x1 : D} {P : PK} : (@gLen [x0, x1] P) = (P.p) := propext ⟨fun h => h.2, fun h => ⟨by simp only [List.length_cons, List.length_nil]; decide, h⟩⟩
theorem gl_3 {x0 x1 x2 : D} {P : PK} : (@gLen [x0, x1, x2] P) = (P.p) := propext ⟨fun h => h.2, fun h => ⟨by simp only [List.length_cons, List.length_nil]; decide, h⟩⟩
theorem gl_4 {x0 x1 x2 x3 : D} {P : PK} : (@gLen [x0, x1, x2, x3] P) = (P.p) := propext ⟨fun h => h.2, fun h => ⟨by simp only [List.length_cons, List.length_nil]; decide, h⟩⟩
theorem gl_5 {x0 x1 x2 x3 x4 : D} {P : PK} : (@gLen [x0, x1, x2, x3, x4] P) = (P.p) := propext ⟨fun h => h.2, fun h => ⟨by simp only [List.length_cons, List.length_nil]; decide, h⟩⟩
theorem gl_6 {x0 x1 x2 x3 x4 x5 : D} {P : PK} : (@gLen [x0, x1, x2, x3, x4, x5] P) = (P.p) := propext ⟨fun h => h.2, fun h => ⟨by simp only [List.length_cons, List.length_nil]; decide, h⟩⟩
theorem gl_7 {x0 x1 x2 x3 x4 x5 x6 : D} {P : PK} : (@gLen [x0, x1, x2, x3, x4, x5, x6] P) = (P.p) := propext ⟨fun h => h.2, fun h => ⟨by simp only [List.length_cons, List.length_nil]; decide, h⟩⟩
theorem gl_8 {x0 x1 x2 x3 x4 x5 x6 x7 : D} {P : PK} : (@gLen [x0, x1, x2, x3, x4, x5, x6, x7] P) = (P.p) := propext ⟨fun h => h.2, fun h => ⟨by simp only [List.length_cons, List.length_nil]; decide, h⟩⟩
theorem gl_9 {x0 x1 x2 x3 x4 x5 x6 x7 x8 : D} {P : PK} : (@gLen [x0, x1, x2, x3, x4, x5, x6, x7, x8] P) = (P.p) := propext ⟨fun h => h.2, fun h => ⟨by simp only [List.length_cons, List.length_nil]; decide, h⟩⟩
theorem gl_10 {x0 x1 x2 x3 x4 x5 x6 x7 x8 x9 : D} {P : PK} : (@gLen [x0, x1, x2, x3, x4, x5, x6, x7, x8, x9] P) = (P.p) := propext ⟨fun h => h.2, fun h => ⟨by simp only [List.length_cons, List.length_nil]; decide, h⟩⟩
theorem gl_11 {x0 x1 x2 x3 x4 x5 x6 x7 x8 x9 x10 : D} {P : PK} : (@gLen [x0, x1, x2, x3, x4, x5, x6, x7, x8, x9, x10] P) = (P.p) := propext ⟨fun h => h.2, fun h => ⟨by simp only [List.length_cons, List.length_nil]; decide, h⟩⟩
theorem gl_12 {x0 x1 x2 x3 x4 x5 x6 x7 x8 x9 x10 x11 : D} {P : PK} : (@gLen [x0, x1, x2, x3, x4, x5, x6, x7, x8, x9, x10, x11] P) = (P.p) := propext ⟨fun h => h.2, fun h => ⟨by simp only [List.length_cons, List.length_nil]; decide, h⟩⟩
theorem gl_13 {x0 x1 x2 x3 x4 x5 x6 x7 x8 x9 x10 x11 x12 : D} {P : PK} : (@gLen [x0, x1, x2, x3, x4, x5, x6, x7, x8, x9, x10, x11, x12] P) = (P.p) := propext ⟨fun h => h.2, fun h => ⟨by simp only [List.length_cons, List.length_nil]; decide, h⟩⟩
theorem isi_bool_none  : (isiD .bool (.none )) = (false) := id rfl
theorem isi_bool_bool {b : Bool} : (isiD .bool (.bool b)) = (true) := id rfl
theorem isi_bool_int {b : Int} : (isiD .bool (.int b)) = (false) := id rfl
theorem isi_bool_str {b : Str} : (isiD .bool (.str b)) = (false) := id rfl
theorem isi_bool_list {b : List D} : (isiD .bool (.list b)) = (false) := id rfl
theorem isi_bool_tuple {b : List D} : (isiD .bool (.tuple b)) = (false) := id rfl
theorem isi_bool_dict {b : List (D × D)} : (isiD .bool (.dict b)) = (false) := id rfl
theorem isi_int_none  : (isiD .int (.none )) = (false) := id rfl
theorem isi_int_bool {b : Bool} : (isiD .int (.bool b)) = (true) := id rfl
theorem isi_int_int {b : Int} : (isiD .int (.int b)) = (true) := id rfl
theorem isi_int_str {b : Str} : (isiD .int (.str b)) = (false) := id rfl
theorem isi_int_list {b : List D} : (isiD .int (.list b)) = (false) := id rfl
theorem isi_int_tuple {b : List D} : (isiD .int (.tuple b)) = (false) := id rfl
theorem isi_int_dict {b : List (D × D)} : (isiD .int (.dict b)) = (false) := id rfl
theorem isi_str_none  : (isiD .str (.none )) = (false) := id rfl
theorem isi_str_bool {b : Bool} : (isiD .str (.bool b)) = (false) := id rfl
theorem isi_str_int {b : Int} : (isiD .str (.int b)) = (false) := id rfl
theorem isi_str_str {b : Str} : (isiD .str (.str b)) = (true) := id rfl
theorem isi_str_list {b : List D} : (isiD .str (.list b)) = (false) := id rfl
theorem isi_str_tuple {b : List D} : (isiD .str (.tuple b)) = (false) := id rfl
theorem isi_str_dict {b : List (D × D)} : (isiD .str (.dict b)) = (false) := id rfl
theorem isi_list_none  : (isiD .list (.none )) = (false) := id rfl
theorem isi_list_bool {b : Bool} : (isiD .list (.bool b)) = (false) := id rfl
theorem isi_list_int {b : Int} : (isiD .list (.int b)) = (false) := id rfl
theorem isi_list_str {b : Str} : (isiD .list (.str b)) = (false) := id rfl
theorem isi_list_list {b : List D} : (isiD .list (.list b)) = (true) := id rfl
theorem isi_list_tuple {b : List D} : (isiD .list (.tuple b)) = (false) := id rfl
theorem isi_list_dict {b : List (D × D)} : (isiD .list (.dict b)) = (false) := id rfl
theorem isi_tuple_none  : (isiD .tuple (.none )) = (false) := id rfl
theorem isi_tuple_bool {b : Bool} : (isiD .tuple (.bool b)) = (false) := id rfl
theorem isi_tuple_int {b : Int} : (isiD .tuple (.int b)) = (false) := id rfl
theorem isi_tuple_str {b : Str} : (isiD .tuple (.str b)) = (false) := id rfl
theorem isi_tuple_list {b : List D} : (isiD .tuple (.list b)) = (false) := id rfl
theorem isi_tuple_tuple {b : List D} : (isiD .tuple (.tuple b)) = (true) := id rfl
theorem isi_tuple_dict {b : List (D × D)} : (isiD .tuple (.dict b)) = (false) := id rfl
theorem isi_dict_none  : (isiD .dict (.none )) = (false) := id rfl
theorem isi_dict_bool {b : Bool} : (isiD .dict (.bool b)) = (false) := id rfl
theorem isi_dict_int {b : Int} : (isiD .dict (.int b)) = (false) := id rfl
theorem isi_dict_str {b : Str} : (isiD .dict (.str b)) = (false) := id rfl
theorem isi_dict_list {b : List D} : (isiD .dict (.list b)) = (false) := id rfl
theorem isi_dict_tuple {b : List D} : (isiD .dict (.tuple b)) = (false) := id rfl
theorem isi_dict_dict {b : List (D × D)} : (isiD .dict (.dict b)) = (true) := id rfl
section
variable {Q : QK} {E : XK} {N : RK} {J : JK} {P P2 : PK} {Ph : Nat → List D → Rs} {r : Ev} {q : D → Bool → Ev → Prop}
theorem k_cst {d : D} : @wp (ev Ph (.cst d) r) ⟨q⟩ E = q d false r := id rfl --s
theorem k_glo {x : Str} {d : D} : @wp (ev Ph (.glo x d) r) ⟨q⟩ E = q d false r := id rfl --s
theorem k_none : @wp (ev Ph .none r) ⟨q⟩ E = q .none false r := id rfl --s
theorem k_bin {o : BO} {a b : CE} : @wp (ev Ph (.bin o a b) r) Q E = @wp (ev Ph a r) ⟨fun x _ r1 => @wp (ev Ph b r1) ⟨fun y _ r2 => @wpO (dBin o x y) r2 Q⟩ E⟩ E := by --s
  exact wpb fun x f r1 => wpb fun y f2 r2 => wp_okO
theorem k_neg {a : CE} : @wp (ev Ph (.neg a) r) Q E = @wp (ev Ph a r) ⟨fun x _ r1 => @wpD (dNeg x) r1 Q⟩ E := by --s
  exact wpb fun x f r1 => wp_okD
theorem k_not {a : CE} : @wp (ev Ph (.not a) r) Q E = @wp (ev Ph a r) ⟨fun x _ r1 => @wpB ((truth x).map (!·)) r1 Q⟩ E := by --s
  exact wpb fun x f r1 => wp_okB
/-- x, of which it is known that it isn't true -/
def fz : D → D
  | .bool _ => .bool false
  | d => d
def tz : D → D
  | .bool _ => .bool true
  | d => d
theorem fz_of {x : D} (h : truth x = some false) : fz x = x := by
  cases x <;> first | rfl | skip
  rename_i b
  cases b
  · rfl
  · cases h
theorem tz_of {x : D} (h : truth x = some true) : tz x = x := by
  cases x <;> first | rfl | skip
  rename_i b
  cases b
  · cases h
  · rfl
theorem fz_b {b : Bool} : fz (.bool b) = .bool false := id rfl --sp
theorem tz_b {b : Bool} : tz (.bool b) = .bool true := id rfl --sp
theorem fz_l {b : List D} : fz (.list b) = .list b := id rfl --sp
theorem tz_l {b : List D} : tz (.list b) = .list b := id rfl --sp
theorem fz_t {b : List D} : fz (.tuple b) = .tuple b := id rfl --sp
theorem tz_t {b : List D} : tz (.tuple b) = .tuple b := id rfl --sp
theorem fz_i {b : Int} : fz (.int b) = .int b := id rfl --sp
theorem tz_i {b : Int} : tz (.int b) = .int b := id rfl --sp
theorem fz_n : fz .none = .none := id rfl --sp
theorem k_and {a b : CE} : @wp (ev Ph (.and a b) r) Q E = @wp (ev Ph a r) ⟨fun x _ r1 => @wpT x ⟨@wp (ev Ph b r1) Q E⟩ ⟨Q.k (fz x) false r1⟩⟩ E := by --s
  refine wpb fun x f r1 => ?_
  unfold wpT
  rcases h : truth x with _ | _ | _
  · rfl
  · show Q.k x false r1 = Q.k (fz x) false r1
    rw [fz_of h]
  · rfl
theorem k_or {a b : CE} : @wp (ev Ph (.or a b) r) Q E = @wp (ev Ph a r) ⟨fun x _ r1 => @wpT x ⟨Q.k (tz x) false r1⟩ ⟨@wp (ev Ph b r1) Q E⟩⟩ E := by --s
  refine wpb fun x f r1 => ?_
  unfold wpT
  rcases h : truth x with _ | _ | _
  · rfl
  · rfl
  · show Q.k x false r1 = Q.k (tz x) false r1
    rw [tz_of h]
theorem k_cmp {o : CO} {a b : CE} : @wp (ev Ph (.cmp o a b) r) Q E = @wp (ev Ph a r) ⟨fun x _ r1 => @wp (ev Ph b r1) ⟨fun y _ r2 => @wpB (dCmp o x y) r2 Q⟩ E⟩ E := by --s
  exact wpb fun x f r1 => wpb fun y f2 r2 => wp_okB
def wpCh (x : Option Bool) (P N : PK) : Prop := match x with | some true => P.p | some false => N.p | none => False
theorem k_chain {o o' : CO} {a b c : CE} : @wp (ev Ph (.chain o o' a b c) r) Q E = @wp (ev Ph a r) ⟨fun x _ r1 => @wp (ev Ph b r1) ⟨fun y _ r2 => @wpB (dCmp o x y) r2 ⟨fun t _ r3 => @wpT t ⟨@wp (ev Ph c r3) ⟨fun z _ r4 => @wpB (dCmp o' y z) r4 Q⟩ E⟩ ⟨Q.k (.bool false) false r3⟩⟩⟩ E⟩ E := by --s
  refine wpb fun x f r1 => wpb fun y f2 r2 => ?_
  cases h : dCmp o x y with
  | none => rfl
  | some b =>
    cases b with
    | false => rfl
    | true => exact wpb fun z f3 r3 => wp_okB
theorem k_ite {t a b : CE} : @wp (ev Ph (.ite t a b) r) Q E = @wp (ev Ph t r) ⟨fun x _ r1 => @wpT x ⟨@wp (ev Ph a r1) Q E⟩ ⟨@wp (ev Ph b r1) Q E⟩⟩ E := by --s
  exact wpb fun x f r1 => by unfold wpT; rcases truth x with _ | _ | _ <;> rfl
theorem a_nil {k : List D → Ev → Prop} : @wpA Ph .nil r ⟨k⟩ E = k [] r := id rfl --s
theorem a_cons {e es : CE} {K : LK} : @wpA Ph (.cons e es) r K E = @wp (ev Ph e r) ⟨fun x _ r1 => @wpA Ph es r1 ⟨fun l r2 => K.k (x :: l) r2⟩ E⟩ E := by --s
  refine wpb fun x f r1 => ?_
  refine wpb fun y f r2 => ?_
  cases y <;> rfl
theorem k_tup {es : CE} : @wp (ev Ph (.tup es) r) Q E = @wpA Ph es r ⟨fun l r1 => @gLen l ⟨Q.k (.tuple l) false r1⟩⟩ E := by --s
  refine wpb fun x f r1 => ?_
  cases x <;> try rfl
  exact wp_if
theorem k_lst {es : CE} : @wp (ev Ph (.lst es) r) Q E = @wpA Ph es r ⟨fun l r1 => @gLen l ⟨Q.k (.list l) true r1⟩⟩ E := by --s
  refine wpb fun x f r1 => ?_
  cases x <;> try rfl
  exact wp_if
theorem k_idx {a i : CE} : @wp (ev Ph (.idx a i) r) Q E = @wp (ev Ph a r) ⟨fun x _ r1 => @wp (ev Ph i r1) ⟨fun y _ r2 => @wpD (dIdx x y) r2 Q⟩ E⟩ E := by --s
  exact wpb fun x f r1 => wpb fun y f2 r2 => wp_okD
theorem k_sli {a lo hi : CE} : @wp (ev Ph (.sli a lo hi) r) Q E = @wp (ev Ph a r) ⟨fun x _ r1 => @wp (ev Ph lo r1) ⟨fun y _ r2 => @wp (ev Ph hi r2) ⟨fun z _ r3 => @wpSli x y z r3 Q⟩ E⟩ E⟩ E := by --s
  refine wpb fun x f r1 => wpb fun y f2 r2 => wpb fun z f3 r3 => ?_
  unfold wpSli
  cases dPart y <;> cases dPart z <;> first | rfl | exact wp_okO
theorem k_rev {a : CE} : @wp (ev Ph (.rev a) r) Q E = @wp (ev Ph a r) ⟨fun x _ r1 => @wpO (dRev x) r1 Q⟩ E := by --s
  exact wpb fun x f r1 => wp_okO
theorem k_bi {f : BI} {es : CE} : @wp (ev Ph (.bi f es) r) Q E = @wpA Ph es r ⟨fun l r1 => @wpO (dBi f l) r1 Q⟩ E := by --s
  refine wpb fun x f r1 => ?_
  cases x <;> first | rfl | exact wp_okO
theorem k_isi {T : TY} {a : CE} : @wp (ev Ph (.isi T a) r) Q E = @wp (ev Ph a r) ⟨fun x _ r1 => Q.k (.bool (isiD T x)) false r1⟩ E := by --s
  exact wpb fun x f r1 => rfl
theorem wp_rs (x : Rs) : @wp (match x with | .ok d fr none => .ok d fr r | .exc c fs none => .exc c fs r | _ => .stuck) Q E = @wpC x r Q E := by
  refine Eq.trans (b := @wpC' x r Q E) ?_ (propext ⟨fun h => @wpC.mk _ _ Q E h, fun h => @wpC.out _ _ Q E h⟩)
  cases x with
  | ok d fr io => cases io <;> rfl
  | exc c fs io => cases io <;> rfl
  | stuck => rfl
theorem k_call {f : Nat} {es : CE} : @wp (ev Ph (.call f es) r) Q E = @wpA Ph es r ⟨fun l r1 => @wpC (Ph f l) r1 Q E⟩ E := by --s
  refine wpb fun x f r1 => ?_
  cases x <;> first | rfl | exact wp_rs _
theorem k_callV {i : Nat} {es : CE} : @wp (ev Ph (.callV i es) r) Q E = @getFK r i ⟨fun f => @wpA Ph es r ⟨fun l r1 => @wpC (Ph f l) r1 Q E⟩ E⟩ := by --s
  unfold ev getFK
  rcases r[i]? with _ | _ | (d | d | f) <;> try rfl
  refine wpb fun x f r1 => ?_
  cases x <;> first | rfl | exact wp_rs _
theorem wp_rsI (x : Rs) (i : Nat) : @wp (match x with | .ok d fr (some c') => .ok d fr (putO r i c') | .exc c fs (some c') => .exc c fs (putO r i c') | _ => .stuck) Q E = @wpCI x i r Q E := by
  refine Eq.trans (b := @wpCI' x i r Q E) ?_ (propext ⟨fun h => @wpCI.mk _ _ _ Q E h, fun h => @wpCI.out _ _ _ Q E h⟩)
  cases x with
  | ok d fr io => cases io <;> rfl
  | exc c fs io => cases io <;> rfl
  | stuck => rfl
theorem k_callM {f i : Nat} {es : CE} : @wp (ev Ph (.callM f i es) r) Q E = @getOK r i ⟨fun _ => @wpA Ph es r ⟨fun l r1 => @getOK r1 i ⟨fun c => @wpCI (Ph f (c :: l)) i r1 Q E⟩⟩ E⟩ := by --s
  unfold ev getOK
  cases getO r i with
  | none => rfl
  | some d =>
    refine wpb fun x f r1 => ?_
    cases x <;> try rfl
    dsimp only
    cases getO r1 i <;> first | rfl | exact wp_rsI _ _
theorem k_lenO {i : Nat} : @wp (ev Ph (.lenO i) r) Q E = @getOK r i ⟨fun c => @wpLenO c r Q⟩ := by --s
  unfold ev getOK wpLenO
  rcases getO r i with _ | d
  · rfl
  · cases d <;> rfl
theorem k_popO {i : Nat} {e : CE} : @wp (ev Ph (.popO i e) r) Q E = @getOK r i ⟨fun c0 => @isL c0 ⟨@wp (ev Ph e r) ⟨fun x _ r1 => @getOK r1 i ⟨fun c => @wpPop x c i r1 Q⟩⟩ E⟩⟩ := by --s
  unfold ev getOK isL
  rcases getO r i with _ | d
  · rfl
  · cases d <;> try rfl
    refine wpb fun x f r1 => ?_
    rcases getO r1 i with _ | c
    · cases x <;> rfl
    · cases x <;> try rfl
      cases c <;> try rfl
      rename_i k l2
      unfold wpPop
      dsimp only
      cases L2.ixN l2.length k with
      | none => rfl
      | some j =>
        dsimp only
        cases l2[j]? with
        | none => rfl
        | some d =>
          dsimp only
          by_cases h : -9223372036854775808 ≤ k ∧ k < 9223372036854775808
          · rw [if_pos h, if_pos h]; rfl
          · rw [if_neg h, if_neg h]; rfl
theorem lc_eq {x : D} {elt : CE} {tg : CT} {ifs : CE} {vs : List Nat} : @wpLc' Ph x elt tg ifs vs r Q = @wpLc Ph x elt tg ifs vs r Q := propext ⟨fun h => @wpLc.mk _ _ _ _ _ _ _ Q h, fun h => @wpLc.out _ _ _ _ _ _ _ Q h⟩
theorem f_eq {x : D} {t : CT} {body : CS} : @wpF' Ph x t body r N J = @wpF Ph x t body r N J := propext ⟨fun h => @wpF.mk _ _ _ _ _ N J h, fun h => @wpF.out _ _ _ _ _ N J h⟩
theorem w_eq {n : Nat} {ld : List Nat} {t : CE} {body : CS} : @wpW' Ph n ld t body r N J = @wpW Ph n ld t body r N J := propext ⟨fun h => @wpW.mk _ _ _ _ _ _ N J h, fun h => @wpW.out _ _ _ _ _ _ N J h⟩
theorem k_lc {elt : CE} {tg : CT} {it ifs : CE} {vs : List Nat} : @wp (ev Ph (.lc elt tg it ifs vs) r) Q E = @wp (ev Ph it r) ⟨fun x _ r1 => @wpLc Ph x elt tg ifs vs r1 Q⟩ E := by --s
  refine wpb fun x f r1 => Eq.trans (b := @wpLc' Ph x elt tg ifs vs r1 Q) ?_ lc_eq
  cases x <;> try rfl
  rename_i l
  show @wp (match lcLoop (lcStep Ph elt tg ifs) vs l (wipeE r1 vs) with | .ok d fr r2 => .ok d fr (backE r1 r2 vs) | _ => .stuck) Q E = _
  unfold wpLc'
  dsimp only
  cases lcLoop (lcStep Ph elt tg ifs) vs l (wipeE r1 vs) <;> rfl
theorem k_sdc {elt : CE} {tg : CT} {it : CE} {vs : List Nat} : @wp (ev Ph (.sdc elt tg it vs) r) Q E = @wp (ev Ph it r) ⟨fun x _ r1 => @wpSdc Ph x elt tg vs r1 Q⟩ E := by --s
  refine wpb fun x f r1 => ?_
  cases x <;> try rfl
  rename_i l
  show @wp (match lcLoop (scStep Ph elt tg) vs l (wipeE r1 vs) with | .ok (.list l) _ r2 => (match intsOf l with | some ns => if (usort ns).length < 64 then .ok (.list ((usort ns).map .int)) true (backE r1 r2 vs) else .stuck | none => .stuck) | _ => .stuck) Q E = _
  unfold wpSdc
  dsimp only
  cases lcLoop (scStep Ph elt tg) vs l (wipeE r1 vs) with
  | ok d fr r2 =>
    cases d <;> try rfl
    rename_i m
    dsimp only
    cases intsOf m with
    | none => rfl
    | some ns => exact wp_if
  | exc c fs r2 => rfl
  | stuck => rfl
theorem k_lsc {elt : CE} {tg : CT} {it : CE} {vs : List Nat} : @wp (ev Ph (.lsc elt tg it vs) r) Q E = @wp (ev Ph it r) ⟨fun x _ r1 => @wpLsc Ph x elt tg vs r1 Q⟩ E := by --s
  refine wpb fun x f r1 => ?_
  cases x <;> try rfl
  rename_i l
  show @wp (match lcLoop (scStep Ph elt tg) vs l (wipeE r1 vs) with | .ok (.list l) _ r2 => (match intsOf l with | some ns => if ns.length ≤ 4000 then .ok (.int (usort ns).length) false (backE r1 r2 vs) else .stuck | none => .stuck) | _ => .stuck) Q E = _
  unfold wpLsc
  dsimp only
  cases lcLoop (scStep Ph elt tg) vs l (wipeE r1 vs) with
  | ok d fr r2 =>
    cases d <;> try rfl
    rename_i m
    dsimp only
    cases intsOf m with
    | none => rfl
    | some ns => exact wp_if
  | exc c fs r2 => rfl
  | stuck => rfl
theorem k_seq {e : CE} : @wp (ev Ph (.seq e) r) Q E = @wp (ev Ph e r) ⟨fun x _ r1 => @wpSeq x r1 Q⟩ E := by --s
  refine wpb fun x f r1 => ?_
  unfold wpSeq
  cases seqD x <;> rfl
theorem k_rng {a b : CE} : @wp (ev Ph (.rng a b) r) Q E = @wp (ev Ph a r) ⟨fun x _ r1 => @wp (ev Ph b r1) ⟨fun y _ r2 => @wpRng x y false r2 Q⟩ E⟩ E := by --s
  refine wpb fun x f r1 => wpb fun y f2 r2 => ?_
  cases x <;> try rfl
  cases y <;> try rfl
  exact wp_if
theorem k_lrng {a b : CE} : @wp (ev Ph (.lrng a b) r) Q E = @wp (ev Ph a r) ⟨fun x _ r1 => @wp (ev Ph b r1) ⟨fun y _ r2 => @wpRng x y true r2 Q⟩ E⟩ E := by --s
  refine wpb fun x f r1 => wpb fun y f2 r2 => ?_
  cases x <;> try rfl
  cases y <;> try rfl
  exact wp_if
theorem k_enum {e : CE} : @wp (ev Ph (.enum e) r) Q E = @wp (ev Ph e r) ⟨fun x _ r1 => @wpEnum x r1 Q⟩ E := by --s
  refine wpb fun x f r1 => ?_
  cases x <;> rfl
theorem k_zip {a b : CE} : @wp (ev Ph (.zip a b) r) Q E = @wp (ev Ph a r) ⟨fun x _ r1 => @wp (ev Ph b r1) ⟨fun y _ r2 => @wpZip x y r2 Q⟩ E⟩ E := by --s
  refine wpb fun x f r1 => wpb fun y f2 r2 => ?_
  cases x <;> try rfl
  all_goals (cases y <;> rfl)
theorem k_sset {e : CE} : @wp (ev Ph (.sset e) r) Q E = @wp (ev Ph e r) ⟨fun x _ r1 => @wpSset x r1 Q⟩ E := by --s
  refine wpb fun x f r1 => ?_
  unfold wpSset
  cases seqD x with
  | none => rfl
  | some l =>
    dsimp only
    cases intsOf l with
    | none => rfl
    | some ns => exact wp_if
theorem k_lset {e : CE} : @wp (ev Ph (.lset e) r) Q E = @wp (ev Ph e r) ⟨fun x _ r1 => @wpLset x r1 Q⟩ E := by --s
  refine wpb fun x f r1 => ?_
  unfold wpLset
  cases seqD x with
  | none => rfl
  | some l =>
    dsimp only
    cases intsOf l with
    | none => rfl
    | some ns => exact wp_if
theorem k_dget {ks : List Str} {vs k e : CE} : @wp (ev Ph (.dget ks vs k e) r) Q E = @wp (ev Ph vs r) ⟨fun x _ r1 => @wp (ev Ph k r1) ⟨fun y _ r2 => @wp (ev Ph e r2) ⟨fun z _ r3 => @wpDget ks x y z r3 Q⟩ E⟩ E⟩ E := by --s
  refine wpb fun x f r1 => wpb fun y f2 r2 => wpb fun z f3 r3 => ?_
  cases x <;> try rfl
  cases y <;> try rfl
  exact wp_if
theorem k_sp {es : CE} {l : List D} {k : List D → Ev → Prop} (h : True) : True := h

/-! statements -/
theorem s_skip : @wpS (evS Ph .skip r) N J = N.k r := id rfl --s
theorem s_seq {a b : CS} : @wpS (evS Ph (.seq a b) r) N J = @wpS (evS Ph a r) ⟨fun r1 => @wpS (evS Ph b r1) N J⟩ J := by --s
  show @wpS (match evS Ph a r with | .nx r1 => evS Ph b r1 | f => f) N J = _
  cases evS Ph a r <;> rfl
theorem wp_evL {ld : List Nat} {e : CE} : @wp (evL Ph ld e r) Q E = @wpM Ph [] ld e r Q E := rfl
theorem s_asg {i : Nat} {ld : List Nat} {e : CE} : @wpS (evS Ph (.asg i ld e) r) N J = @wpM Ph [] ld e r ⟨fun d fr r1 => @wpV d fr i r1 N⟩ ⟨J.exc⟩ := by --s
  exact wpfl fun d f r1 => rfl
theorem v_t {d : D} {i : Nat} {k : Ev → Prop} : @wpV d true i r ⟨k⟩ = @setK r i (some (.o d)) ⟨k⟩ := id rfl --s
theorem v_f {d : D} {i : Nat} {k : Ev → Prop} : @wpV d false i r ⟨k⟩ = @setK r i (some (.p d)) ⟨k⟩ := id rfl --s
theorem s_unp {t : CT} {ld : List Nat} {e : CE} : @wpS (evS Ph (.unp t ld e) r) N J = @wpM Ph [] ld e r ⟨fun d _ r1 => @wpUnp t d r1 N⟩ ⟨J.exc⟩ := by --s
  refine wpfl fun d f r1 => ?_
  cases d <;> try rfl
  all_goals (unfold wpUnp bindK; dsimp only; cases bindT t _ r1 <;> rfl)
theorem unp_t {t : CT} {l : List D} : @wpUnp t (.tuple l) r N = @bindK t (.tuple l) r N := id rfl --s
theorem unp_l {t : CT} {l : List D} : @wpUnp t (.list l) r N = @bindK t (.tuple l) r N := id rfl --s
theorem b_nil {k : Ev → Prop} : @bindK .nil (.tuple []) r ⟨k⟩ = k r := id rfl --s
theorem b_cons {t ts : CT} {d : D} {l : List D} : @bindK (.cons t ts) (.tuple (d :: l)) r N = @bindK t d r ⟨fun r1 => @bindK ts (.tuple l) r1 N⟩ := by --s
  unfold bindK
  show (match (bindT t d r).bind _ with | some r1 => N.k r1 | none => False) = _
  cases bindT t d r <;> rfl
theorem s_star {t : CT} {n : Nat} {ld : List Nat} {e : CE} : @wpS (evS Ph (.star t n ld e) r) N J = @wpM Ph [] ld e r ⟨fun d _ r1 => @wpStar t n d r1 N⟩ ⟨J.exc⟩ := by --s
  refine wpfl fun d f r1 => ?_
  cases d <;> try rfl
  rename_i l
  refine wpS_if.trans ?_
  unfold wpStar bindK
  dsimp only
  cases bindT t (.tuple (l.take n ++ [.list (l.drop n)])) r1 <;> rfl
theorem s_par {i j : Nat} {ld : List Nat} {e e' : CE} : @wpS (evS Ph (.par i j ld e e') r) N J = @wpM Ph [] ld (.cons e (.cons e' .nil)) r ⟨fun d _ r1 => @wpPar d i j r1 N⟩ ⟨J.exc⟩ := by --s
  refine wpfl fun d f r1 => ?_
  cases d <;> try rfl
  rename_i l
  rcases l with _ | ⟨x, _ | ⟨y, _ | ⟨z, l⟩⟩⟩ <;> rfl
theorem par_ {x y : D} {i j : Nat} : @wpPar (.tuple [x, y]) i j r N = @setK r i (some (.p x)) ⟨fun r1 => @setK r1 j (some (.p y)) N⟩ := id rfl --s
theorem k_consE {e es : CE} : @wp (ev Ph (.cons e es) r) Q E = @wp (ev Ph e r) ⟨fun x _ r1 => @wpA Ph es r1 ⟨fun l r2 => Q.k (.tuple (x :: l)) false r2⟩ E⟩ E := by --s
  refine wpb fun x f r1 => wpb fun y f2 r2 => ?_
  cases y <;> rfl
theorem k_nilE : @wp (ev Ph .nil r) ⟨q⟩ E = q (.tuple []) false r := id rfl --s
theorem s_sto {i : Nat} {ld : List Nat} {k e : CE} : @wpS (evS Ph (.sto i ld k e) r) N J = @wpM Ph [] ld e r ⟨fun d _ r1 => @getOK r1 i ⟨fun c0 => @isL c0 ⟨@wp (ev Ph k r1) ⟨fun kd _ r2 => @getOK r2 i ⟨fun c => @wpSto c kd d i r2 N⟩⟩ ⟨J.exc⟩⟩⟩⟩ ⟨J.exc⟩ := by --s
  refine wpfl fun d f r1 => ?_
  unfold getOK isL
  rcases getO r1 i with _ | c0
  · rfl
  · cases c0 <;> try rfl
    refine wpfl fun kd f r2 => ?_
    rcases getO r2 i with _ | c
    · rfl
    · cases c <;> try rfl
      cases kd <;> try rfl
      rename_i l n
      unfold wpSto
      dsimp only
      cases L2.ixN l.length n <;> rfl
theorem s_mut {m : MU} {i : Nat} {ld : List Nat} {e : CE} : @wpS (evS Ph (.mut m i ld e) r) N J = @getOK r i ⟨fun c0 => @isL c0 ⟨@wpM Ph [] ld e r ⟨fun d _ r1 => @getOK r1 i ⟨fun c => @wpMut m c d i r1 N⟩⟩ ⟨J.exc⟩⟩⟩ := by --s
  unfold evS getOK isL
  rcases getO r i with _ | c0
  · rfl
  · cases c0 <;> try rfl
    refine wpfl fun d f r1 => ?_
    rcases getO r1 i with _ | c
    · cases m <;> rfl
    · unfold wpMut
      cases m <;> cases c <;> try rfl
      all_goals (cases d <;> try rfl)
      · rename_i l2
        rcases l2 with _ | ⟨x, _ | ⟨y, l2⟩⟩
        · rfl
        · exact wpS_if
        · rfl
      · rename_i l2
        cases l2 <;> rfl
      · rename_i l2
        cases l2 <;> rfl
theorem isl_ {l : List D} : @isL (.list l) P = P.p := id rfl --s
theorem s_exp {ld : List Nat} {e : CE} : @wpS (evS Ph (.exp ld e) r) N J = @wpM Ph [] ld e r ⟨fun _ _ r1 => N.k r1⟩ ⟨J.exc⟩ := by --s
  exact wpfl fun d f r1 => rfl
theorem s_ifs {ld : List Nat} {t : CE} {a b : CS} : @wpS (evS Ph (.ifs ld t a b) r) N J = @wpM Ph [] ld t r ⟨fun d _ r1 => @wpT d ⟨@wpS (evS Ph a r1) N J⟩ ⟨@wpS (evS Ph b r1) N J⟩⟩ ⟨J.exc⟩ := by --s
  refine wpfl fun d f r1 => ?_
  unfold wpT
  rcases truth d with _ | _ | _ <;> rfl
theorem s_for {t : CT} {ld : List Nat} {it : CE} {body : CS} : @wpS (evS Ph (.for_ t ld false it body) r) N J = @lendK ld r ⟨fun rl => @wp (ev Ph it rl) ⟨fun x _ r1 => @wpF Ph x t body r1 N J⟩ ⟨J.exc⟩⟩ := by --s
  unfold evS lendK
  dsimp only
  cases ev Ph it (lend r ld) with
  | ok d fr r1 =>
    refine Eq.trans (b := @wpF' Ph d t body r1 N J) ?_ f_eq
    cases d <;> rfl
  | exc c fs r1 => rfl
  | stuck => rfl
theorem s_whil {n : Nat} {ld : List Nat} {t : CE} {body : CS} : @wpS (evS Ph (.whil n ld t body) r) N J = @wpW Ph n ld t body r N J := w_eq --s
theorem s_ret {ld : List Nat} {e : CE} : @wpS (evS Ph (.ret ld e) r) N J = @wpM Ph [] ld e r ⟨fun d fr r1 => J.ret d fr r1⟩ ⟨J.exc⟩ := by --s
  exact wpfl fun d f r1 => rfl
theorem s_retO {i : Nat} : @wpS (evS Ph (.retO i) r) N J = @getOK r i ⟨fun d => @setK r i none ⟨fun r1 => J.ret d true r1⟩⟩ := by --s
  unfold evS getOK
  cases getO r i <;> rfl
theorem s_brk : @wpS (evS Ph .brk r) N J = J.brk r := id rfl --s
theorem s_cnt : @wpS (evS Ph .cnt r) N J = J.cnt r := id rfl --s
theorem s_fsel {x : Str} {tab : List (Str × Nat)} {i : Nat} {ld : List Nat} {e : CE} : @wpS (evS Ph (.fsel x tab i ld e) r) N J = @wpM Ph [] ld e r ⟨fun d _ r1 => @wpFsel tab i d r1 N⟩ ⟨J.exc⟩ := by --s
  refine wpfl fun d f r1 => ?_
  unfold wpFsel
  cases d <;> try rfl
  dsimp only
  cases List.lookup _ tab <;> rfl
/-! values -/
theorem o_add {i j : Int} : @wpO (dBin .add (.int i) (.int j)) r ⟨q⟩ = q (.int (i + j)) false r := id rfl --s
theorem o_sub {i j : Int} : @wpO (dBin .sub (.int i) (.int j)) r ⟨q⟩ = q (.int (i - j)) false r := id rfl --s
theorem o_neg {i : Int} : @wpD (dNeg (.int i)) r ⟨q⟩ = q (.int (-i)) false r := id rfl --s
theorem o_notB {b : Bool} : @wpB ((truth (.bool b)).map (!·)) r ⟨q⟩ = q (.bool (!b)) false r := id rfl --s
theorem o_lt {i j : Int} : @wpB (dCmp .lt (.int i) (.int j)) r ⟨q⟩ = q (.bool (decide (i < j))) false r := id rfl --s
theorem o_le {i j : Int} : @wpB (dCmp .le (.int i) (.int j)) r ⟨q⟩ = q (.bool (decide (i ≤ j))) false r := id rfl --s
theorem o_gt {i j : Int} : @wpB (dCmp .gt (.int i) (.int j)) r ⟨q⟩ = q (.bool (decide (j < i))) false r := id rfl --s
theorem o_ge {i j : Int} : @wpB (dCmp .ge (.int i) (.int j)) r ⟨q⟩ = q (.bool (decide (j ≤ i))) false r := id rfl --s
theorem eqvI {i j : Int} : PyData.eqv (.int i) (.int j) = decide (i = j) := by
  have : PyData.eqv (.int i) (.int j) = (i == j) := by simp [PyData.eqv]
  rw [this]
  by_cases h : i = j
  · subst h; simp
  · rw [decide_eq_false h]; exact beq_false_of_ne h
theorem eqvS {i j : Str} : PyData.eqv (.str i) (.str j) = decide (i = j) := by
  have : PyData.eqv (.str i) (.str j) = (i == j) := by simp [PyData.eqv]
  rw [this]
  by_cases h : i = j
  · subst h; simp
  · rw [decide_eq_false h]; exact beq_false_of_ne h
theorem o_eqI {i j : Int} : @wpB (dCmp .eq (.int i) (.int j)) r ⟨q⟩ = q (.bool (decide (i = j))) false r := by --s
  show @wpB (some (PyData.eqv (.int i) (.int j))) r ⟨q⟩ = _
  have : PyData.eqv (.int i) (.int j) = decide (i = j) := eqvI
  rw [this]; rfl
theorem o_neI {i j : Int} : @wpB (dCmp .ne (.int i) (.int j)) r ⟨q⟩ = q (.bool (!decide (i = j))) false r := by --s
  show @wpB (some (!PyData.eqv (.int i) (.int j))) r ⟨q⟩ = _
  have : PyData.eqv (.int i) (.int j) = decide (i = j) := eqvI
  rw [this]; rfl
theorem o_eqB {i j : Bool} : @wpB (dCmp .eq (.bool i) (.bool j)) r ⟨q⟩ = q (.bool (i == j)) false r := by --s
  show @wpB (some (PyData.eqv (.bool i) (.bool j))) r ⟨q⟩ = _
  have : PyData.eqv (.bool i) (.bool j) = (i == j) := by simp [PyData.eqv]
  rw [this]; rfl
theorem o_neB {i j : Bool} : @wpB (dCmp .ne (.bool i) (.bool j)) r ⟨q⟩ = q (.bool (!(i == j))) false r := by --s
  show @wpB (some (!PyData.eqv (.bool i) (.bool j))) r ⟨q⟩ = _
  have : PyData.eqv (.bool i) (.bool j) = (i == j) := by simp [PyData.eqv]
  rw [this]; rfl
theorem t_t : @wpT (.bool true) P P2 = P.p := id rfl --s
theorem t_f : @wpT (.bool false) P P2 = P2.p := id rfl --s
theorem t_b {b : Bool} : @wpT (.bool b) P P2 = @cnd b P P2 := by cases b <;> rfl --s
theorem t_n : @wpT .none P P2 = P2.p := id rfl --s
theorem t_i {i : Int} : @wpT (.int i) P P2 = @cnd (i != 0) P P2 := by show (match some (i != 0) with | some true => P.p | some false => P2.p | none => False) = if (i != 0) = true then P.p else P2.p; cases (i != 0) <;> rfl --s
theorem t_l {l : List D} : @wpT (.list l) P P2 = @cnd (!l.isEmpty) P P2 := by show (match some (!l.isEmpty) with | some true => P.p | some false => P2.p | none => False) = if (!l.isEmpty) = true then P.p else P2.p; cases l.isEmpty <;> rfl --s
theorem t_tu {l : List D} : @wpT (.tuple l) P P2 = @cnd (!l.isEmpty) P P2 := by show (match some (!l.isEmpty) with | some true => P.p | some false => P2.p | none => False) = if (!l.isEmpty) = true then P.p else P2.p; cases l.isEmpty <;> rfl --s
theorem u_lenL {l : List D} : @wpO (dBi .len [.list l]) r ⟨q⟩ = q (.int l.length) false r := id rfl --s
theorem u_lenT {l : List D} : @wpO (dBi .len [.tuple l]) r ⟨q⟩ = q (.int l.length) false r := id rfl --s
theorem u_max2 {a b : Int} : @wpO (dBi .max [.int a, .int b]) r ⟨q⟩ = q (.int (if b > a then b else a)) false r := id rfl --s
theorem u_min2 {a b : Int} : @wpO (dBi .min [.int a, .int b]) r ⟨q⟩ = q (.int (if b < a then b else a)) false r := id rfl --s
theorem u_listL {l : List D} : @wpO (dBi .list [.list l]) r ⟨q⟩ = q (.list l) true r := id rfl --s
theorem u_listT {l : List D} : @wpO (dBi .list [.tuple l]) r ⟨q⟩ = q (.list l) true r := id rfl --s
theorem u_tupL {l : List D} : @wpO (dBi .tuple [.list l]) r ⟨q⟩ = q (.tuple l) false r := id rfl --s
theorem u_tupT {l : List D} : @wpO (dBi .tuple [.tuple l]) r ⟨q⟩ = q (.tuple l) false r := id rfl --s
theorem u_intI {i : Int} : @wpO (dBi .int [.int i]) r ⟨q⟩ = q (.int i) false r := id rfl --s
theorem u_intB {b : Bool} : @wpO (dBi .int [.bool b]) r ⟨q⟩ = q (.int (if b then 1 else 0)) false r := id rfl --s
theorem u_abs {i : Int} : @wpO (dBi .abs [.int i]) r ⟨q⟩ = q (.int (if i < 0 then -i else i)) false r := id rfl --s
theorem intsOf_map : ∀ l : List Int, intsOf (l.map .int) = some l --sp
  | [] => rfl
  | i :: l => by show (intsOf (l.map .int)).map _ = _; rw [intsOf_map l]; rfl
theorem boolsOf_map : ∀ l : List Bool, boolsOf (l.map .bool) = some l --sp
  | [] => rfl
  | i :: l => by show (boolsOf (l.map .bool)).map _ = _; rw [boolsOf_map l]; rfl
theorem u_sum {l : List Int} : @wpO (dBi .sum [.list (l.map .int)]) r ⟨q⟩ = q (.int l.sum) false r := by --s
  show @wpO ((intsOf (l.map .int)).map _) r ⟨q⟩ = _; rw [intsOf_map]; rfl
theorem u_all {l : List Bool} : @wpO (dBi .all [.list (l.map .bool)]) r ⟨q⟩ = q (.bool (l.all id)) false r := by --s
  show @wpO ((boolsOf (l.map .bool)).map _) r ⟨q⟩ = _; rw [boolsOf_map]; rfl
theorem u_any {l : List Bool} : @wpO (dBi .any [.list (l.map .bool)]) r ⟨q⟩ = q (.bool (l.any id)) false r := by --s
  show @wpO ((boolsOf (l.map .bool)).map _) r ⟨q⟩ = _; rw [boolsOf_map]; rfl
theorem u_sorted {l : List Int} : @wpO (dBi .sorted [.list (l.map .int)]) r ⟨q⟩ = q (.list ((isort l).map .int)) true r := by --s
  show @wpO ((intsOf (l.map .int)).map _) r ⟨q⟩ = _; rw [intsOf_map]; rfl
theorem q_l {l : List D} : @wpSeq (.list l) r ⟨q⟩ = q (.list l) false r := id rfl --s
theorem q_t {l : List D} : @wpSeq (.tuple l) r ⟨q⟩ = q (.list l) false r := id rfl --s
theorem e_l {l : List D} : @wpEnum (.list l) r ⟨q⟩ = q (.list (enumD 0 l)) false r := id rfl --s
theorem z_l {l m : List D} : @wpZip (.list l) (.list m) r ⟨q⟩ = q (.list (zipD l m)) false r := id rfl --s
theorem z_t {l m : List D} : @wpZip (.tuple l) (.tuple m) r ⟨q⟩ = q (.list (zipD l m)) false r := id rfl --s
theorem len_o {l : List D} : @wpLenO (.list l) r ⟨q⟩ = q (.int l.length) false r := id rfl --s
theorem rev_ {l : List D} : @wpO (dRev (.list l)) r ⟨q⟩ = q (.list l.reverse) true r := id rfl --s
theorem c_ok {d : D} {fr : Bool} : @wpC (.ok d fr none) r ⟨q⟩ E = q d fr r := propext ⟨fun h => @wpC.out _ _ ⟨q⟩ E h, fun h => @wpC.mk _ _ ⟨q⟩ E h⟩ --s
theorem ci_ok {d c : D} {fr : Bool} {i : Nat} : @wpCI (.ok d fr (some c)) i r ⟨q⟩ E = @setK r i (some (.o c)) ⟨q d fr⟩ := propext ⟨fun h => @wpCI.out _ _ _ ⟨q⟩ E h, fun h => @wpCI.mk _ _ _ ⟨q⟩ E h⟩ --s
theorem sli_ln {l : List D} {i : Int} : @wpSli (.list l) (.int i) .none r ⟨q⟩ = q (.list (cutD l (some i) none)) true r := id rfl --s
theorem sli_nl {l : List D} {i : Int} : @wpSli (.list l) .none (.int i) r ⟨q⟩ = q (.list (cutD l none (some i))) true r := id rfl --s
theorem sli_ll {l : List D} {i j : Int} : @wpSli (.list l) (.int i) (.int j) r ⟨q⟩ = q (.list (cutD l (some i) (some j))) true r := id rfl --s
theorem sli_tn {l : List D} {i : Int} : @wpSli (.tuple l) (.int i) .none r ⟨q⟩ = q (.tuple (cutD l (some i) none)) false r := id rfl --s
theorem sli_nt {l : List D} {i : Int} : @wpSli (.tuple l) .none (.int i) r ⟨q⟩ = q (.tuple (cutD l none (some i))) false r := id rfl --s
theorem sli_tt {l : List D} {i j : Int} : @wpSli (.tuple l) (.int i) (.int j) r ⟨q⟩ = q (.tuple (cutD l (some i) (some j))) false r := id rfl --s
theorem cut_drop {α : Type} {l : List α} (k : Nat) : cutD l (some (k : Int)) none = l.drop k := by
  unfold cutD
  rw [HT.sIx_nat, HT.sIx_none]
  by_cases h : k ≤ l.length
  · rw [Nat.min_eq_left h, List.take_of_length_le (by rw [List.length_drop]; omega)]
  · rw [Nat.min_eq_right (by omega), List.drop_length, List.drop_of_length_le (by omega), List.take_nil]
theorem cut_take {α : Type} {l : List α} (k : Nat) : cutD l none (some (k : Int)) = l.take k := by
  unfold cutD
  rw [HT.sIx_nat, HT.sIx_none, List.drop_zero, Nat.sub_zero]
  by_cases h : k ≤ l.length
  · rw [Nat.min_eq_left h]
  · rw [Nat.min_eq_right (by omega), List.take_of_length_le (by omega), List.take_of_length_le (by omega)]
theorem cut_1 {α : Type} {l : List α} : cutD l (some 1) none = l.drop 1 := cut_drop 1 --sp
theorem cut_2 {α : Type} {l : List α} : cutD l (some 2) none = l.drop 2 := cut_drop 2 --sp
theorem cut_3 {α : Type} {l : List α} : cutD l (some 3) none = l.drop 3 := cut_drop 3 --sp
theorem ff_f {d : D} : flatF d false = flat d := id rfl --sp
theorem ff_l {l : List D} : flatF (.list l) true = flats l := id rfl --sp
theorem fl_i {i : Int} : flat (.int i) = true := by unfold flat; rfl --sp
theorem fl_b {i : Bool} : flat (.bool i) = true := by unfold flat; rfl --sp
theorem fl_s {i : Str} : flat (.str i) = true := by unfold flat; rfl --sp
theorem fl_n : flat .none = true := by unfold flat; rfl --sp
theorem fl_t {l : List D} : flat (.tuple l) = flats l := by rw [flat] --sp
theorem fl_l {l : List D} : flat (.list l) = false := by rw [flat] --sp
theorem fls_n : flats [] = true := by unfold flats; rfl --sp
theorem fls_c {d : D} {l : List D} : flats (d :: l) = (flat d && flats l) := by rw [flats] --sp
theorem fls_i : ∀ {l : List Int}, flats (l.map .int) = true --sp
  | [] => fls_n
  | i :: l => by rw [List.map_cons, fls_c, fl_i, fls_i]; rfl
theorem of_n : ownFlat [] = true := rfl --sp
theorem of_0 : ownFlat (none :: r) = ownFlat r := id rfl --sp
theorem of_p {d : D} : ownFlat (some (.p d) :: r) = ownFlat r := id rfl --sp
/-- a slot that holds a value, or nothing yet -/
def op (x : Option D) : Option Sl := x.map .p
theorem of_op {x : Option D} : ownFlat (op x :: r) = ownFlat r := by cases x <;> rfl --sp
/-- a slot that holds an own list of ints, or nothing yet -/
def os (x : Option (List Int)) : Option Sl := x.map fun l => .o (.list (l.map .int))
theorem of_os {x : Option (List Int)} : ownFlat (os x :: r) = ownFlat r := by --sp
  cases x with
  | none => rfl
  | some l => show (flatF (.list (l.map .int)) true && ownFlat r) = _; rw [ff_l, fls_i]; rfl
theorem fls_app : ∀ {l m : List D}, flats (l ++ m) = (flats l && flats m) --sp
  | [], m => by rw [List.nil_append, fls_n]; cases flats m <;> rfl
  | a :: l, m => by rw [List.cons_append, fls_c, fls_c, fls_app, Bool.and_assoc]
/-- a slot of which it is only known that what it holds is flat -/
structure FS where
  s : Option Sl
  ok : ownFlat [s] = true
def fsl (x : FS) : Option Sl := x.s
theorem of_f {d : Nat} : ownFlat (some (.f d) :: r) = ownFlat r := id rfl --sp
theorem of_o {d : D} : ownFlat (some (.o d) :: r) = (flatF d true && ownFlat r) := id rfl --sp
theorem of_fs {x : FS} : ownFlat (fsl x :: r) = ownFlat r := by --sp
  obtain ⟨s, h⟩ := x
  rcases s with _ | d | d | f
  · rfl
  · rfl
  · rw [of_o, Bool.and_eq_true] at h
    show ownFlat (some (.o d) :: r) = _
    rw [of_o, h.1]; rfl
  · rfl
theorem tt_ {b : Bool} : (true && b) = b := by cases b <;> rfl --sp
theorem ff_ {b : Bool} : (false && b) = false := id rfl --sp
theorem dc_t : decide True = true := id rfl --sp
theorem dc_f : decide False = false := id rfl --sp
theorem nb_t : (!true) = false := id rfl --sp
theorem nb_f : (!false) = true := id rfl --sp

/-! rules that want a word -/
theorem cnd_of {b : Bool} (h1 : b = true → P.p) (h2 : b = false → P2.p) : @cnd b P P2 := by
  cases b
  · exact h2 rfl
  · exact h1 rfl
theorem cnd_dec {p : Prop} [Decidable p] (h1 : p → P.p) (h2 : ¬p → P2.p) : @cnd (decide p) P P2 := by
  by_cases h : p
  · rw [decide_eq_true h]; exact h1 h
  · rw [decide_eq_false h]; exact h2 h
theorem cnd_ndec {p : Prop} [Decidable p] (h1 : ¬p → P.p) (h2 : p → P2.p) : @cnd (!decide p) P P2 := by
  by_cases h : p
  · rw [decide_eq_true h]; exact h2 h
  · rw [decide_eq_false h]; exact h1 h
theorem cnd_de {p : Prop} [Decidable p] : @cnd (decide p) P P2 = ((p → P.p) ∧ (¬p → P2.p)) := by
  by_cases h : p
  · rw [decide_eq_true h]; exact propext ⟨fun z => ⟨fun _ => z, fun n => absurd h n⟩, fun z => z.1 h⟩
  · rw [decide_eq_false h]; exact propext ⟨fun z => ⟨fun n => absurd n h, fun _ => z⟩, fun z => z.2 h⟩
theorem cnd_nde {p : Prop} [Decidable p] : @cnd (!decide p) P P2 = ((¬p → P.p) ∧ (p → P2.p)) := by
  by_cases h : p
  · rw [decide_eq_true h]; exact propext ⟨fun z => ⟨fun n => absurd h n, fun _ => z⟩, fun z => z.2 h⟩
  · rw [decide_eq_false h]; exact propext ⟨fun z => ⟨fun _ => z, fun n => absurd n h⟩, fun z => z.1 h⟩
theorem o_mul {i j : Int} (h : (smallI i || smallI j) = true) (hq : q (.int (i * j)) false r) : @wpO (dBin .mul (.int i) (.int j)) r ⟨q⟩ := by
  show @wpO (if (smallI i || smallI j) = true then _ else _) r ⟨q⟩
  rw [if_pos h]; exact hq
theorem o_fdiv {i j : Int} (h : j ≠ 0) (h2 : j.natAbs < 1073741824) (hq : q (.int (i.fdiv j)) false r) : @wpO (dBin .fdiv (.int i) (.int j)) r ⟨q⟩ := by
  show @wpO (if (decide (j ≠ 0) && decide (j.natAbs < 1073741824)) = true then _ else _) r ⟨q⟩
  rw [if_pos (by simp [h, h2])]; exact hq
theorem o_mod {i j : Int} (h : j ≠ 0) (hq : q (.int (i.fmod j)) false r) : @wpO (dBin .mod (.int i) (.int j)) r ⟨q⟩ := by
  show @wpO (if j ≠ 0 then _ else _) r ⟨q⟩
  rw [if_pos h]; exact hq
theorem o_pow {i j : Int} (h : 0 ≤ j) (h1 : j ≤ 1000000) (h2 : i.natAbs < 18446744073709551616) (hq : q (.int (i ^ j.toNat)) false r) : @wpO (dBin .pow (.int i) (.int j)) r ⟨q⟩ := by
  show @wpO (if (decide (0 ≤ j) && decide (j ≤ 1000000) && decide (i.natAbs < 18446744073709551616)) = true then _ else _) r ⟨q⟩
  rw [if_pos (by simp [h, h1, h2])]; exact hq
theorem o_addL {l m : List D} (h : l.length + m.length ≤ line) (hq : q (.list (l ++ m)) true r) : @wpO (dBin .add (.list l) (.list m)) r ⟨q⟩ := by
  show @wpO (if l.length + m.length ≤ line then _ else _) r ⟨q⟩
  rw [if_pos h]; exact hq
theorem o_addT {l m : List D} (h : l.length + m.length ≤ line) (hq : q (.tuple (l ++ m)) false r) : @wpO (dBin .add (.tuple l) (.tuple m)) r ⟨q⟩ := by
  show @wpO (if l.length + m.length ≤ line then _ else _) r ⟨q⟩
  rw [if_pos h]; exact hq
theorem o_addS {l m : Str} (h : l.length + m.length ≤ line) (hq : q (.str (l ++ m)) false r) : @wpO (dBin .add (.str l) (.str m)) r ⟨q⟩ := by
  show @wpO (if l.length + m.length ≤ line then _ else _) r ⟨q⟩
  rw [if_pos h]; exact hq
theorem i_at {l : List D} {i : Int} {x : D} (h0 : 0 ≤ i) (h : l[i.toNat]? = some x) (hq : q x false r) : @wpD (dIdx (.list l) (.int i)) r ⟨q⟩ ∧ @wpD (dIdx (.tuple l) (.int i)) r ⟨q⟩ := by
  obtain ⟨n, rfl⟩ := Int.eq_ofNat_of_zero_le h0
  have hn : n < l.length := (List.getElem?_eq_some_iff.mp h).1
  exact ⟨(ixl h hn).symm ▸ hq, (ixt h hn).symm ▸ hq⟩
theorem i_atL {l : List D} {i : Int} {x : D} (h0 : 0 ≤ i) (h : l[i.toNat]? = some x) (hq : q x false r) : @wpD (dIdx (.list l) (.int i)) r ⟨q⟩ := (i_at h0 h hq).1
theorem i_atT {l : List D} {i : Int} {x : D} (h0 : 0 ≤ i) (h : l[i.toNat]? = some x) (hq : q x false r) : @wpD (dIdx (.tuple l) (.int i)) r ⟨q⟩ := (i_at h0 h hq).2
theorem rng_ok {i j : Int} {fr : Bool} (h : rngOk i j = true) (hq : q (.list (rangeD i j)) fr r) : @wpRng (.int i) (.int j) fr r ⟨q⟩ := ⟨h, hq⟩
theorem app_ {l : List D} {x : D} {i : Nat} (h : l.length < line) (hq : @setK r i (some (.o (.list (l ++ [x])))) N) : @wpMut .append (.list l) (.tuple [x]) i r N := ⟨h, hq⟩
theorem star_ {t : CT} {n : Nat} {l : List D} (h : n ≤ l.length) (hq : @bindK t (.tuple (l.take n ++ [.list (l.drop n)])) r N) : @wpStar t n (.tuple l) r N := ⟨h, hq⟩
theorem sset_ {l : List Int} (h : (usort l).length < 64) (h2 : l.length ≤ 4000) (hq : q (.list ((usort l).map .int)) true r) : @wpSset (.list (l.map .int)) r ⟨q⟩ := by
  unfold wpSset seqD
  simp only [intsOf_map]
  exact ⟨⟨h, h2⟩, hq⟩
theorem ssetT {l : List Int} (h : (usort l).length < 64) (h2 : l.length ≤ 4000) (hq : q (.list ((usort l).map .int)) true r) : @wpSset (.tuple (l.map .int)) r ⟨q⟩ := by
  unfold wpSset seqD
  simp only [intsOf_map]
  exact ⟨⟨h, h2⟩, hq⟩
theorem lset_ {l : List Int} (h2 : l.length ≤ 4000) (hq : q (.int (usort l).length) false r) : @wpLset (.list (l.map .int)) r ⟨q⟩ := by
  unfold wpLset seqD
  simp only [intsOf_map]
  exact ⟨h2, hq⟩
theorem lsetT {l : List Int} (h2 : l.length ≤ 4000) (hq : q (.int (usort l).length) false r) : @wpLset (.tuple (l.map .int)) r ⟨q⟩ := by
  unfold wpLset seqD
  simp only [intsOf_map]
  exact ⟨h2, hq⟩
theorem pop_ {l : List D} {k : Int} {i : Nat} {d : D} (h0 : 0 ≤ k) (h : l[k.toNat]? = some d) (h3 : k < 9223372036854775808) (hq : @setK r i (some (.o (.list (l.eraseIdx k.toNat)))) ⟨q d false⟩) : @wpPop (.int k) (.list l) i r ⟨q⟩ := by
  have hn : k.toNat < l.length := (List.getElem?_eq_some_iff.mp h).1
  unfold wpPop
  have e : L2.ixN l.length k = some k.toNat := by
    unfold L2.ixN
    rw [if_pos h0, if_pos (by omega)]
  simp only [e, h]
  rw [if_pos ⟨by omega, h3⟩]
  exact hq

/-! loops -/
theorem f_ind {items : List D} {t : CT} {body : CS} (I : List D → Ev → Prop) (h0 : I items r)
    (hs : ∀ x xs r, I (x :: xs) r → @bindK t x r ⟨fun r3 => @wpS (evS Ph body r3) ⟨I xs⟩ ⟨J.ret, N.k, I xs, J.exc⟩⟩) (hn : ∀ r, I [] r → N.k r) : @wpF Ph (.list items) t body r N J := by
  rw [← f_eq]
  unfold wpF'
  dsimp only
  induction items generalizing r with
  | nil => exact hn r h0
  | cons x xs ih =>
    have h := hs x xs r h0
    unfold bindK at h
    show @wpS (match stepF Ph t body x r with | .nx r1 => forLoop (stepF Ph t body) xs r1 | .cnt r1 => forLoop (stepF Ph t body) xs r1 | .brk r1 => .nx r1 | f => f) N J
    unfold stepF
    cases e : bindT t x r with
    | none => rw [e] at h; exact h.elim
    | some r3 =>
      rw [e] at h
      dsimp only at h ⊢
      cases e2 : evS Ph body r3 with
      | nx r4 => rw [e2] at h; exact ih h
      | cnt r4 => rw [e2] at h; exact ih h
      | brk r4 => rw [e2] at h; exact h
      | ret d fr r4 => rw [e2] at h; exact h
      | exc c fs r4 => rw [e2] at h; exact h
      | stuck => rw [e2] at h; exact h
theorem w_ind {n : Nat} {ld : List Nat} {t : CE} {body : CS} (I : Nat → Ev → Prop) (h0 : I n r)
    (hs : ∀ k r, I (k + 1) r → @wpM Ph [] ld t r ⟨fun d _ r1 => @wpT d ⟨@wpS (evS Ph body r1) ⟨I k⟩ ⟨J.ret, N.k, I k, J.exc⟩⟩ ⟨N.k r1⟩⟩ ⟨J.exc⟩) (hz : ∀ r, ¬I 0 r) : @wpW Ph n ld t body r N J := by
  rw [← w_eq]
  unfold wpW'
  induction n generalizing r with
  | zero => exact (hz r h0).elim
  | succ n ih =>
    have h := hs n r h0
    rw [← wp_evL] at h
    show @wpS (match evL Ph ld t r with | .ok d _ r1 => (match truth d with | some true => (match evS Ph body r1 with | .nx r2 => whileLoop (evL Ph ld t) (evS Ph body) n r2 | .cnt r2 => whileLoop (evL Ph ld t) (evS Ph body) n r2 | .brk r2 => .nx r2 | f => f) | some false => .nx r1 | none => .stuck) | .exc c fs r1 => .exc c fs r1 | .stuck => .stuck) N J
    cases e : evL Ph ld t r with
    | stuck => rw [e] at h; exact h
    | exc c fs r1 => rw [e] at h; exact h
    | ok d fr r1 =>
      rw [e] at h
      dsimp only [wp] at h ⊢
      unfold wpT at h
      rcases e3 : truth d with _ | _ | _
      · rw [e3] at h; exact h
      · rw [e3] at h; exact h
      · rw [e3] at h
        dsimp only at h ⊢
        cases e2 : evS Ph body r1 with
        | nx r4 => rw [e2] at h; exact ih h
        | cnt r4 => rw [e2] at h; exact ih h
        | brk r4 => rw [e2] at h; exact h
        | ret d fr r4 => rw [e2] at h; exact h
        | exc c fs r4 => rw [e2] at h; exact h
        | stuck => rw [e2] at h; exact h
theorem lc_gen {step : D → Ev → Out} {vs : List Nat} (I : List D → List D → Ev → Prop) (hs : ∀ x xs acc r, I (x :: xs) acc r → ∃ l r1, step x r = .ok (.tuple l) false r1 ∧ I xs (acc ++ l) (wipeE r1 vs)) :
    ∀ (items acc : List D) (r : Ev), I items acc r → ∃ l r1, lcLoop step vs items r = .ok (.list l) true r1 ∧ I [] (acc ++ l) r1
  | [], acc, r, h => ⟨[], r, rfl, by rwa [List.append_nil]⟩
  | x :: xs, acc, r, h => by
    obtain ⟨l, r1, e1, h1⟩ := hs x xs acc r h
    obtain ⟨l2, r2, e2, h2⟩ := lc_gen I hs xs _ _ h1
    refine ⟨l ++ l2, r2, ?_, by rw [← List.append_assoc]; exact h2⟩
    show (step x r).bind _ = _
    rw [e1]
    show (lcLoop step vs xs (wipeE r1 vs)).bind _ = _
    rw [e2]
    rfl
theorem lc_ind {items : List D} {elt : CE} {tg : CT} {ifs : CE} {vs : List Nat} (I : List D → List D → Ev → Prop) (h0 : I items [] (wipeE r vs))
    (hs : ∀ x xs acc r, I (x :: xs) acc r → @bindK tg x r ⟨fun r3 => @wp (ev Ph ifs r3) ⟨fun t _ r4 => @wpT t ⟨@wp (ev Ph elt r4) ⟨fun y _ r5 => I xs (acc ++ [y]) (wipeE r5 vs)⟩ ⟨fun _ _ _ => False⟩⟩ ⟨I xs acc (wipeE r4 vs)⟩⟩ ⟨fun _ _ _ => False⟩⟩)
    (hn : ∀ acc r1, I [] acc r1 → q (.list acc) true (backE r r1 vs)) : @wpLc Ph (.list items) elt tg ifs vs r ⟨q⟩ := by
  rw [← lc_eq]
  unfold wpLc'
  dsimp only
  obtain ⟨l, r1, e, h⟩ := lc_gen (vs := vs) (step := lcStep Ph elt tg ifs) I (fun x xs acc r h => by
      have h := hs x xs acc r h
      unfold bindK at h
      unfold lcStep
      cases e : bindT tg x r with
      | none => rw [e] at h; exact h.elim
      | some r3 =>
        rw [e] at h
        dsimp only at h ⊢
        cases e2 : ev Ph ifs r3 with
        | stuck => rw [e2] at h; exact h.elim
        | exc c fs r4 => rw [e2] at h; exact h.elim
        | ok t f r4 =>
          rw [e2] at h
          dsimp only [wp, Out.bind] at h ⊢
          unfold wpT at h
          rcases e3 : truth t with _ | _ | _
          · rw [e3] at h; exact h.elim
          · rw [e3] at h; exact ⟨[], r4, rfl, by rw [List.append_nil]; exact h⟩
          · rw [e3] at h
            dsimp only at h ⊢
            cases e4 : ev Ph elt r4 with
            | stuck => rw [e4] at h; exact h.elim
            | exc c fs r4 => rw [e4] at h; exact h.elim
            | ok y f r5 => rw [e4] at h; exact ⟨[y], r5, rfl, h⟩) items [] _ h0
  rw [e]
  exact hn _ _ h
theorem back_get : ∀ (vs : List Nat) (r0 r : Ev) (i : Nat), (∀ j, j ∉ vs → r[j]? = r0[j]?) → r.length = r0.length → (backE r0 r vs)[i]? = r0[i]?
  | [], r0, r, i, h, hl => h i (by simp)
  | v :: vs, r0, r, i, h, hl => by
    show ((backE r0 r vs).set v (r0[v]?.getD none))[i]? = _
    have hlen : ∀ (vs : List Nat) (r : Ev), (backE r0 r vs).length = r.length := by
      intro vs
      induction vs with
      | nil => intro r; rfl
      | cons v vs ih => intro r; show ((backE r0 r vs).set v _).length = _; rw [List.length_set]; exact ih r
    rw [List.getElem?_set]
    by_cases hv : v = i
    · subst hv
      rw [if_pos rfl, hlen, hl]
      by_cases h2 : v < r0.length
      · rw [if_pos h2, List.getElem?_eq_getElem h2]; rfl
      · rw [if_neg h2, List.getElem?_eq_none (by omega)]
    · rw [if_neg hv]
      have : ∀ (vs : List Nat) (r : Ev) (i : Nat), (∀ j, j ∉ vs → j ≠ v → r[j]? = r0[j]?) → r.length = r0.length → i ≠ v → (backE r0 r vs)[i]? = r0[i]? := by
        intro vs
        induction vs with
        | nil => intro r i h hl hi; exact h i (by simp) hi
        | cons w ws ih =>
          intro r i h hl hi
          show ((backE r0 r ws).set w (r0[w]?.getD none))[i]? = _
          rw [List.getElem?_set]
          by_cases hw : w = i
          · subst hw
            rw [if_pos rfl, hlen, hl]
            by_cases h2 : w < r0.length
            · rw [if_pos h2, List.getElem?_eq_getElem h2]; rfl
            · rw [if_neg h2, List.getElem?_eq_none (by omega)]
          · rw [if_neg hw]
            by_cases hm : ∀ j, j ∉ ws → j ≠ v → r[j]? = r0[j]?
            · exact ih r i hm hl hi
            · have g : ∀ (us : List Nat) (r : Ev) (i : Nat), (backE r0 r us)[i]? = (if i ∈ us then (if i < r.length then some (r0[i]?.getD none) else none) else r[i]?) := by
                intro us
                induction us with
                | nil => intro r i; rfl
                | cons u us ih2 =>
                  intro r i
                  show ((backE r0 r us).set u (r0[u]?.getD none))[i]? = _
                  rw [List.getElem?_set, hlen]
                  by_cases hu : u = i
                  · subst hu; simp
                  · rw [if_neg hu, ih2]
                    have : i ∈ u :: us ↔ i ∈ us := by simp [List.mem_cons, Ne.symm hu]
                    simp only [this]
              rw [g]
              by_cases hm2 : i ∈ ws
              · rw [if_pos hm2, hl]
                by_cases h2 : i < r0.length
                · rw [if_pos h2, List.getElem?_eq_getElem h2]; rfl
                · rw [if_neg h2, List.getElem?_eq_none (by omega)]
              · rw [if_neg hm2]
                exact h i (by simp [List.mem_cons, hm2]; exact fun z => hw z.symm) hi
      exact this vs r i (fun j hj hjv => h j (by simp [List.mem_cons, hj, hjv])) hl (Ne.symm hv)
theorem wipe_len (r : Ev) : ∀ vs : List Nat, (wipeE r vs).length = r.length
  | [] => rfl
  | v :: vs => by show ((wipeE r vs).set v none).length = _; rw [List.length_set]; exact wipe_len r vs
theorem wipe_get (r : Ev) : ∀ (vs : List Nat) (j : Nat), j ∉ vs → (wipeE r vs)[j]? = r[j]?
  | [], _, _ => rfl
  | v :: vs, j, h => by
    show ((wipeE r vs).set v none)[j]? = _
    rw [List.getElem?_set, if_neg (fun z => h (by rw [z]; exact List.mem_cons_self))]
    exact wipe_get r vs j fun z => h (List.mem_cons_of_mem _ z)
theorem back_wipe (r : Ev) (vs : List Nat) : backE r (wipeE r vs) vs = r := by
  refine List.ext_getElem? fun i => ?_
  exact back_get vs r _ i (fun j hj => wipe_get r vs j hj) (wipe_len r vs)
/-- an end that simp doesn't enter -/
def Dn [P : PK] : Prop := P.p
/-- a comprehension over encoded things that changes nothing -/
theorem lc_map {α : Type} {l : List α} {enc g : α → D} {elt : CE} {tg : CT} {vs : List Nat}
    (hs : ∀ x ∈ l, @bindK tg (enc x) (wipeE r vs) ⟨fun r3 => @wp (ev Ph elt r3) ⟨fun y _ r5 => @Dn ⟨y = g x ∧ wipeE r5 vs = wipeE r vs⟩⟩ ⟨fun _ _ _ => False⟩⟩)
    (hn : q (.list (l.map g)) true r) : @wpLc Ph (.list (l.map enc)) elt tg (.cst (.bool true)) vs r ⟨q⟩ := by
  refine lc_ind (fun rest acc r1 => r1 = wipeE r vs ∧ ∃ done more, l = done ++ more ∧ rest = more.map enc ∧ acc = done.map g) ⟨rfl, [], l, rfl, rfl, rfl⟩ (fun x xs acc r1 h => ?_) (fun acc r1 h => ?_)
  · obtain ⟨rfl, done, more, e1, e2, rfl⟩ := h
    cases more with
    | nil => cases e2
    | cons a more =>
      rw [List.map_cons] at e2
      cases e2
      have h := hs a (by rw [e1]; simp)
      unfold bindK at h ⊢
      cases e : bindT tg (enc a) (wipeE r vs) with
      | none => rw [e] at h; exact h.elim
      | some r3 =>
        rw [e] at h
        dsimp only at h ⊢
        rw [k_cst, t_t]
        cases e4 : ev Ph elt r3 with
        | stuck => rw [e4] at h; exact h.elim
        | exc c fs r4 => rw [e4] at h; exact h.elim
        | ok y f r5 =>
          rw [e4] at h
          obtain ⟨h1, h2⟩ := h
          exact ⟨h2, done ++ [a], more, by rw [e1]; simp, rfl, by rw [h1]; simp⟩
  · obtain ⟨rfl, done, more, e1, e2, rfl⟩ := h
    have : more = [] := by cases more with | nil => rfl | cons _ _ => cases e2
    subst this
    rw [List.append_nil] at e1
    subst e1
    rw [back_wipe]
    exact hn
theorem lc_fil {α : Type} {l : List α} {enc g : α → D} {p : α → Bool} {elt ifs : CE} {tg : CT} {vs : List Nat}
    (hs : ∀ x ∈ l, @bindK tg (enc x) (wipeE r vs) ⟨fun r3 => @wp (ev Ph ifs r3) ⟨fun t _ r4 => @wpT t ⟨@wp (ev Ph elt r4) ⟨fun y _ r5 => @Dn ⟨p x = true ∧ y = g x ∧ wipeE r5 vs = wipeE r vs⟩⟩ ⟨fun _ _ _ => False⟩⟩ ⟨@Dn ⟨p x = false ∧ wipeE r4 vs = wipeE r vs⟩⟩⟩ ⟨fun _ _ _ => False⟩⟩)
    (hn : q (.list ((l.filter p).map g)) true r) : @wpLc Ph (.list (l.map enc)) elt tg ifs vs r ⟨q⟩ := by
  refine lc_ind (fun rest acc r1 => r1 = wipeE r vs ∧ ∃ done more, l = done ++ more ∧ rest = more.map enc ∧ acc = (done.filter p).map g) ⟨rfl, [], l, rfl, rfl, rfl⟩ (fun x xs acc r1 h => ?_) (fun acc r1 h => ?_)
  · obtain ⟨rfl, done, more, e1, e2, rfl⟩ := h
    cases more with
    | nil => cases e2
    | cons a more =>
      rw [List.map_cons] at e2
      cases e2
      have h := hs a (by rw [e1]; simp)
      unfold bindK at h ⊢
      cases e : bindT tg (enc a) (wipeE r vs) with
      | none => rw [e] at h; exact h.elim
      | some r3 =>
        rw [e] at h
        dsimp only at h ⊢
        cases e3 : ev Ph ifs r3 with
        | stuck => rw [e3] at h; exact h.elim
        | exc c fs r4 => rw [e3] at h; exact h.elim
        | ok t f r4 =>
          rw [e3] at h
          dsimp only [wp] at h ⊢
          unfold wpT at h ⊢
          rcases e5 : truth t with _ | _ | _
          · rw [e5] at h; exact h
          · rw [e5] at h
            obtain ⟨h1, h2⟩ := h
            exact ⟨h2, done ++ [a], more, by rw [e1]; simp, rfl, by rw [List.filter_append]; simp [h1]⟩
          · rw [e5] at h
            dsimp only at h ⊢
            cases e4 : ev Ph elt r4 with
            | stuck => rw [e4] at h; exact h.elim
            | exc c fs r4 => rw [e4] at h; exact h.elim
            | ok y f r5 =>
              rw [e4] at h
              obtain ⟨h1, h2, h3⟩ := h
              exact ⟨h3, done ++ [a], more, by rw [e1]; simp, rfl, by rw [List.filter_append]; simp [h1, h2]⟩
  · obtain ⟨rfl, done, more, e1, e2, rfl⟩ := h
    have : more = [] := by cases more with | nil => rfl | cons _ _ => cases e2
    subst this
    rw [List.append_nil] at e1
    subst e1
    rw [back_wipe]
    exact hn
theorem lc_mapI {α : Type} {l : List α} {enc : α → D} {g : α → Int} {elt : CE} {tg : CT} {vs : List Nat}
    (hs : ∀ x ∈ l, @bindK tg (enc x) (wipeE r vs) ⟨fun r3 => @wp (ev Ph elt r3) ⟨fun y _ r5 => @Dn ⟨y = .int (g x) ∧ wipeE r5 vs = wipeE r vs⟩⟩ ⟨fun _ _ _ => False⟩⟩)
    (hn : q (.list ((l.map g).map .int)) true r) : @wpLc Ph (.list (l.map enc)) elt tg (.cst (.bool true)) vs r ⟨q⟩ :=
  lc_map (g := fun x => .int (g x)) hs (by rw [List.map_map] at hn; exact hn)
theorem lc_mapB {α : Type} {l : List α} {enc : α → D} {g : α → Bool} {elt : CE} {tg : CT} {vs : List Nat}
    (hs : ∀ x ∈ l, @bindK tg (enc x) (wipeE r vs) ⟨fun r3 => @wp (ev Ph elt r3) ⟨fun y _ r5 => @Dn ⟨y = .bool (g x) ∧ wipeE r5 vs = wipeE r vs⟩⟩ ⟨fun _ _ _ => False⟩⟩)
    (hn : q (.list ((l.map g).map .bool)) true r) : @wpLc Ph (.list (l.map enc)) elt tg (.cst (.bool true)) vs r ⟨q⟩ :=
  lc_map (g := fun x => .bool (g x)) hs (by rw [List.map_map] at hn; exact hn)
theorem lc_mapE {α β : Type} {l : List α} {enc : α → D} {encb : β → D} {g : α → β} {elt : CE} {tg : CT} {vs : List Nat}
    (hs : ∀ x ∈ l, @bindK tg (enc x) (wipeE r vs) ⟨fun r3 => @wp (ev Ph elt r3) ⟨fun y _ r5 => @Dn ⟨y = encb (g x) ∧ wipeE r5 vs = wipeE r vs⟩⟩ ⟨fun _ _ _ => False⟩⟩)
    (hn : q (.list ((l.map g).map encb)) true r) : @wpLc Ph (.list (l.map enc)) elt tg (.cst (.bool true)) vs r ⟨q⟩ :=
  lc_map (g := fun x => encb (g x)) hs (by rw [List.map_map] at hn; exact hn)
theorem lc_filI {α : Type} {l : List α} {enc : α → D} {g : α → Int} {p : α → Bool} {elt ifs : CE} {tg : CT} {vs : List Nat}
    (hs : ∀ x ∈ l, @bindK tg (enc x) (wipeE r vs) ⟨fun r3 => @wp (ev Ph ifs r3) ⟨fun t _ r4 => @wpT t ⟨@wp (ev Ph elt r4) ⟨fun y _ r5 => @Dn ⟨p x = true ∧ y = .int (g x) ∧ wipeE r5 vs = wipeE r vs⟩⟩ ⟨fun _ _ _ => False⟩⟩ ⟨@Dn ⟨p x = false ∧ wipeE r4 vs = wipeE r vs⟩⟩⟩ ⟨fun _ _ _ => False⟩⟩)
    (hn : q (.list (((l.filter p).map g).map .int)) true r) : @wpLc Ph (.list (l.map enc)) elt tg ifs vs r ⟨q⟩ :=
  lc_fil (g := fun x => .int (g x)) hs (by rw [List.map_map] at hn; exact hn)
theorem sc_gen {α : Type} {l : List α} {enc g : α → D} {elt : CE} {tg : CT} {vs : List Nat}
    (hs : ∀ x ∈ l, @bindK tg (enc x) (wipeE r vs) ⟨fun r3 => @wp (ev Ph elt r3) ⟨fun y _ r5 => @Dn ⟨y = g x ∧ wipeE r5 vs = wipeE r vs⟩⟩ ⟨fun _ _ _ => False⟩⟩) :
    lcLoop (scStep Ph elt tg) vs (l.map enc) (wipeE r vs) = .ok (.list (l.map g)) true (wipeE r vs) := by
  obtain ⟨m, r1, e, h⟩ := lc_gen (vs := vs) (step := scStep Ph elt tg) (fun rest acc r1 => r1 = wipeE r vs ∧ ∃ done more, l = done ++ more ∧ rest = more.map enc ∧ acc = done.map g) (fun x xs acc r1 h => by
    obtain ⟨rfl, done, more, e1, e2, rfl⟩ := h
    cases more with
    | nil => cases e2
    | cons a more =>
      rw [List.map_cons] at e2
      cases e2
      have h := hs a (by rw [e1]; simp)
      unfold bindK at h
      unfold scStep
      cases e : bindT tg (enc a) (wipeE r vs) with
      | none => rw [e] at h; exact h.elim
      | some r3 =>
        rw [e] at h
        dsimp only at h ⊢
        cases e4 : ev Ph elt r3 with
        | stuck => rw [e4] at h; exact h.elim
        | exc c fs r4 => rw [e4] at h; exact h.elim
        | ok y f r5 =>
          rw [e4] at h
          obtain ⟨h1, h2⟩ := h
          exact ⟨[y], r5, rfl, h2, done ++ [a], more, by rw [e1]; simp, rfl, by rw [h1]; simp⟩) (l.map enc) [] (wipeE r vs) ⟨rfl, [], l, rfl, rfl, rfl⟩
  obtain ⟨rfl, done, more, e1, e2, e3⟩ := h
  have : more = [] := by cases more with | nil => rfl | cons _ _ => cases e2
  subst this
  rw [List.append_nil] at e1
  subst e1
  rw [List.nil_append] at e3
  subst e3
  exact e
theorem lsc_map {α : Type} {l : List α} {enc : α → D} {g : α → Int} {elt : CE} {tg : CT} {vs : List Nat} (hl : l.length ≤ 4000)
    (hs : ∀ x ∈ l, @bindK tg (enc x) (wipeE r vs) ⟨fun r3 => @wp (ev Ph elt r3) ⟨fun y _ r5 => @Dn ⟨y = .int (g x) ∧ wipeE r5 vs = wipeE r vs⟩⟩ ⟨fun _ _ _ => False⟩⟩)
    (hn : q (.int (usort (l.map g)).length) false r) : @wpLsc Ph (.list (l.map enc)) elt tg vs r ⟨q⟩ := by
  unfold wpLsc
  dsimp only
  rw [sc_gen (g := fun x => .int (g x)) hs, ← (show (l.map g).map PyData.int = l.map fun x => .int (g x) by rw [List.map_map]; rfl)]
  dsimp only
  rw [intsOf_map, back_wipe]
  exact ⟨by rw [List.length_map]; exact hl, hn⟩
theorem sdc_map {α : Type} {l : List α} {enc : α → D} {g : α → Int} {elt : CE} {tg : CT} {vs : List Nat} (hl : (usort (l.map g)).length < 64)
    (hs : ∀ x ∈ l, @bindK tg (enc x) (wipeE r vs) ⟨fun r3 => @wp (ev Ph elt r3) ⟨fun y _ r5 => @Dn ⟨y = .int (g x) ∧ wipeE r5 vs = wipeE r vs⟩⟩ ⟨fun _ _ _ => False⟩⟩)
    (hn : q (.list ((usort (l.map g)).map .int)) true r) : @wpSdc Ph (.list (l.map enc)) elt tg vs r ⟨q⟩ := by
  unfold wpSdc
  dsimp only
  rw [sc_gen (g := fun x => .int (g x)) hs, ← (show (l.map g).map PyData.int = l.map fun x => .int (g x) by rw [List.map_map]; rfl)]
  dsimp only
  rw [intsOf_map, back_wipe]
  exact ⟨hl, hn⟩
end

/-! defs -/
/-- what a call gives that changes no first argument -/
def sat0' (x : Rs) (Q : D → Bool → Prop) : Prop := match x with | .ok d fr none => Q d fr | _ => False
def satI' (x : Rs) (Q : D → Bool → D → Prop) : Prop := match x with | .ok d fr (some c) => Q d fr c | _ => False
theorem c_of' {x : Rs} {r : Ev} {q : D → Bool → Ev → Prop} {E : XK} {Q : D → Bool → Prop} (h : sat0' x Q) (hq : ∀ d fr, Q d fr → q d fr r) : @wpC x r ⟨q⟩ E := by
  refine @wpC.mk _ _ ⟨q⟩ E ?_
  cases x with
  | ok d fr io => cases io with
    | none => exact hq d fr h
    | some c => exact h.elim
  | exc c fs io => exact h.elim
  | stuck => exact h.elim
theorem call_eq {x : Rs} {d : D} {fr : Bool} {r : Ev} {q : D → Bool → Ev → Prop} {E : XK} (h : x = .ok d fr none) (hq : q d fr r) : @wpC x r ⟨q⟩ E := by
  subst h; exact @wpC.mk _ _ ⟨q⟩ E hq
theorem fsel_ {tab : List (Str × Nat)} {i f : Nat} {s : Str} {r : Ev} {N : RK} (h : tab.lookup s = some f) (hq : @setK r i (some (.f f)) N) : @wpFsel tab i (.str s) r N := by
  unfold wpFsel
  simp only [h]
  exact hq
theorem ci_of' {x : Rs} {r : Ev} {i : Nat} {q : D → Bool → Ev → Prop} {E : XK} {Q : D → Bool → D → Prop} (h : satI' x Q) (hq : ∀ d fr c, Q d fr c → @setK r i (some (.o c)) ⟨q d fr⟩) : @wpCI x i r ⟨q⟩ E := by
  refine @wpCI.mk _ _ _ ⟨q⟩ E ?_
  cases x with
  | ok d fr io => cases io with
    | none => exact h.elim
    | some c => exact hq d fr c h
  | exc c fs io => exact h.elim
  | stuck => exact h.elim
theorem sat0_run' {T : List FD} {n f : Nat} {ds : List D} {nP nS : Nat} {body : CS} {Q : D → Bool → Prop} (hf : T[f]? = some ⟨nP, nS, false, body⟩) (hl : ds.length = nP)
    (h : @wpS (evS (Phi T n) body ((ds.map fun x => some (.p x)) ++ List.replicate (nS - nP) none)) ⟨fun _ => Q .none false⟩ ⟨fun d fr _ => Q d fr, fun _ => False, fun _ => False, fun _ _ _ => False⟩) : sat0' (Phi T (n + 1) f ds) Q := by
  show sat0' (match T[f]? with | some fd => runF (Phi T n) fd ds | none => .stuck) Q
  rw [hf]
  show sat0' (runF (Phi T n) _ ds) Q
  unfold runF
  rw [if_pos hl]
  have e : TP.start ⟨nP, nS, false, body⟩ ds = (ds.map fun x => some (.p x)) ++ List.replicate (nS - nP) none := by unfold TP.start; rfl
  rw [e]
  show sat0' (match evS (Phi T n) body _ with | .ret d fr r => doneR false d fr r | .nx r => doneR false .none false r | .exc c fs r => if false = true then _ else .exc c fs none | _ => .stuck) Q
  cases e2 : evS (Phi T n) body ((ds.map fun x => some (.p x)) ++ List.replicate (nS - nP) none) with
  | nx r => rw [e2] at h; exact h
  | ret d fr r => rw [e2] at h; exact h
  | brk r => rw [e2] at h; exact h.elim
  | cnt r => rw [e2] at h; exact h.elim
  | exc c fs r => rw [e2] at h; exact h.elim
  | stuck => rw [e2] at h; exact h.elim
theorem satI_run' {T : List FD} {n f : Nat} {d0 : D} {ds : List D} {nP nS : Nat} {body : CS} {Q : D → Bool → D → Prop} (hf : T[f]? = some ⟨nP, nS, true, body⟩) (hl : ds.length + 1 = nP)
    (h : @wpS (evS (Phi T n) body (some (.o d0) :: ((ds.map fun x => some (.p x)) ++ List.replicate (nS - nP) none))) ⟨fun r => @getOK r 0 ⟨fun c => Q .none false c⟩⟩ ⟨fun d fr r => @getOK r 0 ⟨fun c => Q d fr c⟩, fun _ => False, fun _ => False, fun _ _ _ => False⟩) : satI' (Phi T (n + 1) f (d0 :: ds)) Q := by
  show satI' (match T[f]? with | some fd => runF (Phi T n) fd (d0 :: ds) | none => .stuck) Q
  rw [hf]
  show satI' (runF (Phi T n) _ (d0 :: ds)) Q
  unfold runF
  rw [if_pos (by rw [← hl]; rfl)]
  have e : TP.start ⟨nP, nS, true, body⟩ (d0 :: ds) = some (.o d0) :: ((ds.map fun x => some (.p x)) ++ List.replicate (nS - nP) none) := rfl
  rw [e]
  have dn : ∀ d fr r, @getOK r 0 ⟨fun c => Q d fr c⟩ → satI' (doneR true d fr r) Q := fun d fr r h => by
    unfold getOK at h
    unfold doneR
    rw [if_pos rfl]
    cases e : getO r 0 with
    | none => rw [e] at h; exact h.elim
    | some c => rw [e] at h; exact h
  cases e2 : evS (Phi T n) body (some (.o d0) :: ((ds.map fun x => some (.p x)) ++ List.replicate (nS - nP) none)) with
  | nx r => rw [e2] at h; exact dn _ _ _ h
  | ret d fr r => rw [e2] at h; exact dn _ _ _ h
  | brk r => rw [e2] at h; exact h.elim
  | cnt r => rw [e2] at h; exact h.elim
  | exc c fs r => rw [e2] at h; exact h.elim
  | stuck => rw [e2] at h; exact h.elim
theorem sat0_eq' {x : Rs} {d : D} {fr : Bool} : sat0' x (fun d' fr' => @Dn ⟨d' = d ∧ fr' = fr⟩) ↔ x = .ok d fr none := by
  constructor
  · intro h
    cases x with
    | ok d' fr' io => cases io with
      | none => obtain ⟨rfl, rfl⟩ := h; rfl
      | some c => exact h.elim
    | exc c fs io => exact h.elim
    | stuck => exact h.elim
  · intro h; subst h; exact ⟨rfl, rfl⟩
theorem sat0_mono' {x : Rs} {Q Q' : D → Bool → Prop} (h : sat0' x Q) (hq : ∀ d fr, Q d fr → Q' d fr) : sat0' x Q' := by
  cases x with
  | ok d fr io => cases io with
    | none => exact hq d fr h
    | some c => exact h.elim
  | exc c fs io => exact h.elim
  | stuck => exact h.elim
theorem satI_mono' {x : Rs} {Q Q' : D → Bool → D → Prop} (h : satI' x Q) (hq : ∀ d fr c, Q d fr c → Q' d fr c) : satI' x Q' := by
  cases x with
  | ok d fr io => cases io with
    | none => exact h.elim
    | some c => exact hq d fr c h
  | exc c fs io => exact h.elim
  | stuck => exact h.elim


/-- what a call gives that changes no first argument -/
structure sat0 (x : Rs) (Q : D → Bool → Prop) : Prop where
  out : sat0' x Q
structure satI (x : Rs) (Q : D → Bool → D → Prop) : Prop where
  out : satI' x Q
theorem c_of {x : Rs} {r : Ev} {q : D → Bool → Ev → Prop} {E : XK} {Q : D → Bool → Prop} (h : sat0 x Q) (hq : ∀ d fr, Q d fr → q d fr r) : @wpC x r ⟨q⟩ E := c_of' h.out hq
theorem ci_of {x : Rs} {r : Ev} {i : Nat} {q : D → Bool → Ev → Prop} {E : XK} {Q : D → Bool → D → Prop} (h : satI x Q) (hq : ∀ d fr c, Q d fr c → @setK r i (some (.o c)) ⟨q d fr⟩) : @wpCI x i r ⟨q⟩ E := ci_of' h.out hq
theorem sat0_run {T : List FD} {n f : Nat} {ds : List D} {nP nS : Nat} {body : CS} {Q : D → Bool → Prop} (hf : T[f]? = some ⟨nP, nS, false, body⟩) (hl : ds.length = nP)
    (h : @wpS (evS (Phi T n) body ((ds.map fun x => some (.p x)) ++ List.replicate (nS - nP) none)) ⟨fun _ => Q .none false⟩ ⟨fun d fr _ => Q d fr, fun _ => False, fun _ => False, fun _ _ _ => False⟩) : sat0 (Phi T (n + 1) f ds) Q := ⟨sat0_run' hf hl h⟩
theorem satI_run {T : List FD} {n f : Nat} {d0 : D} {ds : List D} {nP nS : Nat} {body : CS} {Q : D → Bool → D → Prop} (hf : T[f]? = some ⟨nP, nS, true, body⟩) (hl : ds.length + 1 = nP)
    (h : @wpS (evS (Phi T n) body (some (.o d0) :: ((ds.map fun x => some (.p x)) ++ List.replicate (nS - nP) none))) ⟨fun r => @getOK r 0 ⟨fun c => Q .none false c⟩⟩ ⟨fun d fr r => @getOK r 0 ⟨fun c => Q d fr c⟩, fun _ => False, fun _ => False, fun _ _ _ => False⟩) : satI (Phi T (n + 1) f (d0 :: ds)) Q := ⟨satI_run' hf hl h⟩
theorem sat0_eq {x : Rs} {d : D} {fr : Bool} : sat0 x (fun d' fr' => @Dn ⟨d' = d ∧ fr' = fr⟩) ↔ x = .ok d fr none := ⟨fun h => sat0_eq'.mp h.out, fun h => ⟨sat0_eq'.mpr h⟩⟩
theorem sat0.mono {x : Rs} {Q Q' : D → Bool → Prop} (h : sat0 x Q) (hq : ∀ d fr, Q d fr → Q' d fr) : sat0 x Q' := ⟨sat0_mono' h.out hq⟩
theorem satI.mono {x : Rs} {Q Q' : D → Bool → D → Prop} (h : satI x Q) (hq : ∀ d fr c, Q d fr c → Q' d fr c) : satI x Q' := ⟨satI_mono' h.out hq⟩

/-! texts -/
theorem toNat_inj : ∀ {a b : List Char}, a.map Char.toNat = b.map Char.toNat → a = b
  | [], [], _ => rfl
  | [], _ :: _, h => by cases h
  | _ :: _, [], h => by cases h
  | x :: a, y :: b, h => by
    simp only [List.map_cons, List.cons.injEq] at h
    rw [toNat_inj h.2]
    congr 1
    exact Char.ext (UInt32.toNat_inj.mp h.1)
theorem ofS_inj {a b : String} : ((Str.ofString a) = (Str.ofString b)) = (a = b) := by --sp
  refine propext ⟨fun h => ?_, fun h => by rw [h]⟩
  rw [Str.ofString_eq_toList, Str.ofString_eq_toList] at h
  have h2 := congrArg (fun s => s.cps.toList) h
  simp only [] at h2
  have h3 := toNat_inj h2
  exact String.toList_inj.mp h3
theorem fs_cons {a s : String} {f i : Nat} {tab : List (Str × Nat)} {r : Ev} {N : RK} : @wpFsel ((Str.ofString a, f) :: tab) i (.str (Str.ofString s)) r N = @cnd (decide (s = a)) ⟨@setK r i (some (.f f)) N⟩ ⟨@wpFsel tab i (.str (Str.ofString s)) r N⟩ := by
  unfold wpFsel
  dsimp only
  rw [List.lookup_cons]
  by_cases h : s = a
  · subst h
    rw [decide_eq_true rfl, beq_self_eq_true]
    rfl
  · rw [decide_eq_false h, beq_false_of_ne (fun z => h (by rwa [ofS_inj] at z))]
    rfl
theorem shp {d : D} (h : d.canLay0 = true) (h2 : d.depth ≤ 64) : shapedD d = true := by
  show (d.canLay0 && decide (d.depth ≤ 64)) = true
  rw [h, decide_eq_true h2]; rfl
theorem c_eqS {a b : Str} {r : Ev} {q : D → Bool → Ev → Prop} (ha : shapedD (.str a) = true) (hb : shapedD (.str b) = true) (h : q (.bool (decide (a = b))) false r) : @wpB (dCmp .eq (.str a) (.str b)) r ⟨q⟩ := by
  show @wpB (if (shapedD _ && shapedD _) = true then some (PyData.eqv (.str a) (.str b)) else none) r ⟨q⟩
  rw [if_pos (by rw [ha, hb]; rfl)]
  have : PyData.eqv (.str a) (.str b) = decide (a = b) := eqvS
  rw [this]; exact h
theorem c_neS {a b : Str} {r : Ev} {q : D → Bool → Ev → Prop} (ha : shapedD (.str a) = true) (hb : shapedD (.str b) = true) (h : q (.bool (!decide (a = b))) false r) : @wpB (dCmp .ne (.str a) (.str b)) r ⟨q⟩ := by
  show @wpB (if (shapedD _ && shapedD _) = true then some (!PyData.eqv (.str a) (.str b)) else none) r ⟨q⟩
  rw [if_pos (by rw [ha, hb]; rfl)]
  have : PyData.eqv (.str a) (.str b) = decide (a = b) := eqvS
  rw [this]; exact h
theorem c_eqG {x y : D} {r : Ev} {q : D → Bool → Ev → Prop} (ha : shapedD x = true) (hb : shapedD y = true) (h : q (.bool (PyData.eqv x y)) false r) : @wpB (dCmp .eq x y) r ⟨q⟩ := by
  show @wpB (if (shapedD _ && shapedD _) = true then some (PyData.eqv x y) else none) r ⟨q⟩
  rw [if_pos (by rw [ha, hb]; rfl)]; exact h
theorem c_neG {x y : D} {r : Ev} {q : D → Bool → Ev → Prop} (ha : shapedD x = true) (hb : shapedD y = true) (h : q (.bool (!PyData.eqv x y)) false r) : @wpB (dCmp .ne x y) r ⟨q⟩ := by
  show @wpB (if (shapedD _ && shapedD _) = true then some (!PyData.eqv x y) else none) r ⟨q⟩
  rw [if_pos (by rw [ha, hb]; rfl)]; exact h
end TQ

set_option Elab.async false
set_option linter.all false
set_option maxRecDepth 100000
/-! TPv: facts of values: what can be compared, lists of encoded things, texts of ints. -/
namespace TQ
open PySem TP

/-! ### what can be compared -/
/-- no dict within, its texts good, at most so deep -/
def Shp (k : Nat) (d : D) : Prop := d.canLay0 = true ∧ d.depth ≤ k
theorem Shp.int {k : Nat} {i : Int} : Shp k (.int i) := ⟨by simp [PyData.canLay0], by simp [PyData.depth]⟩
theorem Shp.bool {k : Nat} {i : Bool} : Shp k (.bool i) := ⟨by simp [PyData.canLay0], by simp [PyData.depth]⟩
theorem Shp.none {k : Nat} : Shp k .none := ⟨by simp [PyData.canLay0], by simp [PyData.depth]⟩
theorem ofS_ok (a : String) : PySem.PyData.strOk (Str.ofString a) = true := by
  unfold PySem.PyData.strOk
  rw [Str.ofString_eq_toList, Array.all_eq_true']
  intro x hx
  have hx2 : x ∈ (a.toList.map Char.toNat) := by simpa using hx
  obtain ⟨c, _, rfl⟩ := List.mem_map.mp hx2
  have := c.valid
  have h2 : c.toNat < 0x110000 := by
    rcases this with h | ⟨h1, h2⟩
    · show c.val.toNat < _
      have : c.val.toNat < 0xd800 := h
      omega
    · exact h2
  exact decide_eq_true h2
theorem Shp.str {k : Nat} {a : String} : Shp k (.str (Str.ofString a)) := ⟨by rw [PyData.canLay0]; exact ofS_ok a, by simp [PyData.depth]⟩
theorem Shp.strOf {k : Nat} {a : Str} (h : PySem.PyData.strOk a = true) : Shp k (.str a) := ⟨by rw [PyData.canLay0]; exact h, by simp [PyData.depth]⟩
theorem shpAll {k : Nat} : ∀ {l : List D}, (∀ x ∈ l, Shp k x) → PyData.canLayAll0 l = true ∧ PyData.depthAll l ≤ k
  | [], _ => ⟨by rw [PyData.canLayAll0], by rw [PyData.depthAll]; omega⟩
  | x :: l, h => by
    have h1 := h x List.mem_cons_self
    have h2 := shpAll fun y hy => h y (List.mem_cons_of_mem _ hy)
    exact ⟨by rw [PyData.canLayAll0, h1.1, h2.1]; rfl, by rw [PyData.depthAll]; exact Nat.max_le.mpr ⟨h1.2, h2.2⟩⟩
theorem Shp.list {k : Nat} {l : List D} (h : ∀ x ∈ l, Shp k x) : Shp (k + 1) (.list l) := by
  have := shpAll h
  exact ⟨by rw [PyData.canLay0]; exact this.1, by rw [PyData.depth]; omega⟩
theorem Shp.tup {k : Nat} {l : List D} (h : ∀ x ∈ l, Shp k x) : Shp (k + 1) (.tuple l) := by
  have := shpAll h
  exact ⟨by rw [PyData.canLay0]; exact this.1, by rw [PyData.depth]; omega⟩
theorem Shp.mono {k m : Nat} {d : D} (h : Shp k d) (hk : k ≤ m) : Shp m d := ⟨h.1, Nat.le_trans h.2 hk⟩
theorem Shp.ok {k : Nat} {d : D} (h : Shp k d) (hk : k ≤ 64) : shapedD d = true := shp h.1 (Nat.le_trans h.2 hk)
theorem all_map {α : Type} {l : List α} {enc : α → D} {P : D → Prop} (h : ∀ x ∈ l, P (enc x)) : ∀ y ∈ l.map enc, P y := by
  intro y hy
  obtain ⟨x, hx, rfl⟩ := List.mem_map.mp hy
  exact h x hx
theorem all_nil {P : D → Prop} : ∀ y ∈ ([] : List D), P y := by intro y hy; cases hy
theorem all_cons {P : D → Prop} {x : D} {l : List D} (h : P x) (h2 : ∀ y ∈ l, P y) : ∀ y ∈ x :: l, P y := by
  intro y hy
  rcases List.mem_cons.mp hy with e | e
  · rw [e]; exact h
  · exact h2 y e
theorem Shp.ints {k : Nat} {l : List Int} : Shp (k + 1) (.list (l.map .int)) := .list (all_map fun _ _ => .int)
theorem Shp.intsT {k : Nat} {l : List Int} : Shp (k + 1) (.tuple (l.map .int)) := .tup (all_map fun _ _ => .int)

/-! ### equality -/
theorem eqvAll_map {α : Type} {enc : α → D} [DecidableEq α] : ∀ {l m : List α}, (∀ a ∈ l, ∀ b, PyData.eqv (enc a) (enc b) = decide (a = b)) → PyData.eqvAll (l.map enc) (m.map enc) = decide (l = m)
  | [], [], _ => by simp [PyData.eqvAll]
  | [], _ :: _, _ => by simp [PyData.eqvAll]
  | _ :: _, [], _ => by simp [PyData.eqvAll]
  | a :: l, b :: m, h => by
    rw [List.map_cons, List.map_cons, PyData.eqvAll, h a List.mem_cons_self b, eqvAll_map fun a ha => h a (List.mem_cons_of_mem _ ha)]
    by_cases h1 : a = b <;> by_cases h2 : l = m <;> simp [h1, h2]
theorem eqv_listI {l m : List Int} : PyData.eqv (.list (l.map .int)) (.list (m.map .int)) = decide (l = m) := by
  rw [PyData.eqv]; exact eqvAll_map fun a _ b => eqvI
theorem eqv_tupI {l m : List Int} : PyData.eqv (.tuple (l.map .int)) (.tuple (m.map .int)) = decide (l = m) := by
  rw [PyData.eqv]; exact eqvAll_map fun a _ b => eqvI
theorem any_map {α : Type} {enc : α → D} [DecidableEq α] {x : α} : ∀ {l : List α}, (∀ a ∈ l, PyData.eqv (enc a) (enc x) = decide (a = x)) → ((l.map enc).any fun z => PyData.eqv z (enc x)) = decide (x ∈ l)
  | [], _ => by simp
  | a :: l, h => by
    rw [List.map_cons, List.any_cons, h a List.mem_cons_self, any_map fun a ha => h a (List.mem_cons_of_mem _ ha)]
    by_cases h1 : a = x
    · subst h1; simp
    · simp [h1, Ne.symm h1]
section
variable {r : Ev} {q : D → Bool → Ev → Prop}
theorem c_in {x : D} {l : List D} (h1 : shapedD x = true) (h2 : shapedD (.list l) = true) (hq : q (.bool (l.any fun z => PyData.eqv z x)) false r) : @wpB (dCmp .isin x (.list l)) r ⟨q⟩ := by
  show @wpB (if (shapedD _ && shapedD _) = true then some (l.any fun z => PyData.eqv z x) else none) r ⟨q⟩
  rw [if_pos (by rw [h1, h2]; rfl)]; exact hq
theorem c_inT {x : D} {l : List D} (h1 : shapedD x = true) (h2 : shapedD (.tuple l) = true) (hq : q (.bool (l.any fun z => PyData.eqv z x)) false r) : @wpB (dCmp .isin x (.tuple l)) r ⟨q⟩ := by
  show @wpB (if (shapedD _ && shapedD _) = true then some (l.any fun z => PyData.eqv z x) else none) r ⟨q⟩
  rw [if_pos (by rw [h1, h2]; rfl)]; exact hq
theorem c_ni {x : D} {l : List D} (h1 : shapedD x = true) (h2 : shapedD (.list l) = true) (hq : q (.bool (!l.any fun z => PyData.eqv z x)) false r) : @wpB (dCmp .notin x (.list l)) r ⟨q⟩ := by
  show @wpB (if (shapedD _ && shapedD _) = true then some (!l.any fun z => PyData.eqv z x) else none) r ⟨q⟩
  rw [if_pos (by rw [h1, h2]; rfl)]; exact hq
theorem c_niT {x : D} {l : List D} (h1 : shapedD x = true) (h2 : shapedD (.tuple l) = true) (hq : q (.bool (!l.any fun z => PyData.eqv z x)) false r) : @wpB (dCmp .notin x (.tuple l)) r ⟨q⟩ := by
  show @wpB (if (shapedD _ && shapedD _) = true then some (!l.any fun z => PyData.eqv z x) else none) r ⟨q⟩
  rw [if_pos (by rw [h1, h2]; rfl)]; exact hq
theorem eq_iff_of {p : Prop} {a b : Prop} (h : p) (h2 : p → (a ↔ b)) : a = b := propext (h2 h)
theorem i_inL {i : Int} {l : List Int} : @wpB (dCmp .isin (.int i) (.list (l.map .int))) r ⟨q⟩ = q (.bool (decide (i ∈ l))) false r := by --s
  show @wpB (if (shapedD _ && shapedD _) = true then some ((l.map PyData.int).any fun z => PyData.eqv z (.int i)) else none) r ⟨q⟩ = _
  rw [if_pos (by rw [(Shp.int (k := 0)).ok (by decide), (Shp.ints (k := 0)).ok (by decide)]; rfl), any_map fun a _ => eqvI]
  rfl
theorem i_inT {i : Int} {l : List Int} : @wpB (dCmp .isin (.int i) (.tuple (l.map .int))) r ⟨q⟩ = q (.bool (decide (i ∈ l))) false r := by --s
  show @wpB (if (shapedD _ && shapedD _) = true then some ((l.map PyData.int).any fun z => PyData.eqv z (.int i)) else none) r ⟨q⟩ = _
  rw [if_pos (by rw [(Shp.int (k := 0)).ok (by decide), (Shp.intsT (k := 0)).ok (by decide)]; rfl), any_map fun a _ => eqvI]
  rfl
theorem i_niL {i : Int} {l : List Int} : @wpB (dCmp .notin (.int i) (.list (l.map .int))) r ⟨q⟩ = q (.bool (!decide (i ∈ l))) false r := by --s
  show @wpB (if (shapedD _ && shapedD _) = true then some (!(l.map PyData.int).any fun z => PyData.eqv z (.int i)) else none) r ⟨q⟩ = _
  rw [if_pos (by rw [(Shp.int (k := 0)).ok (by decide), (Shp.ints (k := 0)).ok (by decide)]; rfl), any_map fun a _ => eqvI]
  rfl
theorem i_niT {i : Int} {l : List Int} : @wpB (dCmp .notin (.int i) (.tuple (l.map .int))) r ⟨q⟩ = q (.bool (!decide (i ∈ l))) false r := by --s
  show @wpB (if (shapedD _ && shapedD _) = true then some (!(l.map PyData.int).any fun z => PyData.eqv z (.int i)) else none) r ⟨q⟩ = _
  rw [if_pos (by rw [(Shp.int (k := 0)).ok (by decide), (Shp.intsT (k := 0)).ok (by decide)]; rfl), any_map fun a _ => eqvI]
  rfl
theorem i_inL0 {i : Int} : @wpB (dCmp .isin (.int i) (.list [])) r ⟨q⟩ = q (.bool false) false r := by --s
  have := i_inL (i := i) (l := []) (r := r) (q := q)
  simpa using this
theorem i_inT0 {i : Int} : @wpB (dCmp .isin (.int i) (.tuple [])) r ⟨q⟩ = q (.bool false) false r := by --s
  have := i_inT (i := i) (l := []) (r := r) (q := q)
  simpa using this
theorem o_eqSS {a b : String} : @wpB (dCmp .eq (.str (Str.ofString a)) (.str (Str.ofString b))) r ⟨q⟩ = q (.bool (decide (a = b))) false r := by --s
  show @wpB (if (shapedD _ && shapedD _) = true then some (PyData.eqv (.str (Str.ofString a)) (.str (Str.ofString b))) else none) r ⟨q⟩ = _
  rw [if_pos (by rw [(Shp.str (k := 0)).ok (by decide), (Shp.str (k := 0)).ok (by decide)]; rfl), eqvS]
  simp only [ofS_inj]
  rfl
theorem o_neSS {a b : String} : @wpB (dCmp .ne (.str (Str.ofString a)) (.str (Str.ofString b))) r ⟨q⟩ = q (.bool (!decide (a = b))) false r := by --s
  show @wpB (if (shapedD _ && shapedD _) = true then some (!PyData.eqv (.str (Str.ofString a)) (.str (Str.ofString b))) else none) r ⟨q⟩ = _
  rw [if_pos (by rw [(Shp.str (k := 0)).ok (by decide), (Shp.str (k := 0)).ok (by decide)]; rfl), eqvS]
  simp only [ofS_inj]
  rfl
theorem o_eqLL {l m : List Int} : @wpB (dCmp .eq (.list (l.map .int)) (.list (m.map .int))) r ⟨q⟩ = q (.bool (decide (l = m))) false r := by --s
  show @wpB (if (shapedD _ && shapedD _) = true then some (PyData.eqv (.list (l.map .int)) (.list (m.map .int))) else none) r ⟨q⟩ = _
  rw [if_pos (by rw [(Shp.ints (k := 0)).ok (by decide), (Shp.ints (k := 0)).ok (by decide)]; rfl), eqv_listI]
  rfl
theorem o_eqTT {l m : List Int} : @wpB (dCmp .eq (.tuple (l.map .int)) (.tuple (m.map .int))) r ⟨q⟩ = q (.bool (decide (l = m))) false r := by --s
  show @wpB (if (shapedD _ && shapedD _) = true then some (PyData.eqv (.tuple (l.map .int)) (.tuple (m.map .int))) else none) r ⟨q⟩ = _
  rw [if_pos (by rw [(Shp.intsT (k := 0)).ok (by decide), (Shp.intsT (k := 0)).ok (by decide)]; rfl), eqv_tupI]
  rfl

/-! ### texts of ints -/
theorem digits_le : ∀ (k n : Nat), n < 10 ^ k → (Nat.toDigits 10 n).length ≤ k + 1
  | 0, n, h => by
    have : n = 0 := by simpa using h
    subst this
    rw [Nat.toDigits_zero]; exact Nat.le_refl _
  | k + 1, n, h => by
    rw [Nat.toDigits_eq_if (by decide)]
    split
    · simp
    · rw [List.length_append]
      have := digits_le k (n / 10) (by rw [Nat.div_lt_iff_lt_mul (by decide)]; rw [Nat.pow_succ] at h; exact h)
      simp only [List.length_cons, List.length_nil]
      omega
theorem ofS_len (a : String) : (Str.ofString a).length = a.length := by
  rw [Str.ofString_eq_toList]
  show (a.toList.map Char.toNat).toArray.size = _
  rw [List.size_toArray, List.length_map, String.length_toList]
theorem int_len {i : Int} (h : smallI i = true) : (Str.ofString (toString i)).length ≤ 22 := by
  rw [ofS_len]
  unfold smallI pw64 at h
  simp only [Bool.and_eq_true, decide_eq_true_eq] at h
  rw [Int.toString_eq_repr, Int.repr_eq_if]
  split
  · rw [Nat.repr_eq_ofList_toDigits, String.length_ofList]
    have := digits_le 20 i.toNat (by omega)
    omega
  · rw [String.length_append, Nat.repr_eq_ofList_toDigits]
    have := digits_le 20 (-i).toNat (by omega)
    have e : ("-" : String).length = 1 := rfl
    rw [e, String.length_ofList]
    omega
end
/-! ### repr of lists of ints -/
theorem app_len (a b : Str) : (a ++ b).length = a.length + b.length := by
  show (a.cps ++ b.cps).size = a.cps.size + b.cps.size
  exact Array.size_append
theorem app_ok {a b : Str} (ha : PyData.strOk a = true) (hb : PyData.strOk b = true) : PyData.strOk (a ++ b) = true := by
  show (a.cps ++ b.cps).all _ = true
  rw [Array.all_append]
  unfold PyData.strOk at ha hb
  rw [ha, hb]; rfl
theorem join_len {k : Nat} : ∀ {l : List Str}, (∀ x ∈ l, x.length ≤ k) → (Str.join ", " l).length ≤ l.length * (k + 2)
  | [], _ => by show (0 : Nat) ≤ _; omega
  | [x], h => by
    have := h x List.mem_cons_self
    show x.length ≤ _
    simp only [List.length_cons, List.length_nil]; omega
  | x :: y :: l, h => by
    have h1 := h x List.mem_cons_self
    have h2 := join_len (l := y :: l) fun z hz => h z (List.mem_cons_of_mem _ hz)
    show (x ++ (", " : Str) ++ Str.join ", " (y :: l)).length ≤ _
    rw [app_len, app_len]
    have e : (Str.ofString ", ").length = 2 := by rw [ofS_len]; rfl
    rw [e]
    rw [List.length_cons, Nat.add_mul]
    omega
theorem join_ok : ∀ {l : List Str}, (∀ x ∈ l, PyData.strOk x = true) → PyData.strOk (Str.join ", " l) = true
  | [], _ => by show PyData.strOk Str.empty = true; decide +kernel
  | [x], h => h x List.mem_cons_self
  | x :: y :: l, h => by
    show PyData.strOk (x ++ (", " : Str) ++ Str.join ", " (y :: l)) = true
    exact app_ok (app_ok (h x List.mem_cons_self) (ofS_ok _)) (join_ok fun z hz => h z (List.mem_cons_of_mem _ hz))
theorem shownAll_of {P : Str → Prop} : ∀ {l : List D}, (∀ d ∈ l, P d.shown) → ∀ x ∈ PyData.shownAll l, P x
  | [], _, x, hx => by rw [PyData.shownAll] at hx; cases hx
  | d :: l, h, x, hx => by
    rw [PyData.shownAll_cons] at hx
    rcases List.mem_cons.mp hx with e | e
    · rw [e]; exact h d List.mem_cons_self
    · exact shownAll_of (fun y hy => h y (List.mem_cons_of_mem _ hy)) x e
theorem ints_shown_ok {l : List Int} : PyData.strOk (PyData.list (l.map .int)).shown = true := by
  rw [PyData.shown_list]
  refine app_ok (app_ok (ofS_ok _) (join_ok (shownAll_of (P := fun x => PyData.strOk x = true) fun d hd => ?_))) (ofS_ok _)
  obtain ⟨i, _, rfl⟩ := List.mem_map.mp hd
  rw [PyData.shown_int]
  exact ofS_ok _
theorem ints_shown_len {l : List Int} (h : ∀ x ∈ l, smallI x = true) : (PyData.list (l.map .int)).shown.length ≤ 24 * l.length + 2 := by
  rw [PyData.shown_list, app_len, app_len]
  have e1 : (Str.ofString "[").length = 1 := by rw [ofS_len]; rfl
  have e2 : (Str.ofString "]").length = 1 := by rw [ofS_len]; rfl
  have h3 := join_len (k := 22) (l := PyData.shownAll (l.map .int)) (shownAll_of (P := fun x => x.length ≤ 22) fun d hd => by
    obtain ⟨i, hi, rfl⟩ := List.mem_map.mp hd
    rw [PyData.shown_int]
    exact int_len (h i hi))
  rw [PyData.shownAll_length, List.length_map] at h3
  rw [e1, e2]
  omega
theorem small_log {i : Int} (h : smallI i = true) : i.natAbs.log2 < 1920 := by
  unfold smallI pw64 at h
  simp only [Bool.and_eq_true, decide_eq_true_eq] at h
  by_cases h0 : i.natAbs = 0
  · rw [h0]; decide
  · have : i.natAbs.log2 < 64 := (Nat.log2_lt h0).mpr (by omega)
    omega
theorem u_reprI {l : List Int} {r : Ev} {q : D → Bool → Ev → Prop} (h : ∀ x ∈ l, smallI x = true) (hl : l.length ≤ 100000) (hq : q (.str (PyData.list (l.map .int)).shown) false r) : @wpO (dBi .repr [.list (l.map .int)]) r ⟨q⟩ := by
  have h1 : (PyData.list (l.map .int)).showable = true := by
    rw [PyData.showable]
    exact PyData.showableAll_ints l fun n hn => small_log (h n hn)
  have h2 := ints_shown_len h
  have h3 : line = 16777216 := rfl
  show @wpO (if (shapedD _ && PyData.showable _ && decide (_ ≤ line)) = true then _ else _) r ⟨q⟩
  rw [if_pos (by rw [(Shp.ints (k := 0)).ok (by decide), h1, decide_eq_true (by omega)]; rfl)]
  exact hq
theorem shp_shown {l : List Int} : shapedD (.str (PyData.list (l.map .int)).shown) = true := (Shp.strOf (k := 0) ints_shown_ok).ok (by decide)
theorem ofS_beq {a b : String} : (Str.ofString a == Str.ofString b) = decide (a = b) := by
  by_cases h : a = b
  · subst h; simp
  · rw [decide_eq_false h, beq_false_of_ne (fun z => h (by rwa [ofS_inj] at z))]
theorem dget_ {ks : List Str} {l : List D} {s : Str} {z d : D} {r : Ev} {q : D → Bool → Ev → Prop} (h : l.length = ks.length) (he : ((ks.zip l).lookup s).getD z = d) (hq : q d false r) : @wpDget ks (.tuple l) (.str s) z r ⟨q⟩ := by
  subst he
  exact ⟨h, hq⟩
theorem eqvL0 {l : List D} : PyData.eqv (.list l) (.list []) = l.isEmpty := by
  rw [PyData.eqv]
  cases l <;> simp [PyData.eqvAll]
theorem c_ne0 {l : List D} {r : Ev} {q : D → Bool → Ev → Prop} (h : shapedD (.list l) = true) (hq : q (.bool (!l.isEmpty)) false r) : @wpB (dCmp .ne (.list l) (.list [])) r ⟨q⟩ :=
  c_neG h (by decide +kernel) (by rw [eqvL0]; exact hq)
theorem c_eq0 {l : List D} {r : Ev} {q : D → Bool → Ev → Prop} (h : shapedD (.list l) = true) (hq : q (.bool l.isEmpty) false r) : @wpB (dCmp .eq (.list l) (.list [])) r ⟨q⟩ :=
  c_eqG h (by decide +kernel) (by rw [eqvL0]; exact hq)
theorem map_isE {α β : Type} (f : α → β) (l : List α) : (l.map f).isEmpty = l.isEmpty := by cases l <;> rfl
theorem fil_isE {α : Type} (p : α → Bool) : ∀ l : List α, (l.filter p).isEmpty = !l.any p
  | [] => rfl
  | x :: l => by
    rw [List.filter_cons, List.any_cons]
    cases h : p x
    · rw [if_neg (by decide), fil_isE p l, Bool.false_or]
    · rw [if_pos rfl, Bool.true_or]; rfl

/-! ### repr of anything -/
/-- it can be shown, not too long, in good signs -/
def Rp (k : Nat) (d : D) : Prop := d.showable = true ∧ d.shown.length ≤ k ∧ PyData.strOk d.shown = true
theorem Rp.mono {k m : Nat} {d : D} (h : Rp k d) (hk : k ≤ m) : Rp m d := ⟨h.1, Nat.le_trans h.2.1 hk, h.2.2⟩
theorem Rp.int {i : Int} (h : smallI i = true) : Rp 22 (.int i) := ⟨by rw [PyData.showable]; exact decide_eq_true (small_log h), by rw [PyData.shown_int]; exact int_len h, by rw [PyData.shown_int]; exact ofS_ok _⟩
theorem Rp.bool {b : Bool} : Rp 5 (.bool b) := by
  refine ⟨by rw [PyData.showable], ?_, ?_⟩
  · rw [PyData.shown_bool]; cases b <;> decide +kernel
  · rw [PyData.shown_bool]; cases b <;> decide +kernel
theorem Rp.none : Rp 4 .none := ⟨by rw [PyData.showable], by decide +kernel, by decide +kernel⟩
theorem rpAll {k : Nat} {l : List D} (h : ∀ x ∈ l, Rp k x) : PyData.showableAll l = true ∧ (Str.join ", " (PyData.shownAll l)).length ≤ l.length * (k + 2) ∧ PyData.strOk (Str.join ", " (PyData.shownAll l)) = true := by
  refine ⟨?_, ?_, join_ok (shownAll_of (P := fun x => PyData.strOk x = true) fun d hd => (h d hd).2.2)⟩
  · induction l with
    | nil => rw [PyData.showableAll]
    | cons x l ih => rw [PyData.showableAll, (h x List.mem_cons_self).1, ih fun y hy => h y (List.mem_cons_of_mem _ hy)]; rfl
  · have := join_len (k := k) (l := PyData.shownAll l) (shownAll_of (P := fun x => x.length ≤ k) fun d hd => (h d hd).2.1)
    rw [PyData.shownAll_length] at this
    exact this
theorem Rp.list {k : Nat} {l : List D} (h : ∀ x ∈ l, Rp k x) : Rp (l.length * (k + 2) + 3) (.list l) := by
  obtain ⟨h1, h2, h3⟩ := rpAll h
  refine ⟨by rw [PyData.showable]; exact h1, ?_, ?_⟩
  · rw [PyData.shown_list, app_len, app_len]
    have e1 : (Str.ofString "[").length = 1 := by rw [ofS_len]; rfl
    have e2 : (Str.ofString "]").length = 1 := by rw [ofS_len]; rfl
    rw [e1, e2]; omega
  · rw [PyData.shown_list]; exact app_ok (app_ok (ofS_ok _) h3) (ofS_ok _)
theorem Rp.tup {k : Nat} {l : List D} (h : ∀ x ∈ l, Rp k x) : Rp (l.length * (k + 2) + 3) (.tuple l) := by
  obtain ⟨h1, h2, h3⟩ := rpAll h
  refine ⟨by rw [PyData.showable]; exact h1, ?_, ?_⟩
  · rw [PyData.shown_tuple, app_len, app_len]
    have e1 : (Str.ofString "(").length = 1 := by rw [ofS_len]; rfl
    have e2 : (Str.ofString ")").length = 1 := by rw [ofS_len]; rfl
    have e3 : (Str.ofString ",)").length = 2 := by rw [ofS_len]; rfl
    rw [e1]
    split
    · rw [e3]; omega
    · rw [e2]; omega
  · rw [PyData.shown_tuple]; exact app_ok (app_ok (ofS_ok _) h3) (ofS_ok _)
theorem u_repr {d : D} {k s : Nat} {r : Ev} {q : D → Bool → Ev → Prop} (h : Rp k d) (hk : k ≤ 16777216) (hs : Shp s d) (h64 : s ≤ 64) (hq : q (.str d.shown) false r) : @wpO (dBi .repr [d]) r ⟨q⟩ := by
  have h3 : line = 16777216 := rfl
  show @wpO (if (shapedD _ && PyData.showable _ && decide (_ ≤ line)) = true then _ else _) r ⟨q⟩
  rw [if_pos (by rw [hs.ok h64, h.1, decide_eq_true (by have := h.2.1; omega)]; rfl)]
  exact hq
theorem Rp.sh {k : Nat} {d : D} (h : Rp k d) : shapedD (.str d.shown) = true := (Shp.strOf (k := 0) h.2.2).ok (by decide)
end TQ

set_option Elab.async false
set_option linter.all false
set_option maxRecDepth 100000
/-! WM: wishes and what grants them, in plain words; how they stand as values. -/
namespace WM
open PySem TP TQ

inductive SW where
  | least | most | is | isnt
  deriving DecidableEq
def SW.str : SW → String
  | .least => "least"
  | .most => "most"
  | .is => "is"
  | .isnt => "isnt"
structure Sgn where
  w : SW
  b : Int
  v : Int
  deriving DecidableEq
def sw (s : String) : D := .str (Str.ofString s)
def encS (s : Sgn) : D := .tuple [sw s.w.str, .int s.b, .int s.v]
def Sgn.says (s : Sgn) (x : Int) : Bool := match s.w with
  | .least => decide (s.v ≤ x)
  | .most => decide (x ≤ s.v)
  | .is => decide (x = s.v)
  | .isnt => !decide (x = s.v)
def at_ (f : List Int) (b : Int) : Int := f.getD b.toNat 0
def Sgn.holds (s : Sgn) (f : List Int) : Bool := s.says (at_ f s.b)

abbrev P2 := Int × Int
abbrev P3 := Int × Int × Int
def enc2 (p : P2) : D := .tuple [.int p.1, .int p.2]
def enc3 (p : P3) : D := .tuple [.int p.1, .int p.2.1, .int p.2.2]
def tI (l : List Int) : D := .tuple (l.map .int)
def lI (l : List Int) : D := .list (l.map .int)
inductive Wish where
  | sum (ts : List P2) (le : Bool) (n : Int)
  | times (a b c : Int)
  | row (bs : List Int) (rows : List (List Int))
  | pick (bs : List Int) (a c : Int)
  | unlike (bs : List Int)
  | path (bs : List Int) (st : List P3) (ends : List Int)
  | works (ws : List P3) (most : Int)
  | many (bs ws : List Int) (c : Int)
  | some (ss : List Sgn)
  | iff (ss : List Sgn) (w : Wish)
def lm (b : Bool) : String := if b then "least" else "most"
def Wish.word : Wish → String
  | .sum _ _ _ => "sum"
  | .times _ _ _ => "times"
  | .row _ _ => "row"
  | .pick _ _ _ => "pick"
  | .unlike _ => "unlike"
  | .path _ _ _ => "path"
  | .works _ _ => "works"
  | .many _ _ _ => "many"
  | .some _ => "some"
  | .iff _ _ => "if"
def encR : Wish → List D
  | .sum ts le n => [.tuple (ts.map enc2), sw (lm le), .int n]
  | .times a b c => [.int a, .int b, .int c]
  | .row bs rows => [tI bs, .tuple (rows.map tI)]
  | .pick bs a c => [tI bs, .int a, .int c]
  | .unlike bs => [tI bs]
  | .path bs st ends => [tI bs, .tuple (st.map enc3), tI ends]
  | .works ws most => [.tuple (ws.map enc3), .int most]
  | .many bs ws c => [tI bs, tI ws, .int c]
  | .some ss => [.tuple (ss.map encS)]
  | .iff ss w => [.tuple (ss.map encS), .tuple (sw w.word :: encR w)]
def encW (w : Wish) : D := .tuple (sw w.word :: encR w)
def ups (st : List P3) (f : List Int) (s : List Int) (b : Int) : List Int := (st.filter fun p => decide (p.1 ∈ s) && decide (p.2.1 = at_ f b)).map (·.2.2)
def going (ws : List P3) (f : List Int) (t : Int) : Int := ((ws.filter fun p => decide (at_ f p.1 ≤ t) && decide (t < at_ f p.1 + p.2.1)).map (·.2.2)).sum
def Wish.gr (f : List Int) : Wish → Bool
  | .sum ts le n => let t := (ts.map fun p => p.1 * at_ f p.2).sum; if le then decide (n ≤ t) else decide (t ≤ n)
  | .times a b c => decide (at_ f a * at_ f b = at_ f c)
  | .row bs rows => decide (bs.map (at_ f) ∈ rows)
  | .pick bs a c => (decide (0 ≤ at_ f a) && decide (at_ f a < bs.length)) && decide (at_ f (at_ bs (at_ f a)) = at_ f c)
  | .unlike bs => decide ((usort (bs.map (at_ f))).length = (bs.map (at_ f)).length)
  | .path bs st ends => (bs.foldl (ups st f) [0]).any fun s => decide (s ∈ ends)
  | .works ws most => ws.all fun p => decide (going ws f (at_ f p.1) ≤ most)
  | .many bs ws c => decide (((bs.filter fun b => decide (at_ f b ∈ ws)).length : Int) = at_ f c)
  | .some ss => ss.any fun s => s.holds f
  | .iff ss w => !(ss.all fun s => s.holds f) || w.gr f
def Wish.deep : Wish → Nat
  | .iff _ w => w.deep + 1
  | _ => 0
def inB (nb : Nat) (b : Int) : Prop := 0 ≤ b ∧ b < nb
/-- boxes are there, numbers are small -/
def Wish.ok (nb : Nat) : Wish → Prop
  | .sum ts _ _ => ∀ p ∈ ts, inB nb p.2
  | .times a b c => inB nb a ∧ inB nb b ∧ inB nb c
  | .row bs rows => ∀ b ∈ bs, inB nb b
  | .pick bs a c => (∀ b ∈ bs, inB nb b) ∧ inB nb a ∧ inB nb c
  | .unlike bs => (∀ b ∈ bs, inB nb b) ∧ bs.length ≤ 4000
  | .path bs _ _ => ∀ b ∈ bs, inB nb b
  | .works ws _ => ∀ p ∈ ws, inB nb p.1
  | .many bs _ c => (∀ b ∈ bs, inB nb b) ∧ inB nb c
  | .some ss => ∀ s ∈ ss, inB nb s.b
  | .iff ss w => (∀ s ∈ ss, inB nb s.b) ∧ w.ok nb
/-- a filling's worths -/
def FOk (nb : Nat) (f : List Int) : Prop := f.length = nb ∧ ∀ x ∈ f, smallI x = true
theorem at_small {nb : Nat} {f : List Int} (h : FOk nb f) (b : Int) : smallI (at_ f b) = true := by
  unfold at_
  rw [List.getD_eq_getElem?_getD]
  cases e : f[b.toNat]? with
  | none => rfl
  | some x => exact h.2 x (List.mem_of_getElem? e)
theorem at_get {f : List Int} {b : Int} (h : inB f.length b) : (f.map PyData.int)[b.toNat]? = some (.int (at_ f b)) := by
  obtain ⟨h0, h1⟩ := h
  have hn : b.toNat < f.length := by omega
  unfold at_
  rw [List.getElem?_map, List.getElem?_eq_getElem hn, List.getD_eq_getElem?_getD, List.getElem?_eq_getElem hn]
  rfl
section
variable {r : Ev} {q : D → Bool → Ev → Prop}
theorem i_f {f : List Int} {b : Int} (h : inB f.length b) (hq : q (.int (at_ f b)) false r) : @wpD (dIdx (.tuple (f.map .int)) (.int b)) r ⟨q⟩ := i_atT h.1 (at_get h) hq
theorem i_fL {f : List Int} {b : Int} (h : inB f.length b) (hq : q (.int (at_ f b)) false r) : @wpD (dIdx (.list (f.map .int)) (.int b)) r ⟨q⟩ := i_atL h.1 (at_get h) hq
theorem i_inRows {l : List Int} {rows : List (List Int)} : @wpB (dCmp .isin (.tuple (l.map .int)) (.tuple (rows.map tI))) r ⟨q⟩ = q (.bool (decide (l ∈ rows))) false r := by --s
  show @wpB (if (shapedD _ && shapedD _) = true then some ((rows.map tI).any fun z => PyData.eqv z (tI l)) else none) r ⟨q⟩ = _
  rw [if_pos (by rw [(Shp.intsT (k := 0)).ok (by decide), (Shp.tup (k := 1) (all_map (enc := tI) fun _ _ => Shp.intsT)).ok (by decide)]; rfl), any_map (enc := tI) (x := l) fun a _ => eqv_tupI]
  exact congrArg (fun b => q (.bool b) false r) (decide_eq_decide.mpr Iff.rfl)
end
theorem boolsMap {α : Type} (l : List α) (g : α → Bool) : (l.map fun x => PyData.bool (g x)) = (l.map g).map .bool := by rw [List.map_map]; rfl
theorem intsMap {α : Type} (l : List α) (g : α → Int) : (l.map fun x => PyData.int (g x)) = (l.map g).map .int := by rw [List.map_map]; rfl
end WM
namespace WM
open PySem TP TQ
def Wish.named : Wish → List Int
  | .sum ts _ _ => ts.map (·.2)
  | .times a b c => [a, b, c]
  | .row bs _ => bs
  | .pick bs a c => bs ++ [a, c]
  | .unlike bs => bs
  | .path bs _ _ => bs
  | .works ws _ => ws.map (·.1)
  | .many bs _ c => bs ++ [c]
  | .some ss => ss.map (·.b)
  | .iff ss w => ss.map (·.b) ++ w.named
theorem named_in {nb : Nat} : ∀ {w : Wish}, w.ok nb → ∀ b ∈ w.named, inB nb b
  | .sum ts _ _, h, b, hb => by obtain ⟨p, hp, rfl⟩ := List.mem_map.mp hb; exact h p hp
  | .times a b c, h, x, hb => by
    simp only [Wish.named, List.mem_cons, List.not_mem_nil, or_false] at hb
    rcases hb with rfl | rfl | rfl
    · exact h.1
    · exact h.2.1
    · exact h.2.2
  | .row bs _, h, b, hb => h b hb
  | .pick bs a c, h, b, hb => by
    simp only [Wish.named, List.mem_append, List.mem_cons, List.not_mem_nil, or_false] at hb
    rcases hb with hb | rfl | rfl
    · exact h.1 _ hb
    · exact h.2.1
    · exact h.2.2
  | .unlike bs, h, b, hb => h.1 b hb
  | .path bs _ _, h, b, hb => h b hb
  | .works ws _, h, b, hb => by obtain ⟨p, hp, rfl⟩ := List.mem_map.mp hb; exact h p hp
  | .many bs _ c, h, b, hb => by
    simp only [Wish.named, List.mem_append, List.mem_cons, List.not_mem_nil, or_false] at hb
    rcases hb with hb | rfl
    · exact h.1 _ hb
    · exact h.2
  | .some ss, h, b, hb => by obtain ⟨p, hp, rfl⟩ := List.mem_map.mp hb; exact h p hp
  | .iff ss w, h, b, hb => by
    rcases List.mem_append.mp hb with hb | hb
    · obtain ⟨p, hp, rfl⟩ := List.mem_map.mp hb; exact h.1 p hp
    · exact named_in h.2 b hb
theorem uins_lb {x : Int} : ∀ {l : List Int} {m : Int}, m < x → (∀ y ∈ l, m < y) → ∀ y ∈ uins x l, m < y
  | [], m, h, _, y, hy => by rw [List.mem_singleton.mp hy]; exact h
  | a :: l, m, h, h2, y, hy => by
    unfold uins at hy
    split at hy
    · rcases List.mem_cons.mp hy with e | e
      · rw [e]; exact h
      · exact h2 y e
    · split at hy
      · exact h2 y hy
      · rcases List.mem_cons.mp hy with e | e
        · rw [e]; exact h2 a List.mem_cons_self
        · exact uins_lb h (fun z hz => h2 z (List.mem_cons_of_mem _ hz)) y e
theorem uins_up {x : Int} : ∀ {l : List Int}, l.Pairwise (· < ·) → (uins x l).Pairwise (· < ·)
  | [], _ => by simp [uins]
  | a :: l, h => by
    unfold uins
    obtain ⟨h1, h2⟩ := List.pairwise_cons.mp h
    split
    · rename_i hx
      refine List.pairwise_cons.mpr ⟨fun y hy => ?_, h⟩
      rcases List.mem_cons.mp hy with e | e
      · rw [e]; exact hx
      · exact Int.lt_trans hx (h1 y e)
    · split
      · exact h
      · rename_i hx hx2
        exact List.pairwise_cons.mpr ⟨uins_lb (by omega) h1, uins_up h2⟩
theorem usort_up' : ∀ l : List Int, (usort l).Pairwise (· < ·)
  | [] => List.Pairwise.nil
  | x :: l => uins_up (usort_up' l)
theorem mem_uins' {x y : Int} : ∀ {l : List Int}, y ∈ uins x l ↔ y = x ∨ y ∈ l
  | [] => by simp [uins]
  | a :: l => by
    unfold uins
    split
    · simp
    · split
      · rename_i h; subst h; simp
      · rw [List.mem_cons, mem_uins', List.mem_cons]
        constructor
        · rintro (h | h | h)
          · exact .inr (.inl h)
          · exact .inl h
          · exact .inr (.inr h)
        · rintro (h | h | h)
          · exact .inr (.inl h)
          · exact .inl h
          · exact .inr (.inr h)
theorem mem_usort' {y : Int} : ∀ {l : List Int}, y ∈ usort l ↔ y ∈ l
  | [] => by simp [usort]
  | x :: l => by rw [usort, mem_uins', mem_usort', List.mem_cons]
theorem up_len : ∀ {l : List Int} {a : Int} {k : Nat}, l.Pairwise (· < ·) → (∀ y ∈ l, a ≤ y ∧ y < a + k) → l.length ≤ k
  | [], _, _, _, _ => Nat.zero_le _
  | x :: l, a, k, h, h2 => by
    obtain ⟨h3, h4⟩ := List.pairwise_cons.mp h
    have hx := h2 x List.mem_cons_self
    have : l.length ≤ (a + k - (x + 1)).toNat := up_len (a := x + 1) h4 fun y hy => by
      have := h3 y hy
      have := h2 y (List.mem_cons_of_mem _ hy)
      omega
    rw [List.length_cons]
    omega
theorem usort_few {l : List Int} {k : Nat} (h : ∀ y ∈ l, inB k y) : (usort l).length ≤ k := up_len (a := 0) (usort_up' l) fun y hy => by
  have := h y (mem_usort'.mp hy)
  unfold inB at this
  omega
end WM

set_option Elab.async false
set_option linter.all false
set_option maxRecDepth 100000
/-! WG: what the laws' own drawing gives: pools, good wishes, boxes. -/
namespace WM
open PySem TP TQ

/-- a pool's numbers -/
def PO (a s : Int) : Prop := 0 ≤ a ∧ 0 ≤ s ∧ s < 2147483647
def pl (a s : Int) : D := .list [.int a, .int s]
structure Bx where
  nm : String
  lo : Int
  hi : Int
def encB (b : Bx) : D := .tuple [sw b.nm, .int b.lo, .int b.hi]
/-- a box as the laws draw it -/
def Bx.ok (b : Bx) : Prop := b.lo ≤ b.hi ∧ -100 ≤ b.lo ∧ b.hi ≤ 100
def boxesOk (nb : Nat) (bs : List Int) : Prop := bs ≠ [] ∧ (∀ b ∈ bs, inB nb b) ∧ bs.Nodup
def Sgn.wf (nb : Nat) (s : Sgn) : Prop := inB nb s.b ∧ -2000 < s.v ∧ s.v < 2000
/-- what is let in as a wish -/
def Wish.wf (nb : Nat) : Wish → Prop
  | .sum ts _ n => 1 ≤ ts.length ∧ ts.length ≤ 8 ∧ (∀ p ∈ ts, p.1 ≠ 0 ∧ -100 ≤ p.1 ∧ p.1 ≤ 100) ∧ boxesOk nb (ts.map (·.2)) ∧ smallI n = true
  | .times a b c => inB nb a ∧ inB nb b ∧ inB nb c ∧ b ≠ a ∧ c ≠ a ∧ c ≠ b
  | .row bs rows => boxesOk nb bs ∧ rows.length ≤ 60 ∧ ∀ r ∈ rows, r.length = bs.length ∧ ∀ x ∈ r, smallI x = true
  | .pick bs a c => boxesOk nb bs ∧ inB nb a ∧ a ∉ bs ∧ inB nb c ∧ c ∉ bs ∧ c ≠ a
  | .unlike bs => boxesOk nb bs
  | .path bs st ends => boxesOk nb bs ∧ st.length ≤ 60 ∧ (∀ p ∈ st, 0 ≤ p.1 ∧ p.1 ≤ 20 ∧ 0 ≤ p.2.2 ∧ p.2.2 ≤ 20 ∧ smallI p.2.1 = true) ∧ (∀ e ∈ ends, 0 ≤ e ∧ e ≤ 20) ∧ ends.length ≤ 60
  | .works ws most => 1 ≤ ws.length ∧ ws.length ≤ 8 ∧ (∀ p ∈ ws, 1 ≤ p.2.1 ∧ p.2.1 ≤ 50 ∧ 1 ≤ p.2.2 ∧ p.2.2 ≤ 50) ∧ boxesOk nb (ws.map (·.1)) ∧ 0 ≤ most ∧ most ≤ 400
  | .many bs ws c => boxesOk nb bs ∧ ws.Nodup ∧ inB nb c ∧ c ∉ bs ∧ (∀ x ∈ ws, smallI x = true) ∧ ws.length ≤ 60
  | .some ss => ss.length ≤ 12 ∧ ∀ s ∈ ss, s.wf nb
  | .iff ss w => 1 ≤ ss.length ∧ ss.length ≤ 4 ∧ (∀ s ∈ ss, s.wf nb) ∧ w.wf nb ∧ w.deep = 0
theorem nodup_few {nb : Nat} {l : List Int} (h : ∀ b ∈ l, inB nb b) (h2 : l.Nodup) : l.length ≤ nb := by
  have e : (usort l).length = l.length := by
    refine List.Perm.length_eq ?_
    refine (List.perm_ext_iff_of_nodup ?_ h2).mpr fun x => mem_usort'
    exact List.Pairwise.imp (fun h e => by rw [e] at h; exact Int.lt_irrefl _ h) (usort_up' l)
  rw [← e]
  exact usort_few h
theorem Wish.wf_ok {nb : Nat} (hn : nb ≤ 24) : ∀ {w : Wish}, w.wf nb → w.ok nb
  | .sum ts _ _, h => fun p hp => h.2.2.2.1.2.1 _ (List.mem_map_of_mem hp)
  | .times a b c, h => ⟨h.1, h.2.1, h.2.2.1⟩
  | .row bs _, h => h.1.2.1
  | .pick bs a c, h => ⟨h.1.2.1, h.2.1, h.2.2.2.1⟩
  | .unlike bs, h => ⟨h.2.1, by have := nodup_few h.2.1 h.2.2; omega⟩
  | .path bs _ _, h => h.1.2.1
  | .works ws _, h => fun p hp => h.2.2.2.1.2.1 _ (List.mem_map_of_mem hp)
  | .many bs _ c, h => ⟨h.1.2.1, h.2.2.1⟩
  | .some ss, h => fun s hs => (h.2 s hs).1
  | .iff ss w, h => ⟨fun s hs => (h.2.2.1 s hs).1, Wish.wf_ok hn h.2.2.2.1⟩
theorem Wish.wf_few0 {nb : Nat} (hn : nb ≤ 24) : ∀ {w : Wish}, w.deep = 0 → w.wf nb → w.named.length ≤ 30
  | .sum ts _ _, _, h => by have := h.2.1; simp only [Wish.named, List.length_map]; omega
  | .times a b c, _, h => by simp only [Wish.named, List.length_cons, List.length_nil]; omega
  | .row bs _, _, h => by have := nodup_few h.1.2.1 h.1.2.2; simp only [Wish.named]; omega
  | .pick bs a c, _, h => by have := nodup_few h.1.2.1 h.1.2.2; simp only [Wish.named, List.length_append, List.length_cons, List.length_nil]; omega
  | .unlike bs, _, h => by have := nodup_few h.2.1 h.2.2; simp only [Wish.named]; omega
  | .path bs _ _, _, h => by have := nodup_few h.1.2.1 h.1.2.2; simp only [Wish.named]; omega
  | .works ws _, _, h => by have := h.2.1; simp only [Wish.named, List.length_map]; omega
  | .many bs _ c, _, h => by have := nodup_few h.1.2.1 h.1.2.2; simp only [Wish.named, List.length_append, List.length_cons, List.length_nil]; omega
  | .some ss, _, h => by have := h.1; simp only [Wish.named, List.length_map]; omega
  | .iff ss w, hd, h => by simp [Wish.deep] at hd
theorem Wish.wf_few {nb : Nat} (hn : nb ≤ 24) {w : Wish} (h : w.wf nb) : w.named.length ≤ 40 := by
  cases w with
  | iff ss w =>
    have h1 := Wish.wf_few0 hn h.2.2.2.2 h.2.2.2.1
    have h2 := h.2.1
    simp only [Wish.named, List.length_append, List.length_map]
    omega
  | _ => exact Nat.le_trans (Wish.wf_few0 hn rfl h) (by omega)
theorem Wish.wf_deep {nb : Nat} {w : Wish} (h : w.wf nb) : w.deep ≤ 1 := by
  cases w with
  | iff ss w => simp only [Wish.deep]; have := h.2.2.2.2; omega
  | _ => simp only [Wish.deep]; omega

theorem fm_lo {i m : Int} (h : 0 < m) : 0 ≤ i.fmod m := Int.fmod_nonneg_of_pos i h
theorem fm_hi {i m : Int} (h : 0 < m) : i.fmod m < m := Int.fmod_lt_of_pos i h
theorem fd_lo {i m : Int} (h : 0 < m) (h2 : 0 ≤ i) : 0 ≤ i.fdiv m := Int.fdiv_nonneg h2 (Int.le_of_lt h)
theorem small_of {i : Int} (h : -18446744073709551616 < i) (h2 : i < 18446744073709551616) : smallI i = true := by
  unfold smallI pw64
  rw [decide_eq_true h, decide_eq_true h2]; rfl
def All2 {α β : Type} (R : α → β → Prop) : List α → List β → Prop
  | [], [] => True
  | x :: xs, y :: ys => R x y ∧ All2 R xs ys
  | _, _ => False
theorem All2.app {α β : Type} {R : α → β → Prop} {x : α} {y : β} (h : R x y) : ∀ {xs : List α} {ys : List β}, All2 R xs ys → All2 R (xs ++ [x]) (ys ++ [y])
  | [], [], _ => ⟨h, trivial⟩
  | a :: xs, b :: ys, h2 => ⟨h2.1, All2.app h h2.2⟩
  | [], _ :: _, h2 => h2.elim
  | _ :: _, [], h2 => h2.elim
theorem All2.len {α β : Type} {R : α → β → Prop} : ∀ {xs : List α} {ys : List β}, All2 R xs ys → ys.length = xs.length
  | [], [], _ => rfl
  | a :: xs, b :: ys, h2 => by simp [All2.len h2.2]
  | [], _ :: _, h2 => h2.elim
  | _ :: _, [], h2 => h2.elim
theorem All2.mem {α β : Type} {R : α → β → Prop} : ∀ {xs : List α} {ys : List β}, All2 R xs ys → ∀ y ∈ ys, ∃ x ∈ xs, R x y
  | [], [], _, y, hy => by cases hy
  | a :: xs, b :: ys, h2, y, hy => by
    rcases List.mem_cons.mp hy with e | e
    · subst e; exact ⟨a, List.mem_cons_self, h2.1⟩
    · obtain ⟨x, hx, h⟩ := All2.mem h2.2 y e
      exact ⟨x, List.mem_cons_of_mem _ hx, h⟩
  | [], _ :: _, h2, _, _ => h2.elim
  | _ :: _, [], h2, _, _ => h2.elim
theorem All2.map {α β γ : Type} {R : α → β → Prop} {f : α → γ} {g : β → γ} (h : ∀ x y, R x y → g y = f x) : ∀ {xs : List α} {ys : List β}, All2 R xs ys → ys.map g = xs.map f
  | [], [], _ => rfl
  | a :: xs, b :: ys, h2 => by simp [h a b h2.1, All2.map h h2.2]
  | [], _ :: _, h2 => h2.elim
  | _ :: _, [], h2 => h2.elim
section
variable {Ph : Nat → List D → Rs} {r : Ev} {q : D → Bool → Ev → Prop}
/-- a comprehension that draws from a pool -/
theorem lc_pool {α β : Type} {l : List α} {enc : α → D} {encb : β → D} {R : α → β → Prop} {elt : CE} {tg : CT} {vs : List Nat} (env : Int → Int → Ev) {a0 s0 : Int} (h0 : wipeE r vs = env a0 s0) (hp0 : PO a0 s0)
    (hs : ∀ x ∈ l, ∀ a s, PO a s → @bindK tg (enc x) (env a s) ⟨fun r3 => @wp (ev Ph elt r3) ⟨fun d _ r5 => @Dn ⟨∃ y a' s', PO a' s' ∧ R x y ∧ d = encb y ∧ wipeE r5 vs = env a' s'⟩⟩ ⟨fun _ _ _ => False⟩⟩)
    (hn : ∀ (ys : List β) (a s : Int), PO a s → All2 R l ys → q (.list (ys.map encb)) true (backE r (env a s) vs)) : @wpLc Ph (.list (l.map enc)) elt tg (.cst (.bool true)) vs r ⟨q⟩ := by
  refine lc_ind (fun rest acc r1 => ∃ done more ys a s, PO a s ∧ All2 R done ys ∧ l = done ++ more ∧ rest = more.map enc ∧ acc = ys.map encb ∧ r1 = env a s) ⟨[], l, [], a0, s0, hp0, trivial, rfl, rfl, rfl, h0⟩ (fun x xs acc r1 h => ?_) (fun acc r1 h => ?_)
  · obtain ⟨done, more, ys, a, s, hp, h2, e1, e2, rfl, rfl⟩ := h
    cases more with
    | nil => cases e2
    | cons x0 more =>
      rw [List.map_cons] at e2
      cases e2
      have h := hs x0 (by rw [e1]; simp) a s hp
      unfold bindK at h ⊢
      cases e : bindT tg (enc x0) (env a s) with
      | none => rw [e] at h; exact h.elim
      | some r3 =>
        rw [e] at h
        dsimp only at h ⊢
        rw [k_cst, t_t]
        cases e4 : ev Ph elt r3 with
        | stuck => rw [e4] at h; exact h.elim
        | exc c fs r4 => rw [e4] at h; exact h.elim
        | ok y f r5 =>
          rw [e4] at h
          obtain ⟨y', a', s', hp', hR, rfl, he⟩ := h
          exact ⟨done ++ [x0], more, ys ++ [y'], a', s', hp', h2.app hR, by rw [e1]; simp, rfl, by simp, he⟩
  · obtain ⟨done, more, ys, a, s, hp, h2, e1, e2, rfl, rfl⟩ := h
    have : more = [] := by cases more with | nil => rfl | cons _ _ => cases e2
    subst this
    rw [List.append_nil] at e1
    subst e1
    exact hn ys a s hp h2
theorem cut_to {α : Type} {l : List α} {i : Int} (h : 0 ≤ i) : cutD l none (some i) = l.take i.toNat := by
  obtain ⟨n, rfl⟩ := Int.eq_ofNat_of_zero_le h
  exact cut_take n
theorem cut_from {α : Type} {l : List α} {i : Int} (h : 0 ≤ i) : cutD l (some i) none = l.drop i.toNat := by
  obtain ⟨n, rfl⟩ := Int.eq_ofNat_of_zero_le h
  exact cut_drop n
theorem sli_to {l : List D} {i : Int} (h : 0 ≤ i) (hq : q (.list (l.take i.toNat)) true r) : @wpSli (.list l) .none (.int i) r ⟨q⟩ := by
  obtain ⟨n, rfl⟩ := Int.eq_ofNat_of_zero_le h
  rw [sli_nl, cut_take]
  exact hq
theorem sli_toT {l : List D} {i : Int} (h : 0 ≤ i) (hq : q (.tuple (l.take i.toNat)) false r) : @wpSli (.tuple l) .none (.int i) r ⟨q⟩ := by
  obtain ⟨n, rfl⟩ := Int.eq_ofNat_of_zero_le h
  rw [sli_nt, cut_take]
  exact hq
theorem rng_k {k : Int} {fr : Bool} (h0 : 0 ≤ k) (h : k ≤ 16777216) (hq : q (.list (rangeD 0 k)) fr r) : @wpRng (.int 0) (.int k) fr r ⟨q⟩ := by
  refine rng_ok ?_ hq
  unfold rngOk
  have hl : line = 16777216 := rfl
  rw [decide_eq_true (show (-4611686018427387904 : Int) ≤ 0 by decide), decide_eq_true (show (0 : Int) < 4611686018427387904 by decide), decide_eq_true (show -4611686018427387904 ≤ k by omega), decide_eq_true (show k < 4611686018427387904 by omega), decide_eq_true (by rw [hl]; omega)]
  rfl
end
end WM
namespace WM
open PySem TP TQ
theorem at_mem {f : List Int} {b : Int} (h : inB f.length b) : at_ f b ∈ f := by
  obtain ⟨h0, h1⟩ := h
  have hn : b.toNat < f.length := by omega
  unfold at_
  rw [List.getD_eq_getElem?_getD, List.getElem?_eq_getElem hn]
  exact List.getElem_mem hn
theorem i_encL {α : Type} {l : List α} {enc : α → D} {b : Int} {r : Ev} {q : D → Bool → Ev → Prop} (h : inB l.length b) (hq : ∀ x, l[b.toNat]? = some x → x ∈ l → q (enc x) false r) : @wpD (dIdx (.list (l.map enc)) (.int b)) r ⟨q⟩ := by
  obtain ⟨h0, h1⟩ := h
  have hn : b.toNat < l.length := by omega
  exact i_atL h0 (by rw [List.getElem?_map, List.getElem?_eq_getElem hn]; rfl) (hq _ (List.getElem?_eq_getElem hn) (List.getElem_mem hn))
theorem i_encT {α : Type} {l : List α} {enc : α → D} {b : Int} {r : Ev} {q : D → Bool → Ev → Prop} (h : inB l.length b) (hq : ∀ x, l[b.toNat]? = some x → x ∈ l → q (enc x) false r) : @wpD (dIdx (.tuple (l.map enc)) (.int b)) r ⟨q⟩ := by
  obtain ⟨h0, h1⟩ := h
  have hn : b.toNat < l.length := by omega
  exact i_atT h0 (by rw [List.getElem?_map, List.getElem?_eq_getElem hn]; rfl) (hq _ (List.getElem?_eq_getElem hn) (List.getElem_mem hn))
def bnames : List String := ["a", "bc", "x", "y", "zz", "total", "k", "m"]
/-- boxes as the laws draw them -/
def BxG (wide : Int) (bs : List Bx) : Prop := bs ≠ [] ∧ bs.length ≤ 8 ∧ (∀ b ∈ bs, b.lo ≤ b.hi ∧ -2 ≤ b.lo ∧ b.lo ≤ 7 ∧ b.hi - b.lo < wide) ∧ bs.map (·.nm) = bnames.take bs.length
/-- a filling of boxes -/
def Fill (bs : List Bx) (f : List Int) : Prop := All2 (fun b x => b.lo ≤ x ∧ x ≤ b.hi) bs f
theorem range_map {k : Int} : rangeD 0 k = (List.range k.toNat).map fun (i : Nat) => PyData.int (0 + (i : Int)) := by
  unfold rangeD
  rw [Int.sub_zero]
theorem rangeI {k : Int} : rangeD 0 k = ((List.range k.toNat).map fun (i : Nat) => (i : Int)).map PyData.int := by
  rw [range_map, List.map_map]
  refine List.map_congr_left fun i _ => ?_
  show PyData.int (0 + (i : Int)) = .int i
  rw [Int.zero_add]
theorem erase_perm {α : Type} : ∀ {l : List α} {i : Nat} {x : α}, l[i]? = some x → (x :: l.eraseIdx i).Perm l
  | [], _, _, h => by simp at h
  | a :: l, 0, x, h => by
    simp only [List.getElem?_cons_zero, Option.some.injEq] at h
    subst h
    exact List.Perm.refl _
  | a :: l, i + 1, x, h => by
    rw [List.getElem?_cons_succ] at h
    rw [List.eraseIdx_cons_succ]
    exact (List.Perm.swap _ _ _).trans ((erase_perm h).cons a)
theorem erase_map {α β : Type} (f : α → β) : ∀ (l : List α) (i : Nat), (l.map f).eraseIdx i = (l.eraseIdx i).map f
  | [], _ => rfl
  | a :: l, 0 => rfl
  | a :: l, i + 1 => by rw [List.map_cons, List.eraseIdx_cons_succ, List.eraseIdx_cons_succ, List.map_cons, erase_map f l i]
def allI (k : Int) : List Int := (List.range k.toNat).map fun (i : Nat) => (i : Int)
theorem allI_len {k : Int} : (allI k).length = k.toNat := by unfold allI; rw [List.length_map, List.length_range]
theorem allI_nd {k : Int} : (allI k).Nodup := by
  unfold allI
  refine List.Pairwise.map _ (fun a b h => ?_) List.nodup_range
  omega
theorem allI_in {nb : Nat} : ∀ b ∈ allI nb, inB nb b := by
  intro b hb
  unfold allI at hb
  obtain ⟨i, hi, rfl⟩ := List.mem_map.mp hb
  rw [List.mem_range] at hi
  exact ⟨by omega, by omega⟩
/-- drawn boxes are unlike -/
theorem got_ok {nb : Nat} {got left : List Int} (h : (got ++ left).Perm (allI nb)) : (∀ b ∈ got, inB nb b) ∧ got.Nodup := by
  have h2 : (got ++ left).Nodup := h.nodup_iff.mpr allI_nd
  exact ⟨fun b hb => allI_in b (h.mem_iff.mp (List.mem_append_left _ hb)), (List.nodup_append.mp h2).1⟩
theorem uins_len {x : Int} : ∀ {l : List Int}, (uins x l).length ≤ l.length + 1
  | [] => by simp [uins]
  | a :: l => by
    unfold uins
    split
    · simp
    · split
      · simp
      · simp only [List.length_cons]; have := uins_len (x := x) (l := l); omega
theorem usort_len_le : ∀ {l : List Int}, (usort l).length ≤ l.length
  | [] => by simp [usort]
  | x :: l => by
    have h1 := uins_len (x := x) (l := usort l)
    have h2 := usort_len_le (l := l)
    simp only [usort, List.length_cons]
    omega
theorem usort_nd (l : List Int) : (usort l).Nodup := List.Pairwise.imp (fun h e => by rw [e] at h; exact Int.lt_irrefl _ h) (usort_up' l)
theorem at_in {bs : List Int} {k : Int} (h0 : 0 ≤ k) (h1 : k < bs.length) : at_ bs k ∈ bs := at_mem ⟨h0, h1⟩
theorem foldl_congr' {α β : Type} {f g : β → α → β} : ∀ {l : List α} {b : β}, (∀ x ∈ l, ∀ b, f b x = g b x) → l.foldl f b = l.foldl g b
  | [], _, _ => rfl
  | x :: l, b, h => by
    rw [List.foldl_cons, List.foldl_cons, h x List.mem_cons_self]
    exact foldl_congr' fun y hy => h y (List.mem_cons_of_mem _ hy)
theorem all_congr' {α : Type} {f g : α → Bool} {l : List α} (h : ∀ x ∈ l, f x = g x) : l.all f = l.all g := by
  induction l with
  | nil => rfl
  | cons x l ih => rw [List.all_cons, List.all_cons, h x List.mem_cons_self, ih fun y hy => h y (List.mem_cons_of_mem _ hy)]
theorem any_congr' {α : Type} {f g : α → Bool} {l : List α} (h : ∀ x ∈ l, f x = g x) : l.any f = l.any g := by
  induction l with
  | nil => rfl
  | cons x l ih => rw [List.any_cons, List.any_cons, h x List.mem_cons_self, ih fun y hy => h y (List.mem_cons_of_mem _ hy)]
/-- what isn't named doesn't matter -/
theorem gr_congr {f g : List Int} : ∀ {w : Wish}, (∀ b ∈ w.named, at_ f b = at_ g b) → w.gr f = w.gr g
  | .sum ts le n, h => by
    have e : (ts.map fun p => p.1 * at_ f p.2) = ts.map fun p => p.1 * at_ g p.2 := List.map_congr_left fun p hp => by rw [h p.2 (List.mem_map_of_mem (f := fun p : P2 => p.2) hp)]
    simp only [Wish.gr, e]
  | .times a b c, h => by
    simp only [Wish.gr, h a (by simp [Wish.named]), h b (by simp [Wish.named]), h c (by simp [Wish.named])]
  | .row bs rows, h => by
    have e : bs.map (at_ f) = bs.map (at_ g) := List.map_congr_left fun b hb => h b hb
    simp only [Wish.gr, e]
  | .pick bs a c, h => by
    have e1 := h a (by simp [Wish.named])
    have e2 := h c (by simp [Wish.named])
    simp only [Wish.gr, e1, e2]
    by_cases h0 : 0 ≤ at_ g a
    · by_cases h1 : at_ g a < bs.length
      · have := h (at_ bs (at_ g a)) (by simp only [Wish.named, List.mem_append]; exact .inl (at_in h0 h1))
        rw [this]
      · simp [h1]
    · simp [h0]
  | .unlike bs, h => by
    have e : bs.map (at_ f) = bs.map (at_ g) := List.map_congr_left fun b hb => h b hb
    simp only [Wish.gr, e]
  | .path bs st ends, h => by
    have e : bs.foldl (ups st f) [0] = bs.foldl (ups st g) [0] := foldl_congr' fun b hb s => by
      unfold ups
      rw [h b hb]
    simp only [Wish.gr, e]
  | .works ws most, h => by
    have e1 : ∀ p ∈ ws, at_ f p.1 = at_ g p.1 := fun p hp => h p.1 (List.mem_map_of_mem (f := fun p : P3 => p.1) hp)
    have e2 : ∀ t, going ws f t = going ws g t := fun t => by
      unfold going
      congr 2
      exact List.filter_congr fun p hp => by rw [e1 p hp]
    simp only [Wish.gr]
    exact all_congr' fun p hp => by rw [e1 p hp, e2]
  | .many bs ws c, h => by
    have e1 := h c (by simp [Wish.named])
    have e : (bs.filter fun b => decide (at_ f b ∈ ws)) = bs.filter fun b => decide (at_ g b ∈ ws) := List.filter_congr fun b hb => by rw [h b (by simp [Wish.named, hb])]
    simp only [Wish.gr, e1, e]
  | .some ss, h => by
    simp only [Wish.gr]
    exact any_congr' fun s hs => by unfold Sgn.holds; rw [h s.b (List.mem_map_of_mem (f := fun s : Sgn => s.b) hs)]
  | .iff ss w, h => by
    have e : (ss.all fun s => s.holds f) = ss.all fun s => s.holds g := all_congr' fun s hs => by
      unfold Sgn.holds
      rw [h s.b (by simp only [Wish.named, List.mem_append]; exact .inl (List.mem_map_of_mem (f := fun s : Sgn => s.b) hs))]
    simp only [Wish.gr, e, gr_congr (w := w) fun b hb => h b (by simp only [Wish.named, List.mem_append]; exact .inr hb)]
theorem All2.get {α β : Type} {R : α → β → Prop} : ∀ {xs : List α} {ys : List β}, All2 R xs ys → ∀ (i : Nat) (x : α) (y : β), xs[i]? = some x → ys[i]? = some y → R x y
  | [], [], _, i, x, y, h, _ => by simp at h
  | a :: xs, b :: ys, h2, 0, x, y, h, h3 => by
    simp only [List.getElem?_cons_zero, Option.some.injEq] at h h3
    subst h h3
    exact h2.1
  | a :: xs, b :: ys, h2, i + 1, x, y, h, h3 => by
    rw [List.getElem?_cons_succ] at h h3
    exact All2.get h2.2 i x y h h3
  | [], _ :: _, h2, _, _, _, _, _ => h2.elim
  | _ :: _, [], h2, _, _, _, _, _ => h2.elim
theorem Fill.fok {bs : List Bx} {f : List Int} (h : Fill bs f) (hb : ∀ b ∈ bs, -1000 ≤ b.lo ∧ b.hi ≤ 1000) : FOk bs.length f := by
  refine ⟨All2.len h, fun x hx => ?_⟩
  obtain ⟨b, hb2, h3⟩ := All2.mem h x hx
  have := hb b hb2
  exact small_of (by omega) (by omega)
theorem fls_map {α : Type} {enc : α → D} (h : ∀ x, flat (enc x) = true) : ∀ l : List α, flats (l.map enc) = true
  | [] => fls_n
  | x :: l => by rw [List.map_cons, fls_c, h x, fls_map h l]; rfl
theorem fl_tI {l : List Int} : flat (tI l) = true := by unfold tI; rw [fl_t]; exact fls_i
theorem fl_S (s : Sgn) : flat (encS s) = true := by simp only [encS, sw, fl_t, fls_c, fls_n, fl_s, fl_i, Bool.and_self] --sp
theorem fl_2 (s : P2) : flat (enc2 s) = true := by simp only [enc2, fl_t, fls_c, fls_n, fl_i, Bool.and_self] --sp
theorem fl_3 (s : P3) : flat (enc3 s) = true := by simp only [enc3, fl_t, fls_c, fls_n, fl_i, Bool.and_self] --sp
theorem fl_B (s : Bx) : flat (encB s) = true := by simp only [encB, sw, fl_t, fls_c, fls_n, fl_s, fl_i, Bool.and_self] --sp
theorem fls_S (l : List Sgn) : flats (l.map encS) = true := fls_map fl_S l --sp
theorem fls_2 (l : List P2) : flats (l.map enc2) = true := fls_map fl_2 l --sp
theorem fls_3 (l : List P3) : flats (l.map enc3) = true := fls_map fl_3 l --sp
theorem fls_B (l : List Bx) : flats (l.map encB) = true := fls_map fl_B l --sp
theorem fls_tI (l : List (List Int)) : flats (l.map tI) = true := fls_map (fun _ => fl_tI) l --sp
theorem fls_R : ∀ w : Wish, flats (encR w) = true
  | .sum ts le n => by simp only [encR, sw, fls_c, fls_n, fl_t, fl_s, fl_i, fls_2, Bool.and_self]
  | .times a b c => by simp only [encR, fls_c, fls_n, fl_i, Bool.and_self]
  | .row bs rows => by simp only [encR, tI, fls_c, fls_n, fl_t, fls_i, Bool.and_true, Bool.true_and]; exact fls_tI rows
  | .pick bs a c => by simp only [encR, tI, fls_c, fls_n, fl_t, fl_i, fls_i, Bool.and_self]
  | .unlike bs => by simp only [encR, tI, fls_c, fls_n, fl_t, fl_i, fls_i, Bool.and_self]
  | .path bs st ends => by simp only [encR, tI, fls_c, fls_n, fl_t, fl_i, fls_i, fls_3, Bool.and_self]
  | .works ws most => by simp only [encR, tI, fls_c, fls_n, fl_t, fl_i, fls_i, fls_3, Bool.and_self]
  | .many bs ws c => by simp only [encR, tI, fls_c, fls_n, fl_t, fl_i, fls_i, Bool.and_self]
  | .some ss => by simp only [encR, fls_c, fls_n, fl_t, fls_S, Bool.and_self]
  | .iff ss w => by simp only [encR, sw, fls_c, fls_n, fl_t, fl_s, fls_S, fls_R w, Bool.and_self]
theorem fl_W (w : Wish) : flat (encW w) = true := by simp only [encW, sw, fl_t, fls_c, fl_s, fls_R, Bool.and_self] --sp
theorem at_map {f : Int → Int} {l : List Int} {b : Int} (h : 0 ≤ b ∧ b < l.length) : at_ (l.map f) b = f (at_ l b) := by
  obtain ⟨h0, h1⟩ := h
  have hn : b.toNat < l.length := by omega
  unfold at_
  rw [List.getD_eq_getElem?_getD, List.getD_eq_getElem?_getD, List.getElem?_map, List.getElem?_eq_getElem hn]
  rfl
theorem at_allI {k : Nat} {b : Int} (h : inB k b) : at_ (allI k) b = b := by
  obtain ⟨h0, h1⟩ := h
  unfold at_ allI
  rw [List.getD_eq_getElem?_getD, List.getElem?_map, List.getElem?_range (by omega)]
  show ((b.toNat : Nat) : Int) = b
  omega
end WM

set_option Elab.async false
set_option linter.all false
set_option maxRecDepth 100000
/-! WR: wishes are shown; all fillings; works at any moment. -/
namespace WM
open PySem TP TQ
theorem shp_S (s : Sgn) : Shp 1 (encS s) := Shp.tup (all_cons Shp.str (all_cons .int (all_cons .int all_nil)))
theorem shp_2 (s : P2) : Shp 1 (enc2 s) := Shp.tup (all_cons .int (all_cons .int all_nil))
theorem shp_3 (s : P3) : Shp 1 (enc3 s) := Shp.tup (all_cons .int (all_cons .int (all_cons .int all_nil)))
theorem shp_R0 : ∀ {w : Wish}, w.deep = 0 → ∀ d ∈ encR w, Shp 2 d
  | .sum ts le n, _ => all_cons (Shp.tup (all_map fun p _ => shp_2 p)) (all_cons (Shp.str (k := 2)) (all_cons Shp.int all_nil))
  | .times a b c, _ => all_cons Shp.int (all_cons Shp.int (all_cons Shp.int all_nil))
  | .row bs rows, _ => all_cons Shp.intsT (all_cons (Shp.tup (all_map (enc := tI) fun p _ => Shp.intsT)) all_nil)
  | .pick bs a c, _ => all_cons Shp.intsT (all_cons Shp.int (all_cons Shp.int all_nil))
  | .unlike bs, _ => all_cons Shp.intsT all_nil
  | .path bs st ends, _ => all_cons Shp.intsT (all_cons (Shp.tup (all_map fun p _ => shp_3 p)) (all_cons Shp.intsT all_nil))
  | .works ws most, _ => all_cons (Shp.tup (all_map fun p _ => shp_3 p)) (all_cons Shp.int all_nil)
  | .many bs ws c, _ => all_cons Shp.intsT (all_cons Shp.intsT (all_cons Shp.int all_nil))
  | .some ss, _ => all_cons (Shp.tup (all_map fun p _ => shp_S p)) all_nil
  | .iff ss w, h => by simp [Wish.deep] at h
theorem shp_W0 {w : Wish} (h : w.deep = 0) : Shp 3 (encW w) := Shp.tup (all_cons Shp.str (shp_R0 h))
theorem shp_W {w : Wish} (h : w.deep ≤ 1) : Shp 4 (encW w) := by
  cases w with
  | iff ss w => exact Shp.tup (all_cons Shp.str (all_cons ((Shp.tup (all_map fun p _ => shp_S p)).mono (by decide)) (all_cons (shp_W0 (w := w) (by simp only [Wish.deep] at h; omega)) all_nil)))
  | _ => exact (shp_W0 rfl).mono (by decide)
theorem rp_word (w : Wish) : Rp 10 (sw w.word) := by
  have key : ∀ x ∈ ["sum", "times", "row", "pick", "unlike", "path", "works", "many", "some", "if"], Rp 10 (sw x) := by
    intro x hx
    simp only [List.mem_cons, List.not_mem_nil, or_false] at hx
    rcases hx with rfl | rfl | rfl | rfl | rfl | rfl | rfl | rfl | rfl | rfl <;> exact ⟨by simp only [sw, PyData.showable], by decide +kernel, by decide +kernel⟩
  cases w <;> exact key _ (by simp [Wish.word])
theorem rp_sw (w : SW) : Rp 10 (sw w.str) := by
  cases w <;> exact ⟨by simp only [sw, PyData.showable], by decide +kernel, by decide +kernel⟩
theorem rp_lm (b : Bool) : Rp 10 (sw (lm b)) := by
  cases b <;> exact ⟨by simp only [sw, PyData.showable], by decide +kernel, by decide +kernel⟩
theorem Rp.tup' {k n m : Nat} {l : List D} (h : ∀ x ∈ l, Rp k x) (hl : l.length ≤ n) (hm : n * (k + 2) + 3 ≤ m) : Rp m (.tuple l) :=
  (Rp.tup h).mono (Nat.le_trans (Nat.add_le_add_right (Nat.mul_le_mul_right _ hl) 3) hm)
theorem sb {nb : Nat} {b : Int} (h : inB nb b) (hn : nb ≤ 24) : smallI b = true := by
  obtain ⟨h0, h1⟩ := h
  exact small_of (by omega) (by omega)
theorem rp_tI {l : List Int} {n : Nat} (h : ∀ x ∈ l, smallI x = true) (hl : l.length ≤ n) : Rp (n * 24 + 3) (tI l) := Rp.tup' (all_map fun x hx => Rp.int (h x hx)) (by rw [List.length_map]; exact hl) (Nat.le_refl _)
theorem rp_bs {nb : Nat} {bs : List Int} (h : boxesOk nb bs) (hn : nb ≤ 24) : Rp 40000 (tI bs) := by
  have := nodup_few h.2.1 h.2.2
  exact (rp_tI (n := 24) (fun x hx => sb (h.2.1 x hx) hn) (by omega)).mono (by decide)
theorem rp_S {nb : Nat} {s : Sgn} (h : s.wf nb) (hn : nb ≤ 24) : Rp 100 (encS s) := by
  obtain ⟨h1, h2, h3⟩ := h
  exact Rp.tup' (k := 22) (n := 3) (all_cons ((rp_sw s.w).mono (by decide)) (all_cons (Rp.int (sb h1 hn)) (all_cons (Rp.int (small_of (by omega) (by omega))) all_nil))) (by simp) (by decide)
theorem rp_3 {p : P3} (h1 : smallI p.1 = true) (h2 : smallI p.2.1 = true) (h3 : smallI p.2.2 = true) : Rp 100 (enc3 p) :=
  Rp.tup' (k := 22) (n := 3) (all_cons (Rp.int h1) (all_cons (Rp.int h2) (all_cons (Rp.int h3) all_nil))) (by simp) (by decide)
theorem rp_2 {p : P2} (h1 : smallI p.1 = true) (h2 : smallI p.2 = true) : Rp 100 (enc2 p) :=
  Rp.tup' (k := 22) (n := 2) (all_cons (Rp.int h1) (all_cons (Rp.int h2) all_nil)) (by simp) (by decide)
theorem rp_R0 {nb : Nat} (hn : nb ≤ 24) : ∀ {w : Wish}, w.deep = 0 → w.wf nb → ∀ d ∈ encR w, Rp 40000 d
  | .sum ts le n, _, h => all_cons (Rp.tup' (k := 100) (n := 8) (all_map fun p hp => rp_2 (small_of (by have := h.2.2.1 p hp; omega) (by have := h.2.2.1 p hp; omega)) (sb (h.2.2.2.1.2.1 _ (List.mem_map_of_mem hp)) hn)) (by rw [List.length_map]; exact h.2.1) (by decide)) (all_cons ((rp_lm le).mono (by decide)) (all_cons ((Rp.int h.2.2.2.2).mono (by decide)) all_nil))
  | .times a b c, _, h => all_cons ((Rp.int (sb h.1 hn)).mono (by decide)) (all_cons ((Rp.int (sb h.2.1 hn)).mono (by decide)) (all_cons ((Rp.int (sb h.2.2.1 hn)).mono (by decide)) all_nil))
  | .row bs rows, _, h => by
    have hb := nodup_few h.1.2.1 h.1.2.2
    exact all_cons (rp_bs h.1 hn) (all_cons (Rp.tup' (k := 579) (n := 60) (all_map (enc := tI) fun r hr => rp_tI (n := 24) (h.2.2 r hr).2 (by rw [(h.2.2 r hr).1]; omega)) (by rw [List.length_map]; exact h.2.1) (by decide)) all_nil)
  | .pick bs a c, _, h => all_cons (rp_bs h.1 hn) (all_cons ((Rp.int (sb h.2.1 hn)).mono (by decide)) (all_cons ((Rp.int (sb h.2.2.2.1 hn)).mono (by decide)) all_nil))
  | .unlike bs, _, h => all_cons (rp_bs h hn) all_nil
  | .path bs st ends, _, h => all_cons (rp_bs h.1 hn) (all_cons (Rp.tup' (k := 100) (n := 60) (all_map fun p hp => by
      have := h.2.2.1 p hp
      exact rp_3 (small_of (by omega) (by omega)) this.2.2.2.2 (small_of (by omega) (by omega))) (by rw [List.length_map]; exact h.2.1) (by decide)) (all_cons ((rp_tI (n := 60) (fun x hx => by have := h.2.2.2.1 x hx; exact small_of (by omega) (by omega)) h.2.2.2.2).mono (by decide)) all_nil))
  | .works ws most, _, h => all_cons (Rp.tup' (k := 100) (n := 8) (all_map fun p hp => by
      have := h.2.2.1 p hp
      exact rp_3 (sb (h.2.2.2.1.2.1 _ (List.mem_map_of_mem hp)) hn) (small_of (by omega) (by omega)) (small_of (by omega) (by omega))) (by rw [List.length_map]; exact h.2.1) (by decide)) (all_cons ((Rp.int (by have := h.2.2.2.2; exact small_of (by omega) (by omega))).mono (by decide)) all_nil)
  | .many bs ws c, _, h => all_cons (rp_bs h.1 hn) (all_cons ((rp_tI (n := 60) h.2.2.2.2.1 h.2.2.2.2.2).mono (by decide)) (all_cons ((Rp.int (sb h.2.2.1 hn)).mono (by decide)) all_nil))
  | .some ss, _, h => all_cons (Rp.tup' (k := 100) (n := 12) (all_map fun s hs => rp_S (h.2 s hs) hn) (by rw [List.length_map]; exact h.1) (by decide)) all_nil
  | .iff ss w, hd, h => by simp [Wish.deep] at hd
theorem encR_len : ∀ w : Wish, (encR w).length ≤ 3
  | .sum _ _ _ | .times _ _ _ | .row _ _ | .pick _ _ _ | .unlike _ | .path _ _ _ | .works _ _ | .many _ _ _ | .some _ | .iff _ _ => by simp [encR]
theorem rp_W0 {nb : Nat} (hn : nb ≤ 24) {w : Wish} (hd : w.deep = 0) (h : w.wf nb) : Rp 200000 (encW w) :=
  Rp.tup' (k := 40000) (n := 4) (all_cons ((rp_word w).mono (by decide)) (rp_R0 hn hd h)) (by have := encR_len w; simp only [List.length_cons]; omega) (by decide)
theorem rp_W {nb : Nat} (hn : nb ≤ 24) {w : Wish} (h : w.wf nb) : Rp 700000 (encW w) := by
  cases w with
  | iff ss w => exact Rp.tup' (k := 200000) (n := 3) (all_cons ((rp_word (.iff ss w)).mono (by decide)) (all_cons ((Rp.tup' (k := 100) (n := 12) (m := 200000) (all_map fun s hs => rp_S (h.2.2.1 s hs) hn) (by rw [List.length_map]; have := h.2.1; omega) (by decide))) (all_cons (rp_W0 hn h.2.2.2.2 h.2.2.2.1) all_nil))) (by simp [encR]) (by decide)
  | _ => exact (rp_W0 hn rfl h).mono (by decide)

/-! ### all fillings -/
def rz (lo hi : Int) : List Int := (List.range (hi + 1 - lo).toNat).map fun (i : Nat) => lo + (i : Int)
theorem rz_eq {lo hi : Int} : rangeD lo (hi + 1) = (rz lo hi).map PyData.int := by
  unfold rangeD rz
  rw [List.map_map]
  rfl
theorem mem_rz {lo hi x : Int} : x ∈ rz lo hi ↔ lo ≤ x ∧ x ≤ hi := by
  unfold rz
  constructor
  · intro h
    obtain ⟨i, hi2, rfl⟩ := List.mem_map.mp h
    rw [List.mem_range] at hi2
    omega
  · intro h
    refine List.mem_map.mpr ⟨(x - lo).toNat, List.mem_range.mpr (by omega), by omega⟩
theorem rz_len {lo hi : Int} : (rz lo hi).length = (hi + 1 - lo).toNat := by unfold rz; rw [List.length_map, List.length_range]
def step1 (found : List (List Int)) (lot : List Int) : List (List Int) := found.flatMap fun f => lot.map fun w => f ++ [w]
def prodL (lots : List (List Int)) : List (List Int) := lots.foldl step1 [[]]
theorem step1_len (lot : List Int) : ∀ found : List (List Int), (step1 found lot).length = found.length * lot.length
  | [] => by simp [step1]
  | f :: fs => by
    have := step1_len lot fs
    unfold step1 at this ⊢
    rw [List.flatMap_cons, List.length_append, this, List.length_map, List.length_cons, Nat.add_mul]
    omega
theorem prod_len {m : Nat} : ∀ {lots : List (List Int)}, (∀ l ∈ lots, l.length ≤ m) → 0 < m → (prodL lots).length ≤ m ^ lots.length := by
  have key : ∀ (lots : List (List Int)) (found : List (List Int)), (∀ l ∈ lots, l.length ≤ m) → (lots.foldl step1 found).length ≤ found.length * m ^ lots.length := by
    intro lots
    induction lots with
    | nil => intro found _; simp
    | cons l lots ih =>
      intro found h
      rw [List.foldl_cons]
      refine Nat.le_trans (ih _ fun x hx => h x (List.mem_cons_of_mem _ hx)) ?_
      rw [step1_len, List.length_cons, Nat.pow_succ, Nat.mul_assoc, Nat.mul_comm (m ^ lots.length) m, ← Nat.mul_assoc, ← Nat.mul_assoc]
      exact Nat.mul_le_mul_right _ (Nat.mul_le_mul_left _ (h l List.mem_cons_self))
  intro lots h hm
  have := key lots [[]] h
  unfold prodL
  simpa using this
def Out2 (lots : List (List Int)) (f : List Int) : Prop := All2 (fun l x => x ∈ l) lots f
theorem prod_mem : ∀ {lots : List (List Int)} {f : List Int}, f ∈ prodL lots ↔ Out2 lots f := by
  have key : ∀ (lots found : List (List Int)) (f : List Int), f ∈ lots.foldl step1 found ↔ ∃ g h, g ∈ found ∧ f = g ++ h ∧ Out2 lots h := by
    intro lots
    induction lots with
    | nil =>
      intro found f
      constructor
      · intro h; exact ⟨f, [], h, by simp, trivial⟩
      · rintro ⟨g, h, hg, rfl, h2⟩
        cases h with
        | nil => simpa using hg
        | cons _ _ => exact h2.elim
    | cons l lots ih =>
      intro found f
      rw [List.foldl_cons, ih]
      constructor
      · rintro ⟨g, h, hg, rfl, h2⟩
        unfold step1 at hg
        obtain ⟨f0, hf0, hg2⟩ := List.mem_flatMap.mp hg
        obtain ⟨w, hw, rfl⟩ := List.mem_map.mp hg2
        exact ⟨f0, w :: h, hf0, by simp, hw, h2⟩
      · rintro ⟨g, h, hg, rfl, h2⟩
        cases h with
        | nil => exact h2.elim
        | cons w h =>
          refine ⟨g ++ [w], h, ?_, by simp, h2.2⟩
          unfold step1
          exact List.mem_flatMap.mpr ⟨g, hg, List.mem_map.mpr ⟨w, h2.1, rfl⟩⟩
  intro lots f
  unfold prodL
  rw [key]
  constructor
  · rintro ⟨g, h, hg, rfl, h2⟩
    rw [List.mem_singleton.mp hg]
    exact h2
  · intro h
    exact ⟨[], f, by simp, rfl, h⟩
theorem All2.mono {α β γ : Type} {R : α → β → Prop} {S : γ → β → Prop} {g : γ → α} (h : ∀ x y, R (g x) y → S x y) : ∀ {xs : List γ} {ys : List β}, All2 R (xs.map g) ys → All2 S xs ys
  | [], [], _ => trivial
  | a :: xs, b :: ys, h2 => ⟨h a b h2.1, All2.mono h h2.2⟩
  | [], _ :: _, h2 => h2.elim
  | _ :: _, [], h2 => h2.elim
theorem out_fill {bs : List Bx} {f : List Int} (h : f ∈ prodL (bs.map fun b => rz b.lo b.hi)) : Fill bs f :=
  All2.mono (R := fun (l : List Int) x => x ∈ l) (S := fun (b : Bx) x => b.lo ≤ x ∧ x ≤ b.hi) (g := fun b : Bx => rz b.lo b.hi) (fun b x h => mem_rz.mp h) (prod_mem.mp h)

/-! ### works at any moment -/
theorem sum_mono {ws : List P3} {c1 c2 : P3 → Bool} (h0 : ∀ p ∈ ws, 0 ≤ p.2.2) (h : ∀ p ∈ ws, c1 p = true → c2 p = true) : ((ws.filter c1).map (·.2.2)).sum ≤ ((ws.filter c2).map (·.2.2)).sum := by
  induction ws with
  | nil => simp
  | cons p ws ih =>
    have ih := ih (fun q hq => h0 q (List.mem_cons_of_mem _ hq)) fun q hq => h q (List.mem_cons_of_mem _ hq)
    have hp := h0 p List.mem_cons_self
    rw [List.filter_cons, List.filter_cons]
    cases e1 : c1 p
    · rw [if_neg (by decide)]
      cases e2 : c2 p
      · rw [if_neg (by decide)]; exact ih
      · rw [if_pos rfl, List.map_cons, List.sum_cons]; omega
    · rw [h p List.mem_cons_self e1, if_pos rfl, if_pos rfl, List.map_cons, List.map_cons, List.sum_cons, List.sum_cons]
      omega
theorem max_of {α : Type} (g : α → Int) : ∀ {l : List α}, l ≠ [] → ∃ m ∈ l, ∀ x ∈ l, g x ≤ g m
  | [], h => absurd rfl h
  | [a], _ => ⟨a, List.mem_cons_self, fun x hx => by rw [List.mem_singleton.mp hx]; exact Int.le_refl _⟩
  | a :: b :: l, _ => by
    obtain ⟨m, hm, h⟩ := max_of g (l := b :: l) (by simp)
    by_cases hc : g m ≤ g a
    · refine ⟨a, List.mem_cons_self, fun x hx => ?_⟩
      rcases List.mem_cons.mp hx with e | e
      · rw [e]; exact Int.le_refl _
      · exact Int.le_trans (h x e) hc
    · refine ⟨m, List.mem_cons_of_mem _ hm, fun x hx => ?_⟩
      rcases List.mem_cons.mp hx with e | e
      · rw [e]; omega
      · exact h x e
theorem going_any {ws : List P3} {f : List Int} {most t : Int} (h0 : ∀ p ∈ ws, 0 ≤ p.2.2) (hm : 0 ≤ most) (h : ∀ p ∈ ws, going ws f (at_ f p.1) ≤ most) : going ws f t ≤ most := by
  by_cases hs : (ws.filter fun p => decide (at_ f p.1 ≤ t) && decide (t < at_ f p.1 + p.2.1)) = []
  · unfold going
    rw [hs]
    exact hm
  · obtain ⟨m, hm1, hm2⟩ := max_of (fun p : P3 => at_ f p.1) hs
    have hm3 := List.mem_filter.mp hm1
    refine Int.le_trans ?_ (h m hm3.1)
    unfold going
    refine sum_mono h0 fun p hp hc => ?_
    have h5 := hm2 p (List.mem_filter.mpr ⟨hp, hc⟩)
    have h6 := hm3.2
    simp only [Bool.and_eq_true, decide_eq_true_eq] at hc h6 ⊢
    omega
theorem sum_mul {ws : List P3} {c : P3 → Bool} : (ws.map fun p => p.2.2 * (if c p = true then 1 else 0)).sum = ((ws.filter c).map (·.2.2)).sum := by
  induction ws with
  | nil => rfl
  | cons p ws ih =>
    rw [List.map_cons, List.sum_cons, ih, List.filter_cons]
    cases e : c p
    · rw [if_neg (by decide), if_neg (by decide)]; simp
    · rw [if_pos rfl, if_pos rfl, List.map_cons, List.sum_cons, Int.mul_one]
theorem minL_le {a : Int} : ∀ {l : List Int}, minL a l ≤ a ∧ ∀ x ∈ l, minL a l ≤ x
  | [] => ⟨Int.le_refl _, fun x hx => by cases hx⟩
  | b :: l => by
    have h := minL_le (a := if b < a then b else a) (l := l)
    unfold minL
    refine ⟨?_, fun x hx => ?_⟩
    · have := h.1; split at this <;> rename_i hc <;> simp only [hc, if_true, if_false] <;> omega
    · rcases List.mem_cons.mp hx with e | e
      · rw [e]; have := h.1; split at this <;> rename_i hc <;> simp only [hc, if_true, if_false] <;> omega
      · exact h.2 x e
theorem le_maxL {a : Int} : ∀ {l : List Int}, a ≤ maxL a l ∧ ∀ x ∈ l, x ≤ maxL a l
  | [] => ⟨Int.le_refl _, fun x hx => by cases hx⟩
  | b :: l => by
    have h := le_maxL (a := if a < b then b else a) (l := l)
    unfold maxL
    refine ⟨?_, fun x hx => ?_⟩
    · have := h.1; split at this <;> rename_i hc <;> simp only [hc, if_true, if_false] <;> omega
    · rcases List.mem_cons.mp hx with e | e
      · rw [e]; have := h.1; split at this <;> rename_i hc <;> simp only [hc, if_true, if_false] <;> omega
      · exact h.2 x e
theorem minL_mem {a : Int} : ∀ {l : List Int}, minL a l ∈ a :: l
  | [] => List.mem_cons_self
  | b :: l => by
    have h := minL_mem (a := if b < a then b else a) (l := l)
    unfold minL
    rcases List.mem_cons.mp h with e | e
    · rw [e]; split <;> simp
    · simp [e]
theorem maxL_mem {a : Int} : ∀ {l : List Int}, maxL a l ∈ a :: l
  | [] => List.mem_cons_self
  | b :: l => by
    have h := maxL_mem (a := if a < b then b else a) (l := l)
    unfold maxL
    rcases List.mem_cons.mp h with e | e
    · rw [e]; split <;> simp
    · simp [e]
section
variable {r : Ev} {q : D → Bool → Ev → Prop}
theorem u_minL {a : Int} {l : List Int} (hq : q (.int (minL a l)) false r) : @wpO (dBi .min [.list ((a :: l).map .int)]) r ⟨q⟩ := by
  show @wpO ((intsOf ((a :: l).map .int)).bind _) r ⟨q⟩
  rw [intsOf_map]; exact hq
theorem u_maxL {a : Int} {l : List Int} (hq : q (.int (maxL a l)) false r) : @wpO (dBi .max [.list ((a :: l).map .int)]) r ⟨q⟩ := by
  show @wpO ((intsOf ((a :: l).map .int)).bind _) r ⟨q⟩
  rw [intsOf_map]; exact hq
theorem rng_ij {i j : Int} {fr : Bool} (h0 : -1000000 ≤ i) (h1 : i ≤ 1000000) (h2 : -1000000 ≤ j) (h3 : j ≤ 1000000) (hq : q (.list (rangeD i j)) fr r) : @wpRng (.int i) (.int j) fr r ⟨q⟩ := by
  refine rng_ok ?_ hq
  unfold rngOk
  have hl : line = 16777216 := rfl
  rw [decide_eq_true (show (-4611686018427387904 : Int) ≤ i by omega), decide_eq_true (show i < 4611686018427387904 by omega), decide_eq_true (show -4611686018427387904 ≤ j by omega), decide_eq_true (show j < 4611686018427387904 by omega), decide_eq_true (by rw [hl]; omega)]
  rfl
theorem o_mulL {l : List D} {k : Int} (h : (decide (-9223372036854775808 ≤ k) && decide (k < 9223372036854775808) && decide (l.length * k.toNat ≤ line)) = true) (hq : q (.list (List.replicate k.toNat l).flatten) true r) : @wpO (dBin .mul (.list l) (.int k)) r ⟨q⟩ := by
  show @wpO (if (decide (-9223372036854775808 ≤ k) && decide (k < 9223372036854775808) && decide (l.length * k.toNat ≤ line)) = true then _ else _) r ⟨q⟩
  rw [if_pos h]; exact hq
end
theorem word_works {w : Wish} (h : w.word = "works") : ∃ ws most, w = .works ws most := by
  cases w <;> first | exact ⟨_, _, rfl⟩ | (simp [Wish.word] at h)
end WM

set_option Elab.async false
set_option linter.all false
set_option maxRecDepth 100000
namespace K11
open PySem PySem.Spec PyProof.Rows L2 TP
def top (i : Nat) : Stmt := PySem.Challenge.pw_reasonedboxes_k11_what_fillings_grant.main.body.getD i (.Pass ⟨0, 0, 0, 0⟩)
/-- says -/
def c_says : CS := (.seq (.unp (.cons (.nm 2) (.cons (.nm 3) (.cons (.nm 4) .nil))) [0] (.var 0))
    (.seq (.ifs [2] (.cmp .eq (.var 2) (.cst (.str "least")))
    (.seq (.ret [1, 4] (.cmp .ge (.var 1) (.var 4)))
    .skip)
    .skip)
    (.seq (.ifs [2] (.cmp .eq (.var 2) (.cst (.str "most")))
    (.seq (.ret [1, 4] (.cmp .le (.var 1) (.var 4)))
    .skip)
    .skip)
    (.seq (.ret [1, 2, 4] (.cmp .eq (.cmp .eq (.var 1) (.var 4)) (.cmp .eq (.var 2) (.cst (.str "is")))))
    .skip))))
def d_says : DT := ⟨"says", ["sign", "worth", "word", "box", "own"], ["sign", "worth"], top 1, ⟨2, 5, false, c_says⟩⟩
/-- holds -/
def c_holds : CS := (.seq (.ret [0, 1] (.call 0 (.cons (.var 0) (.cons (.idx (.var 1) (.idx (.var 0) (.cst (.int 1)))) .nil))))
    .skip)
def d_holds : DT := ⟨"holds", ["sign", "filling"], ["sign", "filling"], top 2, ⟨2, 2, false, c_holds⟩⟩
/-- are_unlike -/
def c_are_unlike : CS := (.seq (.ret [0] (.cmp .eq (.lsc (.var 1) (.nm 1) (.seq (.var 0)) [1]) (.bi .len (.cons (.var 0) .nil))))
    .skip)
def d_are_unlike : DT := ⟨"are_unlike", ["things", "thing"], ["things"], top 4, ⟨1, 2, false, c_are_unlike⟩⟩
/-- grants_sum -/
def c_grants_sum : CS := (.seq (.unp (.cons (.nm 3) (.cons (.nm 4) (.cons (.nm 5) .nil))) [1] (.var 1))
    (.seq (.asg 2 [0, 3] (.bi .sum (.cons (.lc (.bin .mul (.var 6) (.idx (.var 0) (.var 7))) (.cons (.nm 6) (.cons (.nm 7) .nil)) (.seq (.var 3)) (.cst (.bool true)) [6, 7]) .nil)))
    (.seq (.ret [2, 4, 5] (.ite (.cmp .eq (.var 4) (.cst (.str "least"))) (.cmp .ge (.var 2) (.var 5)) (.cmp .le (.var 2) (.var 5))))
    .skip)))
def d_grants_sum : DT := ⟨"grants_sum", ["filling", "rest", "total", "terms", "word", "number", "factor", "box"], ["filling", "rest"], top 5, ⟨2, 8, false, c_grants_sum⟩⟩
/-- grants_times -/
def c_grants_times : CS := (.seq (.unp (.cons (.nm 2) (.cons (.nm 3) (.cons (.nm 4) .nil))) [1] (.var 1))
    (.seq (.ret [0, 2, 3, 4] (.cmp .eq (.bin .mul (.idx (.var 0) (.var 2)) (.idx (.var 0) (.var 3))) (.idx (.var 0) (.var 4))))
    .skip))
def d_grants_times : DT := ⟨"grants_times", ["filling", "rest", "one", "other", "box"], ["filling", "rest"], top 6, ⟨2, 5, false, c_grants_times⟩⟩
/-- grants_row -/
def c_grants_row : CS := (.seq (.unp (.cons (.nm 2) (.cons (.nm 3) .nil)) [1] (.var 1))
    (.seq (.ret [0, 2, 3] (.cmp .isin (.bi .tuple (.cons (.lc (.idx (.var 0) (.var 4)) (.nm 4) (.seq (.var 2)) (.cst (.bool true)) [4]) .nil)) (.var 3)))
    .skip))
def d_grants_row : DT := ⟨"grants_row", ["filling", "rest", "some", "rows", "box"], ["filling", "rest"], top 7, ⟨2, 5, false, c_grants_row⟩⟩
/-- grants_pick -/
def c_grants_pick : CS := (.seq (.unp (.cons (.nm 2) (.cons (.nm 3) (.cons (.nm 4) .nil))) [1] (.var 1))
    (.seq (.ret [0, 2, 3, 4] (.and (.chain .le .lt (.cst (.int 0)) (.idx (.var 0) (.var 3)) (.bi .len (.cons (.var 2) .nil))) (.cmp .eq (.idx (.var 0) (.idx (.var 2) (.idx (.var 0) (.var 3)))) (.idx (.var 0) (.var 4)))))
    .skip))
def d_grants_pick : DT := ⟨"grants_pick", ["filling", "rest", "some", "at", "box"], ["filling", "rest"], top 8, ⟨2, 5, false, c_grants_pick⟩⟩
/-- grants_unlike -/
def c_grants_unlike : CS := (.seq (.asg 2 [1] (.idx (.var 1) (.cst (.int 0))))
    (.seq (.ret [0, 2] (.call 2 (.cons (.lc (.idx (.var 0) (.var 3)) (.nm 3) (.seq (.var 2)) (.cst (.bool true)) [3]) .nil)))
    .skip))
def d_grants_unlike : DT := ⟨"grants_unlike", ["filling", "rest", "some", "box"], ["filling", "rest"], top 9, ⟨2, 4, false, c_grants_unlike⟩⟩
/-- grants_path -/
def c_grants_path : CS := (.seq (.unp (.cons (.nm 4) (.cons (.nm 5) (.cons (.nm 6) .nil))) [1] (.var 1))
    (.seq (.asg 2 [] (.lst (.cons (.cst (.int 0)) .nil)))
    (.seq (.for_ (.nm 3) [4] false (.seq (.var 4))
    (.seq (.asg 2 [0, 2, 3, 5] (.lc (.var 9) (.cons (.nm 7) (.cons (.nm 8) (.cons (.nm 9) .nil))) (.seq (.var 5)) (.and (.cmp .isin (.var 7) (.var 2)) (.cmp .eq (.var 8) (.idx (.var 0) (.var 3)))) [7, 8, 9]))
    .skip))
    (.seq (.ret [2, 6] (.bi .any (.cons (.lc (.cmp .isin (.var 7) (.var 6)) (.nm 7) (.seq (.var 2)) (.cst (.bool true)) [7]) .nil)))
    .skip))))
def d_grants_path : DT := ⟨"grants_path", ["filling", "rest", "stands", "box", "some", "steps", "ends", "stand", "worth", "later"], ["filling", "rest"], top 10, ⟨2, 10, false, c_grants_path⟩⟩
/-- grants_works -/
def c_grants_works : CS := (.seq (.unp (.cons (.nm 2) (.cons (.nm 3) .nil)) [1] (.var 1))
    (.seq (.for_ (.cons (.nm 4) (.cons (.nm 5) (.cons (.nm 6) .nil))) [2] false (.seq (.var 2))
    (.seq (.asg 7 [0, 4] (.idx (.var 0) (.var 4)))
    (.seq (.asg 8 [0, 2, 7] (.lc (.var 11) (.cons (.nm 9) (.cons (.nm 10) (.cons (.nm 11) .nil))) (.seq (.var 2)) (.chain .le .lt (.idx (.var 0) (.var 9)) (.var 7) (.bin .add (.idx (.var 0) (.var 9)) (.var 10))) [9, 10, 11]))
    (.seq (.ifs [3, 8] (.cmp .gt (.bi .sum (.cons (.var 8) .nil)) (.var 3))
    (.seq (.ret [] (.cst (.bool false)))
    .skip)
    .skip)
    .skip))))
    (.seq (.ret [] (.cst (.bool true)))
    .skip)))
def d_grants_works : DT := ⟨"grants_works", ["filling", "rest", "works", "most", "first", "span", "load", "moment", "going", "box", "long", "much"], ["filling", "rest"], top 11, ⟨2, 12, false, c_grants_works⟩⟩
/-- grants_many -/
def c_grants_many : CS := (.seq (.unp (.cons (.nm 2) (.cons (.nm 3) (.cons (.nm 4) .nil))) [1] (.var 1))
    (.seq (.ret [0, 2, 3, 4] (.cmp .eq (.bi .len (.cons (.lc (.var 5) (.nm 5) (.seq (.var 2)) (.cmp .isin (.idx (.var 0) (.var 5)) (.var 3)) [5]) .nil)) (.idx (.var 0) (.var 4))))
    .skip))
def d_grants_many : DT := ⟨"grants_many", ["filling", "rest", "some", "worths", "box", "one"], ["filling", "rest"], top 12, ⟨2, 6, false, c_grants_many⟩⟩
/-- grants_some -/
def c_grants_some : CS := (.seq (.asg 2 [1] (.idx (.var 1) (.cst (.int 0))))
    (.seq (.ret [0, 2] (.bi .any (.cons (.lc (.call 1 (.cons (.var 3) (.cons (.var 0) .nil))) (.nm 3) (.seq (.var 2)) (.cst (.bool true)) [3]) .nil)))
    .skip))
def d_grants_some : DT := ⟨"grants_some", ["filling", "rest", "signs", "sign"], ["filling", "rest"], top 13, ⟨2, 4, false, c_grants_some⟩⟩
/-- grants_if -/
def c_grants_if : CS := (.seq (.unp (.cons (.nm 2) (.cons (.nm 3) .nil)) [1] (.var 1))
    (.seq (.ret [0, 2, 3] (.or (.not (.bi .all (.cons (.lc (.call 1 (.cons (.var 4) (.cons (.var 0) .nil))) (.nm 4) (.seq (.var 2)) (.cst (.bool true)) [4]) .nil))) (.call 13 (.cons (.var 3) (.cons (.var 0) .nil)))))
    .skip))
def d_grants_if : DT := ⟨"grants_if", ["filling", "rest", "signs", "wish", "sign"], ["filling", "rest"], top 14, ⟨2, 5, false, c_grants_if⟩⟩
/-- grants -/
def c_grants : CS := (.seq (.star (.cons (.nm 3) (.cons (.nm 4) .nil)) 1 [0] (.var 0))
    (.seq (.fsel "GRANTS" [("sum", 3), ("times", 4), ("row", 5), ("pick", 6), ("unlike", 7), ("path", 8), ("works", 9), ("many", 10), ("some", 11), ("if", 12)] 2 [3] (.var 3))
    (.seq (.ret [1, 4] (.callV 2 (.cons (.var 1) (.cons (.var 4) .nil))))
    .skip)))
def d_grants : DT := ⟨"grants", ["wish", "filling", "told", "word", "rest"], ["wish", "filling"], top 16, ⟨2, 5, false, c_grants⟩⟩
/-- _law_pool -/
def c_l_pool : CS := (.seq (.asg 2 [] (.cst (.int 0)))
    (.seq (.ifs [0, 1] (.cmp .lt (.var 1) (.bi .len (.cons (.var 0) .nil)))
    (.seq (.asg 2 [0, 1] (.idx (.var 0) (.var 1)))
    .skip)
    .skip)
    (.seq (.asg 3 [2] (.bi .max (.cons (.var 2) (.cons (.bin .sub (.neg (.cst (.int 1))) (.var 2)) .nil))))
    (.seq (.asg 4 [1, 3] (.bin .mod (.bin .add (.bin .add (.bin .mul (.bin .mod (.var 3) (.cst (.int 2147483629))) (.cst (.int 16807))) (.bin .mul (.cst (.int 104729)) (.var 1))) (.cst (.int 11))) (.cst (.int 2147483647))))
    (.seq (.ifs [3] (.cmp .lt (.var 3) (.bin .pow (.cst (.int 10)) (.cst (.int 18))))
    (.seq (.asg 3 [] (.cst (.int 0)))
    .skip)
    .skip)
    (.seq (.ret [3, 4] (.lst (.cons (.var 3) (.cons (.var 4) .nil))))
    .skip))))))
def d_l_pool : DT := ⟨"_law_pool", ["_law_script", "_law_k", "_law_cell", "_law_number", "_law_seed"], ["_law_script", "_law_k"], top 18, ⟨2, 5, false, c_l_pool⟩⟩
/-- _law_take -/
def c_l_take : CS := (.seq (.ifs [0] (.cmp .gt (.idx (.var 0) (.cst (.int 0))) (.cst (.int 0)))
    (.seq (.asg 2 [0, 1] (.bin .mod (.idx (.var 0) (.cst (.int 0))) (.var 1)))
    (.seq (.sto 0 [0, 1] (.cst (.int 0)) (.bin .fdiv (.idx (.var 0) (.cst (.int 0))) (.var 1)))
    (.seq (.ret [2] (.var 2))
    .skip)))
    .skip)
    (.seq (.sto 0 [0] (.cst (.int 1)) (.bin .mod (.bin .add (.bin .mul (.idx (.var 0) (.cst (.int 1))) (.cst (.int 48271))) (.cst (.int 11))) (.cst (.int 2147483647))))
    (.seq (.ret [0, 1] (.bin .mod (.bin .fdiv (.bin .mod (.bin .mul (.idx (.var 0) (.cst (.int 1))) (.idx (.var 0) (.cst (.int 1)))) (.cst (.int 2147483629))) (.cst (.int 64))) (.var 1)))
    .skip)))
def d_l_take : DT := ⟨"_law_take", ["_law_pool_here", "_law_many", "_law_digit"], ["_law_pool_here", "_law_many"], top 19, ⟨2, 3, true, c_l_take⟩⟩
/-- _law_boxes -/
def c_l_boxes : CS := (.seq (.asg 3 [] (.lst (.cons (.cst (.str "a")) (.cons (.cst (.str "bc")) (.cons (.cst (.str "x")) (.cons (.cst (.str "y")) (.cons (.cst (.str "zz")) (.cons (.cst (.str "total")) (.cons (.cst (.str "k")) (.cons (.cst (.str "m")) .nil))))))))))
    (.seq (.asg 4 [] (.lst .nil))
    (.seq (.for_ (.nm 5) [1, 3] false (.seq (.sli (.var 3) .none (.bin .add (.cst (.int 1)) (.callM 15 0 (.cons (.var 1) .nil)))))
    (.seq (.asg 6 [] (.idx (.lst (.cons (.cst (.int 0)) (.cons (.cst (.int 0)) (.cons (.cst (.int 1)) (.cons (.neg (.cst (.int 1))) (.cons (.neg (.cst (.int 2))) (.cons (.cst (.int 7)) .nil))))))) (.callM 15 0 (.cons (.cst (.int 6)) .nil))))
    (.seq (.mut .append 4 [2, 5, 6] (.cons (.tup (.cons (.var 5) (.cons (.var 6) (.cons (.bin .add (.var 6) (.callM 15 0 (.cons (.var 2) .nil))) .nil)))) .nil))
    .skip)))
    (.seq (.ret [4] (.var 4))
    .skip))))
def d_l_boxes : DT := ⟨"_law_boxes", ["_law_pool_here", "_law_most", "_law_wide", "_law_names", "_law_found", "_law_name", "_law_low"], ["_law_pool_here", "_law_most", "_law_wide"], top 20, ⟨3, 7, true, c_l_boxes⟩⟩
/-- _law_sign -/
def c_l_sign : CS := (.seq (.asg 2 [1] (.callM 15 0 (.cons (.bi .len (.cons (.var 1) .nil)) .nil)))
    (.seq (.unp (.cons (.nm 4) (.cons (.nm 5) .nil)) [1, 2] (.sli (.idx (.var 1) (.var 2)) (.cst (.int 1)) .none))
    (.seq (.asg 3 [4, 5] (.bin .add (.bin .sub (.var 4) (.cst (.int 1))) (.callM 15 0 (.cons (.bin .add (.bin .sub (.var 5) (.var 4)) (.cst (.int 3))) .nil))))
    (.seq (.ret [2, 3] (.tup (.cons (.idx (.lst (.cons (.cst (.str "least")) (.cons (.cst (.str "most")) (.cons (.cst (.str "is")) (.cons (.cst (.str "isnt")) .nil))))) (.callM 15 0 (.cons (.cst (.int 4)) .nil))) (.cons (.var 2) (.cons (.var 3) .nil)))))
    .skip))))
def d_l_sign : DT := ⟨"_law_sign", ["_law_pool_here", "_law_boxes_here", "_law_box", "_law_worth", "_law_low", "_law_high"], ["_law_pool_here", "_law_boxes_here"], top 21, ⟨2, 6, true, c_l_sign⟩⟩
/-- _law_picked -/
def c_l_picked : CS := (.seq (.asg 3 [1] (.bi .list (.cons (.var 1) .nil)))
    (.seq (.ret [2] (.bi .tuple (.cons (.lc (.popO 3 (.callM 15 0 (.cons (.lenO 3) .nil))) (.nm 4) (.rng (.cst (.int 0)) (.bi .min (.cons (.var 2) (.cons (.lenO 3) .nil)))) (.cst (.bool true)) [4]) .nil)))
    .skip))
def d_l_picked : DT := ⟨"_law_picked", ["_law_pool_here", "_law_some", "_law_many", "_law_left", "_law_turn"], ["_law_pool_here", "_law_some", "_law_many"], top 22, ⟨3, 5, true, c_l_picked⟩⟩
/-- _law_worths -/
def c_l_worths : CS := (.seq (.ret [1] (.bi .tuple (.cons (.lc (.bin .sub (.callM 15 0 (.cons (.cst (.int 6)) .nil)) (.cst (.int 2))) (.nm 2) (.rng (.cst (.int 0)) (.var 1)) (.cst (.bool true)) [2]) .nil)))
    .skip)
def d_l_worths : DT := ⟨"_law_worths", ["_law_pool_here", "_law_many", "_law_turn"], ["_law_pool_here", "_law_many"], top 23, ⟨2, 3, true, c_l_worths⟩⟩
/-- _law_wish -/
def c_l_wish : CS := (.seq (.asg 3 [1] (.bi .len (.cons (.var 1) .nil)))
    (.seq (.asg 4 [3] (.lrng (.cst (.int 0)) (.var 3)))
    (.seq (.asg 5 [3, 4] (.callM 18 0 (.cons (.var 4) (.cons (.bin .add (.cst (.int 1)) (.callM 15 0 (.cons (.var 3) .nil))) .nil))))
    (.seq (.ifs [2, 3] (.or (.cmp .eq (.var 2) (.cst (.int 0))) (.or (.and (.cmp .eq (.var 2) (.cst (.int 1))) (.cmp .lt (.var 3) (.cst (.int 3)))) (.or (.and (.cmp .eq (.var 2) (.cst (.int 3))) (.cmp .lt (.var 3) (.cst (.int 3)))) (.and (.cmp .eq (.var 2) (.cst (.int 7))) (.cmp .lt (.var 3) (.cst (.int 2)))))))
    (.seq (.asg 7 [5] (.bi .tuple (.cons (.lc (.tup (.cons (.idx (.lst (.cons (.cst (.int 1)) (.cons (.cst (.int 2)) (.cons (.neg (.cst (.int 1))) (.cons (.neg (.cst (.int 3))) (.cons (.cst (.int 5)) .nil)))))) (.callM 15 0 (.cons (.cst (.int 5)) .nil))) (.cons (.var 12) .nil))) (.nm 12) (.seq (.sli (.var 5) .none (.cst (.int 8)))) (.cst (.bool true)) [12]) .nil)))
    (.seq (.ret [7] (.tup (.cons (.cst (.str "sum")) (.cons (.var 7) (.cons (.idx (.lst (.cons (.cst (.str "least")) (.cons (.cst (.str "most")) .nil))) (.callM 15 0 (.cons (.cst (.int 2)) .nil))) (.cons (.bin .sub (.callM 15 0 (.cons (.cst (.int 16)) .nil)) (.cst (.int 6))) .nil))))))
    .skip))
    .skip)
    (.seq (.ifs [2] (.cmp .eq (.var 2) (.cst (.int 1)))
    (.seq (.ret [4] (.bin .add (.tup (.cons (.cst (.str "times")) .nil)) (.callM 18 0 (.cons (.var 4) (.cons (.cst (.int 3)) .nil)))))
    .skip)
    .skip)
    (.seq (.ifs [2] (.cmp .eq (.var 2) (.cst (.int 2)))
    (.seq (.ret [5] (.tup (.cons (.cst (.str "row")) (.cons (.var 5) (.cons (.bi .tuple (.cons (.lc (.callM 19 0 (.cons (.bi .len (.cons (.var 5) .nil)) .nil)) (.nm 11) (.rng (.cst (.int 0)) (.callM 15 0 (.cons (.cst (.int 6)) .nil))) (.cst (.bool true)) [11]) .nil)) .nil)))))
    .skip)
    .skip)
    (.seq (.ifs [2] (.cmp .eq (.var 2) (.cst (.int 3)))
    (.seq (.asg 8 [3, 4] (.callM 18 0 (.cons (.var 4) (.cons (.var 3) .nil))))
    (.seq (.ret [8] (.tup (.cons (.cst (.str "pick")) (.cons (.sli (.var 8) (.cst (.int 2)) .none) (.cons (.idx (.var 8) (.cst (.int 0))) (.cons (.idx (.var 8) (.cst (.int 1))) .nil))))))
    .skip))
    .skip)
    (.seq (.ifs [2] (.cmp .eq (.var 2) (.cst (.int 4)))
    (.seq (.ret [5] (.tup (.cons (.cst (.str "unlike")) (.cons (.var 5) .nil))))
    .skip)
    .skip)
    (.seq (.ifs [2] (.cmp .eq (.var 2) (.cst (.int 5)))
    (.seq (.asg 9 [] (.bi .tuple (.cons (.lc (.tup (.cons (.callM 15 0 (.cons (.cst (.int 3)) .nil)) (.cons (.bin .sub (.callM 15 0 (.cons (.cst (.int 5)) .nil)) (.cst (.int 2))) (.cons (.callM 15 0 (.cons (.cst (.int 3)) .nil)) .nil)))) (.nm 11) (.rng (.cst (.int 0)) (.cst (.int 8))) (.cst (.bool true)) [11]) .nil)))
    (.seq (.ret [5, 9] (.tup (.cons (.cst (.str "path")) (.cons (.var 5) (.cons (.var 9) (.cons (.tup (.cons (.callM 15 0 (.cons (.cst (.int 3)) .nil)) (.cons (.cst (.int 1)) .nil))) .nil))))))
    .skip))
    .skip)
    (.seq (.ifs [2] (.cmp .eq (.var 2) (.cst (.int 6)))
    (.seq (.asg 10 [5] (.bi .tuple (.cons (.lc (.tup (.cons (.var 12) (.cons (.bin .add (.cst (.int 1)) (.callM 15 0 (.cons (.cst (.int 3)) .nil))) (.cons (.bin .add (.cst (.int 1)) (.callM 15 0 (.cons (.cst (.int 3)) .nil))) .nil)))) (.nm 12) (.seq (.var 5)) (.cst (.bool true)) [12]) .nil)))
    (.seq (.ret [10] (.tup (.cons (.cst (.str "works")) (.cons (.var 10) (.cons (.callM 15 0 (.cons (.cst (.int 6)) .nil)) .nil)))))
    .skip))
    .skip)
    (.seq (.ifs [2] (.cmp .eq (.var 2) (.cst (.int 7)))
    (.seq (.asg 8 [3, 4] (.callM 18 0 (.cons (.var 4) (.cons (.var 3) .nil))))
    (.seq (.ret [8] (.tup (.cons (.cst (.str "many")) (.cons (.sli (.var 8) (.cst (.int 1)) .none) (.cons (.bi .tuple (.cons (.sset (.callM 19 0 (.cons (.callM 15 0 (.cons (.cst (.int 4)) .nil)) .nil))) .nil)) (.cons (.idx (.var 8) (.cst (.int 0))) .nil))))))
    .skip))
    .skip)
    (.seq (.ifs [2] (.cmp .eq (.var 2) (.cst (.int 8)))
    (.seq (.ret [1] (.tup (.cons (.cst (.str "some")) (.cons (.bi .tuple (.cons (.lc (.callM 17 0 (.cons (.var 1) .nil)) (.nm 11) (.rng (.cst (.int 0)) (.callM 15 0 (.cons (.cst (.int 5)) .nil))) (.cst (.bool true)) [11]) .nil)) .nil))))
    .skip)
    .skip)
    (.seq (.asg 6 [1] (.bi .tuple (.cons (.lc (.callM 17 0 (.cons (.var 1) .nil)) (.nm 11) (.rng (.cst (.int 0)) (.bin .add (.cst (.int 1)) (.callM 15 0 (.cons (.cst (.int 3)) .nil)))) (.cst (.bool true)) [11]) .nil)))
    (.seq (.ret [1, 6] (.tup (.cons (.cst (.str "if")) (.cons (.var 6) (.cons (.callM 20 0 (.cons (.var 1) (.cons (.callM 15 0 (.cons (.cst (.int 9)) .nil)) .nil))) .nil)))))
    .skip))))))))))))))
def d_l_wish : DT := ⟨"_law_wish", ["_law_pool_here", "_law_boxes_here", "_law_way", "_law_size", "_law_all_of", "_law_some", "_law_signs", "_law_terms", "_law_order_drawn", "_law_steps", "_law_works", "_law_turn", "_law_box"], ["_law_pool_here", "_law_boxes_here", "_law_way"], top 24, ⟨3, 13, true, c_l_wish⟩⟩
/-- _law_says -/
def c_l_says : CS := (.seq (.unp (.cons (.nm 2) (.cons (.nm 3) (.cons (.nm 4) .nil))) [0] (.var 0))
    (.seq (.ifs [2] (.cmp .eq (.var 2) (.cst (.str "least")))
    (.seq (.ret [1, 4] (.cmp .ge (.var 1) (.var 4)))
    .skip)
    .skip)
    (.seq (.ifs [2] (.cmp .eq (.var 2) (.cst (.str "most")))
    (.seq (.ret [1, 4] (.cmp .le (.var 1) (.var 4)))
    .skip)
    .skip)
    (.seq (.ret [1, 2, 4] (.cmp .eq (.cmp .eq (.var 1) (.var 4)) (.cmp .eq (.var 2) (.cst (.str "is")))))
    .skip))))
def d_l_says : DT := ⟨"_law_says", ["_law_sign_here", "_law_worth", "_law_word", "_law_box", "_law_own"], ["_law_sign_here", "_law_worth"], top 25, ⟨2, 5, false, c_l_says⟩⟩
/-- _law_path_goes -/
def c_l_path_goes : CS := (.seq (.asg 4 [] (.lst (.cons (.cst (.int 0)) .nil)))
    (.seq (.for_ (.nm 5) [1] false (.seq (.var 1))
    (.seq (.asg 4 [0, 2, 4, 5] (.lc (.var 8) (.cons (.nm 6) (.cons (.nm 7) (.cons (.nm 8) .nil))) (.seq (.var 2)) (.and (.cmp .isin (.var 6) (.var 4)) (.cmp .eq (.var 7) (.idx (.var 0) (.var 5)))) [6, 7, 8]))
    .skip))
    (.seq (.ret [3, 4] (.cmp .ne (.lc (.var 6) (.nm 6) (.seq (.var 4)) (.cmp .isin (.var 6) (.var 3)) [6]) (.lst .nil)))
    .skip)))
def d_l_path_goes : DT := ⟨"_law_path_goes", ["_law_filling", "_law_boxes_here", "_law_steps", "_law_ends", "_law_stands", "_law_box", "_law_stand", "_law_worth", "_law_later"], ["_law_filling", "_law_boxes_here", "_law_steps", "_law_ends"], top 26, ⟨4, 9, false, c_l_path_goes⟩⟩
/-- _law_works_fit -/
def c_l_works_fit : CS := (.seq (.asg 3 [0, 1] (.lc (.idx (.var 0) (.var 5)) (.cons (.nm 5) (.cons (.nm 6) (.cons (.nm 7) .nil))) (.seq (.var 1)) (.cst (.bool true)) [5, 6, 7]))
    (.seq (.for_ (.nm 4) [3] false (.seq (.var 3))
    (.seq (.ifs [0, 1, 2, 4] (.cmp .gt (.bi .sum (.cons (.lc (.var 7) (.cons (.nm 5) (.cons (.nm 6) (.cons (.nm 7) .nil))) (.seq (.var 1)) (.chain .le .lt (.idx (.var 0) (.var 5)) (.var 4) (.bin .add (.idx (.var 0) (.var 5)) (.var 6))) [5, 6, 7]) .nil)) (.var 2))
    (.seq (.ret [] (.cst (.bool false)))
    .skip)
    .skip)
    .skip))
    (.seq (.ret [] (.cst (.bool true)))
    .skip)))
def d_l_works_fit : DT := ⟨"_law_works_fit", ["_law_filling", "_law_works", "_law_most", "_law_moments", "_law_moment", "_law_box", "_law_long", "_law_much"], ["_law_filling", "_law_works", "_law_most"], top 27, ⟨3, 8, false, c_l_works_fit⟩⟩
/-- _law_grants -/
def c_l_grants : CS := (.seq (.asg 2 [0] (.idx (.var 0) (.cst (.int 0))))
    (.seq (.ifs [2] (.cmp .eq (.var 2) (.cst (.str "sum")))
    (.seq (.asg 3 [0, 1] (.bi .sum (.cons (.lc (.bin .mul (.var 6) (.idx (.var 1) (.var 7))) (.cons (.nm 6) (.cons (.nm 7) .nil)) (.seq (.idx (.var 0) (.cst (.int 1)))) (.cst (.bool true)) [6, 7]) .nil)))
    (.seq (.ret [0, 3] (.ite (.cmp .eq (.idx (.var 0) (.cst (.int 2))) (.cst (.str "least"))) (.cmp .ge (.var 3) (.idx (.var 0) (.cst (.int 3)))) (.cmp .le (.var 3) (.idx (.var 0) (.cst (.int 3))))))
    .skip))
    .skip)
    (.seq (.ifs [2] (.cmp .eq (.var 2) (.cst (.str "times")))
    (.seq (.ret [0, 1] (.cmp .eq (.bin .mul (.idx (.var 1) (.idx (.var 0) (.cst (.int 1)))) (.idx (.var 1) (.idx (.var 0) (.cst (.int 2))))) (.idx (.var 1) (.idx (.var 0) (.cst (.int 3))))))
    .skip)
    .skip)
    (.seq (.ifs [2] (.cmp .eq (.var 2) (.cst (.str "row")))
    (.seq (.ret [0, 1] (.cmp .isin (.bi .tuple (.cons (.lc (.idx (.var 1) (.var 7)) (.nm 7) (.seq (.idx (.var 0) (.cst (.int 1)))) (.cst (.bool true)) [7]) .nil)) (.idx (.var 0) (.cst (.int 2)))))
    .skip)
    .skip)
    (.seq (.ifs [2] (.cmp .eq (.var 2) (.cst (.str "pick")))
    (.seq (.asg 4 [0, 1] (.idx (.var 1) (.idx (.var 0) (.cst (.int 2)))))
    (.seq (.ret [0, 1, 4] (.and (.chain .le .lt (.cst (.int 0)) (.var 4) (.bi .len (.cons (.idx (.var 0) (.cst (.int 1))) .nil))) (.cmp .eq (.idx (.var 1) (.idx (.idx (.var 0) (.cst (.int 1))) (.var 4))) (.idx (.var 1) (.idx (.var 0) (.cst (.int 3)))))))
    .skip))
    .skip)
    (.seq (.ifs [2] (.cmp .eq (.var 2) (.cst (.str "unlike")))
    (.seq (.ret [0, 1] (.cmp .eq (.lset (.lc (.idx (.var 1) (.var 7)) (.nm 7) (.seq (.idx (.var 0) (.cst (.int 1)))) (.cst (.bool true)) [7])) (.bi .len (.cons (.idx (.var 0) (.cst (.int 1))) .nil))))
    .skip)
    .skip)
    (.seq (.ifs [2] (.cmp .eq (.var 2) (.cst (.str "path")))
    (.seq (.ret [0, 1] (.call 22 (.cons (.var 1) (.cons (.idx (.var 0) (.cst (.int 1))) (.cons (.idx (.var 0) (.cst (.int 2))) (.cons (.idx (.var 0) (.cst (.int 3))) .nil))))))
    .skip)
    .skip)
    (.seq (.ifs [2] (.cmp .eq (.var 2) (.cst (.str "works")))
    (.seq (.ret [0, 1] (.call 23 (.cons (.var 1) (.cons (.idx (.var 0) (.cst (.int 1))) (.cons (.idx (.var 0) (.cst (.int 2))) .nil)))))
    .skip)
    .skip)
    (.seq (.ifs [2] (.cmp .eq (.var 2) (.cst (.str "many")))
    (.seq (.ret [0, 1] (.cmp .eq (.bi .len (.cons (.lc (.var 7) (.nm 7) (.seq (.idx (.var 0) (.cst (.int 1)))) (.cmp .isin (.idx (.var 1) (.var 7)) (.idx (.var 0) (.cst (.int 2)))) [7]) .nil)) (.idx (.var 1) (.idx (.var 0) (.cst (.int 3))))))
    .skip)
    .skip)
    (.seq (.ifs [2] (.cmp .eq (.var 2) (.cst (.str "some")))
    (.seq (.ret [0, 1] (.cmp .ne (.lc (.var 5) (.nm 5) (.seq (.idx (.var 0) (.cst (.int 1)))) (.call 21 (.cons (.var 5) (.cons (.idx (.var 1) (.idx (.var 5) (.cst (.int 1)))) .nil))) [5]) (.lst .nil)))
    .skip)
    .skip)
    (.seq (.ifs [0, 1] (.cmp .ne (.lc (.var 5) (.nm 5) (.seq (.idx (.var 0) (.cst (.int 1)))) (.not (.call 21 (.cons (.var 5) (.cons (.idx (.var 1) (.idx (.var 5) (.cst (.int 1)))) .nil)))) [5]) (.lst .nil))
    (.seq (.ret [] (.cst (.bool true)))
    .skip)
    .skip)
    (.seq (.ret [0, 1] (.call 24 (.cons (.idx (.var 0) (.cst (.int 2))) (.cons (.var 1) .nil))))
    .skip))))))))))))
def d_l_grants : DT := ⟨"_law_grants", ["_law_wish_here", "_law_filling", "_law_word", "_law_total", "_law_at", "_law_sign_here", "_law_factor", "_law_box"], ["_law_wish_here", "_law_filling"], top 28, ⟨2, 8, false, c_l_grants⟩⟩
/-- _law_fillings -/
def c_l_fillings : CS := (.seq (.asg 1 [] (.lst (.cons (.tup .nil) .nil)))
    (.seq (.for_ (.nm 2) [0] false (.seq (.var 0))
    (.seq (.asg 3 [] (.lst .nil))
    (.seq (.for_ (.nm 4) [1] false (.seq (.var 1))
    (.seq (.asg 3 [2, 3, 4] (.bin .add (.var 3) (.lc (.bin .add (.var 4) (.tup (.cons (.var 5) .nil))) (.nm 5) (.seq (.var 2)) (.cst (.bool true)) [5])))
    .skip))
    (.seq (.asg 1 [3] (.var 3))
    .skip))))
    (.seq (.ret [1] (.var 1))
    .skip)))
def d_l_fillings : DT := ⟨"_law_fillings", ["_law_lots", "_law_found", "_law_lot", "_law_longer", "_law_filling", "_law_worth"], ["_law_lots"], top 29, ⟨1, 6, false, c_l_fillings⟩⟩
/-- _law_moments_fit -/
def c_l_moments_fit : CS := (.seq (.asg 3 [0, 1] (.lc (.idx (.var 0) (.var 6)) (.cons (.nm 6) (.cons (.nm 7) (.cons (.nm 8) .nil))) (.seq (.var 1)) (.cst (.bool true)) [6, 7, 8]))
    (.seq (.for_ (.nm 4) [3] false (.rng (.bi .min (.cons (.var 3) .nil)) (.bin .add (.bi .max (.cons (.var 3) .nil)) (.cst (.int 55))))
    (.seq (.asg 5 [0, 1, 4] (.bi .sum (.cons (.lc (.bin .mul (.var 8) (.bi .int (.cons (.chain .le .lt (.idx (.var 0) (.var 6)) (.var 4) (.bin .add (.idx (.var 0) (.var 6)) (.var 7))) .nil))) (.cons (.nm 6) (.cons (.nm 7) (.cons (.nm 8) .nil))) (.seq (.var 1)) (.cst (.bool true)) [6, 7, 8]) .nil)))
    (.seq (.ifs [2, 5] (.cmp .gt (.var 5) (.var 2))
    (.seq (.ret [] (.cst (.bool false)))
    .skip)
    .skip)
    .skip)))
    (.seq (.ret [] (.cst (.bool true)))
    .skip)))
def d_l_moments_fit : DT := ⟨"_law_moments_fit", ["_law_filling", "_law_works", "_law_most", "_law_begins", "_law_moment", "_law_total", "_law_box", "_law_long", "_law_much"], ["_law_filling", "_law_works", "_law_most"], top 30, ⟨3, 9, false, c_l_moments_fit⟩⟩
/-- law -/
def c_law : CS := (.seq (.for_ (.nm 1) [0] false (.rng (.cst (.int 0)) (.bi .max (.cons (.cst (.int 1)) (.cons (.bi .min (.cons (.bi .len (.cons (.var 0) .nil)) (.cons (.cst (.int 8)) .nil))) .nil))))
    (.seq (.asg 3 [0, 1] (.call 14 (.cons (.var 0) (.cons (.var 1) .nil))))
    (.seq (.asg 4 [] (.callM 16 3 (.cons (.cst (.int 4)) (.cons (.cst (.int 4)) .nil))))
    (.seq (.for_ (.nm 5) [] false (.rng (.cst (.int 0)) (.cst (.int 10)))
    (.seq (.asg 6 [4, 5] (.callM 20 3 (.cons (.var 4) (.cons (.var 5) .nil))))
    (.seq (.asg 7 [6] (.bi .repr (.cons (.var 6) .nil)))
    (.seq (.for_ (.nm 8) [4] false (.seq (.call 25 (.cons (.lc (.lrng (.var 11) (.bin .add (.var 12) (.cst (.int 1)))) (.cons (.nm 10) (.cons (.nm 11) (.cons (.nm 12) .nil))) (.seq (.var 4)) (.cst (.bool true)) [10, 11, 12]) .nil)))
    (.seq (.asg 9 [6, 8] (.call 24 (.cons (.var 6) (.cons (.var 8) .nil))))
    (.seq (.ifs [6, 8, 9] (.or (.cmp .ne (.bi .repr (.cons (.call 13 (.cons (.var 6) (.cons (.var 8) .nil))) .nil)) (.bi .repr (.cons (.var 9) .nil))) (.cmp .ne (.bi .repr (.cons (.call 13 (.cons (.var 6) (.cons (.var 8) .nil))) .nil)) (.bi .repr (.cons (.var 9) .nil))))
    (.seq (.ret [] (.cst (.bool false)))
    .skip)
    .skip)
    (.seq (.ifs [6, 8, 9] (.and (.cmp .eq (.idx (.var 6) (.cst (.int 0))) (.cst (.str "works"))) (.cmp .ne (.call 26 (.cons (.var 8) (.cons (.idx (.var 6) (.cst (.int 1))) (.cons (.idx (.var 6) (.cst (.int 2))) .nil)))) (.var 9)))
    (.seq (.ret [] (.cst (.bool false)))
    .skip)
    .skip)
    .skip))))
    (.seq (.ifs [6, 7] (.cmp .ne (.bi .repr (.cons (.var 6) .nil)) (.var 7))
    (.seq (.ret [] (.cst (.bool false)))
    .skip)
    .skip)
    .skip)))))
    .skip))))
    (.seq (.asg 2 [] (.lst (.cons (.tup (.cons (.cst (.str "some")) (.cons (.tup .nil) .nil))) (.cons (.tup (.cons (.cst (.str "row")) (.cons (.tup (.cons (.cst (.int 0)) .nil)) (.cons (.tup .nil) .nil)))) (.cons (.tup (.cons (.cst (.str "path")) (.cons (.tup (.cons (.cst (.int 0)) .nil)) (.cons (.tup (.cons (.tup (.cons (.cst (.int 0)) (.cons (.cst (.int 0)) (.cons (.cst (.int 1)) .nil)))) .nil)) (.cons (.tup .nil) .nil))))) .nil)))))
    (.seq (.ret [2] (.cmp .eq (.lc (.call 13 (.cons (.var 6) (.cons (.tup (.cons (.cst (.int 0)) .nil)) .nil))) (.nm 6) (.seq (.var 2)) (.cst (.bool true)) [6]) (.bin .mul (.lst (.cons (.cst (.bool false)) .nil)) (.cst (.int 3)))))
    .skip)))
def d_law : DT := ⟨"law", ["_law_script", "_law_k", "_law_none", "_law_pool_here", "_law_boxes_here", "_law_way", "_law_wish_here", "_law_kept", "_law_filling", "_law_due", "_law_name", "_law_low", "_law_high"], ["_law_script"], top 31, ⟨1, 13, false, c_law⟩⟩
def dts : List DT := [d_says, d_holds, d_are_unlike, d_grants_sum, d_grants_times, d_grants_row, d_grants_pick, d_grants_unlike, d_grants_path, d_grants_works, d_grants_many, d_grants_some, d_grants_if, d_grants, d_l_pool, d_l_take, d_l_boxes, d_l_sign, d_l_picked, d_l_worths, d_l_wish, d_l_says, d_l_path_goes, d_l_works_fit, d_l_grants, d_l_fillings, d_l_moments_fit, d_law]
abbrev n_says : Nat := 0
abbrev n_holds : Nat := 1
abbrev n_are_unlike : Nat := 2
abbrev n_grants_sum : Nat := 3
abbrev n_grants_times : Nat := 4
abbrev n_grants_row : Nat := 5
abbrev n_grants_pick : Nat := 6
abbrev n_grants_unlike : Nat := 7
abbrev n_grants_path : Nat := 8
abbrev n_grants_works : Nat := 9
abbrev n_grants_many : Nat := 10
abbrev n_grants_some : Nat := 11
abbrev n_grants_if : Nat := 12
abbrev n_grants : Nat := 13
abbrev n_l_pool : Nat := 14
abbrev n_l_take : Nat := 15
abbrev n_l_boxes : Nat := 16
abbrev n_l_sign : Nat := 17
abbrev n_l_picked : Nat := 18
abbrev n_l_worths : Nat := 19
abbrev n_l_wish : Nat := 20
abbrev n_l_says : Nat := 21
abbrev n_l_path_goes : Nat := 22
abbrev n_l_works_fit : Nat := 23
abbrev n_l_grants : Nat := 24
abbrev n_l_fillings : Nat := 25
abbrev n_l_moments_fit : Nat := 26
abbrev n_law : Nat := 27
def gls : List (Str × D) := []
def tbs : List (Str × List (Str × Nat)) := [("GRANTS", [("sum", 3), ("times", 4), ("row", 5), ("pick", 6), ("unlike", 7), ("path", 8), ("works", 9), ("many", 10), ("some", 11), ("if", 12)])]

theorem k_says : dtOk (dts.map DT.ft) gls tbs d_says = true := by decide +kernel
theorem k_holds : dtOk (dts.map DT.ft) gls tbs d_holds = true := by decide +kernel
theorem k_are_unlike : dtOk (dts.map DT.ft) gls tbs d_are_unlike = true := by decide +kernel
theorem k_grants_sum : dtOk (dts.map DT.ft) gls tbs d_grants_sum = true := by decide +kernel
theorem k_grants_times : dtOk (dts.map DT.ft) gls tbs d_grants_times = true := by decide +kernel
theorem k_grants_row : dtOk (dts.map DT.ft) gls tbs d_grants_row = true := by decide +kernel
theorem k_grants_pick : dtOk (dts.map DT.ft) gls tbs d_grants_pick = true := by decide +kernel
theorem k_grants_unlike : dtOk (dts.map DT.ft) gls tbs d_grants_unlike = true := by decide +kernel
theorem k_grants_path : dtOk (dts.map DT.ft) gls tbs d_grants_path = true := by decide +kernel
theorem k_grants_works : dtOk (dts.map DT.ft) gls tbs d_grants_works = true := by decide +kernel
theorem k_grants_many : dtOk (dts.map DT.ft) gls tbs d_grants_many = true := by decide +kernel
theorem k_grants_some : dtOk (dts.map DT.ft) gls tbs d_grants_some = true := by decide +kernel
theorem k_grants_if : dtOk (dts.map DT.ft) gls tbs d_grants_if = true := by decide +kernel
theorem k_grants : dtOk (dts.map DT.ft) gls tbs d_grants = true := by decide +kernel
theorem k_l_pool : dtOk (dts.map DT.ft) gls tbs d_l_pool = true := by decide +kernel
theorem k_l_take : dtOk (dts.map DT.ft) gls tbs d_l_take = true := by decide +kernel
theorem k_l_boxes : dtOk (dts.map DT.ft) gls tbs d_l_boxes = true := by decide +kernel
theorem k_l_sign : dtOk (dts.map DT.ft) gls tbs d_l_sign = true := by decide +kernel
theorem k_l_picked : dtOk (dts.map DT.ft) gls tbs d_l_picked = true := by decide +kernel
theorem k_l_worths : dtOk (dts.map DT.ft) gls tbs d_l_worths = true := by decide +kernel
theorem k_l_wish : dtOk (dts.map DT.ft) gls tbs d_l_wish = true := by decide +kernel
theorem k_l_says : dtOk (dts.map DT.ft) gls tbs d_l_says = true := by decide +kernel
theorem k_l_path_goes : dtOk (dts.map DT.ft) gls tbs d_l_path_goes = true := by decide +kernel
theorem k_l_works_fit : dtOk (dts.map DT.ft) gls tbs d_l_works_fit = true := by decide +kernel
theorem k_l_grants : dtOk (dts.map DT.ft) gls tbs d_l_grants = true := by decide +kernel
theorem k_l_fillings : dtOk (dts.map DT.ft) gls tbs d_l_fillings = true := by decide +kernel
theorem k_l_moments_fit : dtOk (dts.map DT.ft) gls tbs d_l_moments_fit = true := by decide +kernel
theorem k_law : dtOk (dts.map DT.ft) gls tbs d_law = true := by decide +kernel
end K11

section
set_option Elab.async false
set_option linter.all false
set_option maxRecDepth 100000
set_option maxHeartbeats 0
open PySem TP TQ WM
local macro_rules | `(tactic| fail) => `(tactic| simp only [↓var_0, ↓set_0, ↓nm_0, ↓get_0, ↓ld_p0, ↓lf_p0, ↓ld_n0, ↓lf_n0, ↓ld_f0, ↓lf_f0, ↓ld_o0, ↓lf_o0, ↓un_0, ↓fn_0, ↓var_1, ↓set_1, ↓nm_1, ↓get_1, ↓ld_p1, ↓lf_p1, ↓ld_n1, ↓lf_n1, ↓ld_f1, ↓lf_f1, ↓ld_o1, ↓lf_o1, ↓un_1, ↓fn_1, ↓var_2, ↓set_2, ↓nm_2, ↓get_2, ↓ld_p2, ↓lf_p2, ↓ld_n2, ↓lf_n2, ↓ld_f2, ↓lf_f2, ↓ld_o2, ↓lf_o2, ↓un_2, ↓fn_2, ↓var_3, ↓set_3, ↓nm_3, ↓get_3, ↓ld_p3, ↓lf_p3, ↓ld_n3, ↓lf_n3, ↓ld_f3, ↓lf_f3, ↓ld_o3, ↓lf_o3, ↓un_3, ↓fn_3, ↓var_4, ↓set_4, ↓nm_4, ↓get_4, ↓ld_p4, ↓lf_p4, ↓ld_n4, ↓lf_n4, ↓ld_f4, ↓lf_f4, ↓ld_o4, ↓lf_o4, ↓un_4, ↓fn_4, ↓var_5, ↓set_5, ↓nm_5, ↓get_5, ↓ld_p5, ↓lf_p5, ↓ld_n5, ↓lf_n5, ↓ld_f5, ↓lf_f5, ↓ld_o5, ↓lf_o5, ↓un_5, ↓fn_5, ↓var_6, ↓set_6, ↓nm_6, ↓get_6, ↓ld_p6, ↓lf_p6, ↓ld_n6, ↓lf_n6, ↓ld_f6, ↓lf_f6, ↓ld_o6, ↓lf_o6, ↓un_6, ↓fn_6, ↓var_7, ↓set_7, ↓nm_7, ↓get_7, ↓ld_p7, ↓lf_p7, ↓ld_n7, ↓lf_n7, ↓ld_f7, ↓lf_f7, ↓ld_o7, ↓lf_o7, ↓un_7, ↓fn_7, ↓var_8, ↓set_8, ↓nm_8, ↓get_8, ↓ld_p8, ↓lf_p8, ↓ld_n8, ↓lf_n8, ↓ld_f8, ↓lf_f8, ↓ld_o8, ↓lf_o8, ↓un_8, ↓fn_8, ↓var_9, ↓set_9, ↓nm_9, ↓get_9, ↓ld_p9, ↓lf_p9, ↓ld_n9, ↓lf_n9, ↓ld_f9, ↓lf_f9, ↓ld_o9, ↓lf_o9, ↓un_9, ↓fn_9, ↓var_10, ↓set_10, ↓nm_10, ↓get_10, ↓ld_p10, ↓lf_p10, ↓ld_n10, ↓lf_n10, ↓ld_f10, ↓lf_f10, ↓ld_o10, ↓lf_o10, ↓un_10, ↓fn_10, ↓var_11, ↓set_11, ↓nm_11, ↓get_11, ↓ld_p11, ↓lf_p11, ↓ld_n11, ↓lf_n11, ↓ld_f11, ↓lf_f11, ↓ld_o11, ↓lf_o11, ↓un_11, ↓fn_11, ↓var_12, ↓set_12, ↓nm_12, ↓get_12, ↓ld_p12, ↓lf_p12, ↓ld_n12, ↓lf_n12, ↓ld_f12, ↓lf_f12, ↓ld_o12, ↓lf_o12, ↓un_12, ↓fn_12, ↓var_13, ↓set_13, ↓nm_13, ↓get_13, ↓ld_p13, ↓lf_p13, ↓ld_n13, ↓lf_n13, ↓ld_f13, ↓lf_f13, ↓ld_o13, ↓lf_o13, ↓un_13, ↓fn_13, ↓var_14, ↓set_14, ↓nm_14, ↓get_14, ↓ld_p14, ↓lf_p14, ↓ld_n14, ↓lf_n14, ↓ld_f14, ↓lf_f14, ↓ld_o14, ↓lf_o14, ↓un_14, ↓fn_14, ↓var_15, ↓set_15, ↓nm_15, ↓get_15, ↓ld_p15, ↓lf_p15, ↓ld_n15, ↓lf_n15, ↓ld_f15, ↓lf_f15, ↓ld_o15, ↓lf_o15, ↓un_15, ↓fn_15, ↓var_16, ↓set_16, ↓nm_16, ↓get_16, ↓ld_p16, ↓lf_p16, ↓ld_n16, ↓lf_n16, ↓ld_f16, ↓lf_f16, ↓ld_o16, ↓lf_o16, ↓un_16, ↓fn_16, ↓var_17, ↓set_17, ↓nm_17, ↓get_17, ↓ld_p17, ↓lf_p17, ↓ld_n17, ↓lf_n17, ↓ld_f17, ↓lf_f17, ↓ld_o17, ↓lf_o17, ↓un_17, ↓fn_17, ↓var_18, ↓set_18, ↓nm_18, ↓get_18, ↓ld_p18, ↓lf_p18, ↓ld_n18, ↓lf_n18, ↓ld_f18, ↓lf_f18, ↓ld_o18, ↓lf_o18, ↓un_18, ↓fn_18, ↓var_19, ↓set_19, ↓nm_19, ↓get_19, ↓ld_p19, ↓lf_p19, ↓ld_n19, ↓lf_n19, ↓ld_f19, ↓lf_f19, ↓ld_o19, ↓lf_o19, ↓un_19, ↓fn_19, ↓var_20, ↓set_20, ↓nm_20, ↓get_20, ↓ld_p20, ↓lf_p20, ↓ld_n20, ↓lf_n20, ↓ld_f20, ↓lf_f20, ↓ld_o20, ↓lf_o20, ↓un_20, ↓fn_20, ↓var_21, ↓set_21, ↓nm_21, ↓get_21, ↓ld_p21, ↓lf_p21, ↓ld_n21, ↓lf_n21, ↓ld_f21, ↓lf_f21, ↓ld_o21, ↓lf_o21, ↓un_21, ↓fn_21, ↓var_22, ↓set_22, ↓nm_22, ↓get_22, ↓ld_p22, ↓lf_p22, ↓ld_n22, ↓lf_n22, ↓ld_f22, ↓lf_f22, ↓ld_o22, ↓lf_o22, ↓un_22, ↓fn_22, ↓var_23, ↓set_23, ↓nm_23, ↓get_23, ↓ld_p23, ↓lf_p23, ↓ld_n23, ↓lf_n23, ↓ld_f23, ↓lf_f23, ↓ld_o23, ↓lf_o23, ↓un_23, ↓fn_23, ↓var_24, ↓set_24, ↓nm_24, ↓get_24, ↓ld_p24, ↓lf_p24, ↓ld_n24, ↓lf_n24, ↓ld_f24, ↓lf_f24, ↓ld_o24, ↓lf_o24, ↓un_24, ↓fn_24, ↓var_25, ↓set_25, ↓nm_25, ↓get_25, ↓ld_p25, ↓lf_p25, ↓ld_n25, ↓lf_n25, ↓ld_f25, ↓lf_f25, ↓ld_o25, ↓lf_o25, ↓un_25, ↓fn_25, ↓var_26, ↓set_26, ↓nm_26, ↓get_26, ↓ld_p26, ↓lf_p26, ↓ld_n26, ↓lf_n26, ↓ld_f26, ↓lf_f26, ↓ld_o26, ↓lf_o26, ↓un_26, ↓fn_26, ↓var_27, ↓set_27, ↓nm_27, ↓get_27, ↓ld_p27, ↓lf_p27, ↓ld_n27, ↓lf_n27, ↓ld_f27, ↓lf_f27, ↓ld_o27, ↓lf_o27, ↓un_27, ↓fn_27, ↓var_28, ↓set_28, ↓nm_28, ↓get_28, ↓ld_p28, ↓lf_p28, ↓ld_n28, ↓lf_n28, ↓ld_f28, ↓lf_f28, ↓ld_o28, ↓lf_o28, ↓un_28, ↓fn_28, ↓var_29, ↓set_29, ↓nm_29, ↓get_29, ↓ld_p29, ↓lf_p29, ↓ld_n29, ↓lf_n29, ↓ld_f29, ↓lf_f29, ↓ld_o29, ↓lf_o29, ↓un_29, ↓fn_29, ↓var_30, ↓set_30, ↓nm_30, ↓get_30, ↓ld_p30, ↓lf_p30, ↓ld_n30, ↓lf_n30, ↓ld_f30, ↓lf_f30, ↓ld_o30, ↓lf_o30, ↓un_30, ↓fn_30, ↓var_31, ↓set_31, ↓nm_31, ↓get_31, ↓ld_p31, ↓lf_p31, ↓ld_n31, ↓lf_n31, ↓ld_f31, ↓lf_f31, ↓ld_o31, ↓lf_o31, ↓un_31, ↓fn_31, ↓var_32, ↓set_32, ↓nm_32, ↓get_32, ↓ld_p32, ↓lf_p32, ↓ld_n32, ↓lf_n32, ↓ld_f32, ↓lf_f32, ↓ld_o32, ↓lf_o32, ↓un_32, ↓fn_32, ↓var_33, ↓set_33, ↓nm_33, ↓get_33, ↓ld_p33, ↓lf_p33, ↓ld_n33, ↓lf_n33, ↓ld_f33, ↓lf_f33, ↓ld_o33, ↓lf_o33, ↓un_33, ↓fn_33, ↓ix_l0, ↓ix_t0, ↓st_0, ↓ix_l1, ↓ix_t1, ↓st_1, ↓ix_l2, ↓ix_t2, ↓st_2, ↓ix_l3, ↓ix_t3, ↓st_3, ↓ix_l4, ↓ix_t4, ↓ix_l5, ↓ix_t5, ↓ix_l6, ↓ix_t6, ↓ix_l7, ↓ix_t7, ↓ix_l8, ↓ix_t8, ↓ix_l9, ↓ix_t9, ↓gl_0, ↓gl_1, ↓gl_2, ↓gl_3, ↓gl_4, ↓gl_5, ↓gl_6, ↓gl_7, ↓gl_8, ↓gl_9, ↓gl_10, ↓gl_11, ↓gl_12, ↓gl_13, ↓isi_bool_none, ↓isi_bool_bool, ↓isi_bool_int, ↓isi_bool_str, ↓isi_bool_list, ↓isi_bool_tuple, ↓isi_bool_dict, ↓isi_int_none, ↓isi_int_bool, ↓isi_int_int, ↓isi_int_str, ↓isi_int_list, ↓isi_int_tuple, ↓isi_int_dict, ↓isi_str_none, ↓isi_str_bool, ↓isi_str_int, ↓isi_str_str, ↓isi_str_list, ↓isi_str_tuple, ↓isi_str_dict, ↓isi_list_none, ↓isi_list_bool, ↓isi_list_int, ↓isi_list_str, ↓isi_list_list, ↓isi_list_tuple, ↓isi_list_dict, ↓isi_tuple_none, ↓isi_tuple_bool, ↓isi_tuple_int, ↓isi_tuple_str, ↓isi_tuple_list, ↓isi_tuple_tuple, ↓isi_tuple_dict, ↓isi_dict_none, ↓isi_dict_bool, ↓isi_dict_int, ↓isi_dict_str, ↓isi_dict_list, ↓isi_dict_tuple, ↓isi_dict_dict, ↓m_nil, ↓m_own, ↓lf_nil, ↓un_nil, ↓cnd_t, ↓cnd_f, ↓k_cst, ↓k_glo, ↓k_none, ↓k_bin, ↓k_neg, ↓k_not, ↓k_and, ↓k_or, ↓k_cmp, ↓k_chain, ↓k_ite, ↓a_nil, ↓a_cons, ↓k_tup, ↓k_lst, ↓k_idx, ↓k_sli, ↓k_rev, ↓k_bi, ↓k_isi, ↓k_call, ↓k_callV, ↓k_callM, ↓k_lenO, ↓k_popO, ↓k_lc, ↓k_sdc, ↓k_lsc, ↓k_seq, ↓k_rng, ↓k_lrng, ↓k_enum, ↓k_zip, ↓k_sset, ↓k_lset, ↓k_dget, ↓s_skip, ↓s_seq, ↓s_asg, ↓v_t, ↓v_f, ↓s_unp, ↓unp_t, ↓unp_l, ↓b_nil, ↓b_cons, ↓s_star, ↓s_par, ↓par_, ↓k_consE, ↓k_nilE, ↓s_sto, ↓s_mut, ↓isl_, ↓s_exp, ↓s_ifs, ↓s_for, ↓s_whil, ↓s_ret, ↓s_retO, ↓s_brk, ↓s_cnt, ↓s_fsel, ↓o_add, ↓o_sub, ↓o_neg, ↓o_notB, ↓o_lt, ↓o_le, ↓o_gt, ↓o_ge, ↓o_eqI, ↓o_neI, ↓o_eqB, ↓o_neB, ↓t_t, ↓t_f, ↓t_b, ↓t_n, ↓t_i, ↓t_l, ↓t_tu, ↓u_lenL, ↓u_lenT, ↓u_max2, ↓u_min2, ↓u_listL, ↓u_listT, ↓u_tupL, ↓u_tupT, ↓u_intI, ↓u_intB, ↓u_abs, ↓u_sum, ↓u_all, ↓u_any, ↓u_sorted, ↓q_l, ↓q_t, ↓e_l, ↓z_l, ↓z_t, ↓len_o, ↓rev_, ↓c_ok, ↓ci_ok, ↓sli_ln, ↓sli_nl, ↓sli_ll, ↓sli_tn, ↓sli_nt, ↓sli_tt, ↓i_inL, ↓i_inT, ↓i_niL, ↓i_niT, ↓i_inL0, ↓i_inT0, ↓o_eqSS, ↓o_neSS, ↓o_eqLL, ↓o_eqTT, ↓i_inRows, fz_b, tz_b, fz_l, tz_l, fz_t, tz_t, fz_i, tz_i, fz_n, intsOf_map, boolsOf_map, cut_1, cut_2, cut_3, ff_f, ff_l, fl_i, fl_b, fl_s, fl_n, fl_t, fl_l, fls_n, fls_c, fls_i, of_n, of_0, of_p, of_op, of_os, fls_app, of_f, of_o, of_fs, tt_, ff_, dc_t, dc_f, nb_t, nb_f, ofS_inj, fl_S, fl_2, fl_3, fl_B, fls_S, fls_2, fls_3, fls_B, fls_tI, fl_W, Bool.or_false, Bool.or_true, Bool.true_or, Bool.false_or, Bool.and_true, Bool.true_and, Bool.and_false, Bool.false_and, WM.tI, WM.lI, WM.pl, WM.sw, List.drop_succ_cons, List.drop_zero, List.take_succ_cons, List.take_zero, List.cons_append, List.nil_append, List.replicate_succ, List.replicate_zero, List.map_cons, List.map_nil, wipeE, backE, List.getElem?_cons_succ, Option.getD_some, Option.getD_none, List.set_cons_succ, List.set_cons_zero, List.getElem?_cons_zero, String.reduceEq, Int.reduceLT, Int.reduceLE, Int.reduceEq, Int.reduceNeg, Int.reduceAdd, Int.reduceSub, Int.reduceMul, reduceIte, reduceCtorEq])

namespace K11
open PySem TP
abbrev TT : List FD := dts.map DT.fd
/-! the law's own words of what grants -/
section
variable {nb : Nat} {f : List Int} {n : Nat}
theorem s_lsays (s : Sgn) (x : Int) : Phi TT (n + 1) n_l_says [encS s, .int x] = .ok (.bool (s.says x)) false none := by
  refine sat0_eq.mp (sat0_run (body := c_l_says) rfl rfl ?_)
  unfold c_l_says
  obtain ⟨w, b, v⟩ := s
  cases w <;> (simp only [encS, sw, SW.str]; repeat' (first | fail | (simp only [cnd_de]; refine And.intro (fun hc => ?_) (fun hc => ?_)) | (simp only [cnd_nde]; refine And.intro (fun hc => ?_) (fun hc => ?_)))) <;> exact ⟨by simp [Sgn.says], rfl⟩
theorem s_lpath (bs : List Int) (st : List P3) (ends : List Int) (hf : FOk nb f) (h : (Wish.path bs st ends).ok nb) : Phi TT (n + 1) n_l_path_goes [tI f, tI bs, .tuple (st.map enc3), tI ends] = .ok (.bool ((Wish.path bs st ends).gr f)) false none := by
  refine sat0_eq.mp (sat0_run (body := c_l_path_goes) rfl rfl ?_)
  unfold c_l_path_goes
  obtain ⟨rfl, hs⟩ := hf
  repeat' (first | fail | (simp only [cnd_de]; refine And.intro (fun hc => ?_) (fun hc => ?_)) | (simp only [cnd_nde]; refine And.intro (fun hc => ?_) (fun hc => ?_)))
  refine f_ind (fun rest r => ∃ done more x, bs = done ++ more ∧ rest = more.map .int ∧ r = [some (.p (tI f)), some (.p (tI bs)), some (.p (.tuple (st.map enc3))), some (.p (tI ends)), some (.o (lI (done.foldl (ups st f) [0]))), op x, none, none, none]) ⟨[], bs, none, rfl, rfl, rfl⟩ ?_ ?_
  · rintro x xs r ⟨done, more, y, e1, e2, rfl⟩
    cases more with
    | nil => cases e2
    | cons b more =>
      cases e2
      repeat' (first | fail | (simp only [cnd_de]; refine And.intro (fun hc => ?_) (fun hc => ?_)) | (simp only [cnd_nde]; refine And.intro (fun hc => ?_) (fun hc => ?_)))
      refine lc_filI (enc := enc3) (p := fun p => decide (p.1 ∈ done.foldl (ups st f) [0]) && decide (p.2.1 = at_ f b)) (g := fun p => p.2.2) (fun p hp => ?_) ?_
      · simp only [enc3]
        repeat' (first | fail | (simp only [cnd_de]; refine And.intro (fun hc => ?_) (fun hc => ?_)) | (simp only [cnd_nde]; refine And.intro (fun hc => ?_) (fun hc => ?_)))
        · refine i_f (h b (by rw [e1]; simp)) ?_
          repeat' (first | fail | (simp only [cnd_de]; refine And.intro (fun hc => ?_) (fun hc => ?_)) | (simp only [cnd_nde]; refine And.intro (fun hc => ?_) (fun hc => ?_)))
          · exact ⟨by simp_all, rfl, rfl⟩
          · exact ⟨by simp_all, rfl⟩
        · exact ⟨by simp_all, rfl⟩
      · repeat' (first | fail | (simp only [cnd_de]; refine And.intro (fun hc => ?_) (fun hc => ?_)) | (simp only [cnd_nde]; refine And.intro (fun hc => ?_) (fun hc => ?_)))
        refine ⟨done ++ [b], more, some (.int b), by rw [e1]; simp, rfl, ?_⟩
        rw [List.foldl_append]
        rfl
  · rintro r ⟨done, more, y, e1, e2, rfl⟩
    have : more = [] := by cases more with | nil => rfl | cons _ _ => cases e2
    subst this
    rw [List.append_nil] at e1
    subst e1
    repeat' (first | fail | (simp only [cnd_de]; refine And.intro (fun hc => ?_) (fun hc => ?_)) | (simp only [cnd_nde]; refine And.intro (fun hc => ?_) (fun hc => ?_)))
    refine lc_filI (p := fun s => decide (s ∈ ends)) (g := fun s => s) (fun b hb => ?_) ?_
    · repeat' (first | fail | (simp only [cnd_de]; refine And.intro (fun hc => ?_) (fun hc => ?_)) | (simp only [cnd_nde]; refine And.intro (fun hc => ?_) (fun hc => ?_)))
      · exact ⟨by simp_all, rfl, rfl⟩
      · exact ⟨by simp_all, rfl⟩
    · repeat' (first | fail | (simp only [cnd_de]; refine And.intro (fun hc => ?_) (fun hc => ?_)) | (simp only [cnd_nde]; refine And.intro (fun hc => ?_) (fun hc => ?_)))
      refine c_ne0 (Shp.ok (k := 1) Shp.ints (by decide)) ?_
      rw [map_isE, map_isE, fil_isE, Bool.not_not]
      repeat' (first | fail | (simp only [cnd_de]; refine And.intro (fun hc => ?_) (fun hc => ?_)) | (simp only [cnd_nde]; refine And.intro (fun hc => ?_) (fun hc => ?_)))
      exact ⟨rfl, rfl⟩
theorem s_lworks (ws : List P3) (most : Int) (hf : FOk nb f) (h : (Wish.works ws most).ok nb) : Phi TT (n + 1) n_l_works_fit [tI f, .tuple (ws.map enc3), .int most] = .ok (.bool ((Wish.works ws most).gr f)) false none := by
  refine sat0_eq.mp (sat0_run (body := c_l_works_fit) rfl rfl ?_)
  unfold c_l_works_fit
  obtain ⟨rfl, hs⟩ := hf
  repeat' (first | fail | (simp only [cnd_de]; refine And.intro (fun hc => ?_) (fun hc => ?_)) | (simp only [cnd_nde]; refine And.intro (fun hc => ?_) (fun hc => ?_)))
  refine lc_mapI (enc := enc3) (g := fun p => at_ f p.1) (fun p hp => ?_) ?_
  · simp only [enc3]
    repeat' (first | fail | (simp only [cnd_de]; refine And.intro (fun hc => ?_) (fun hc => ?_)) | (simp only [cnd_nde]; refine And.intro (fun hc => ?_) (fun hc => ?_)))
    refine i_f (h p hp) ?_
    exact ⟨rfl, rfl⟩
  · repeat' (first | fail | (simp only [cnd_de]; refine And.intro (fun hc => ?_) (fun hc => ?_)) | (simp only [cnd_nde]; refine And.intro (fun hc => ?_) (fun hc => ?_)))
    refine f_ind (fun rest r => ∃ done more x1, ws = done ++ more ∧ rest = (more.map fun p => at_ f p.1).map .int ∧ (∀ p ∈ done, going ws f (at_ f p.1) ≤ most) ∧ r = [some (.p (tI f)), some (.p (.tuple (ws.map enc3))), some (.p (.int most)), some (.p (lI (ws.map fun p => at_ f p.1))), op x1, none, none, none]) ⟨[], ws, none, rfl, rfl, by simp, rfl⟩ ?_ ?_
    · rintro x xs r ⟨done, more, x1, e1, e2, hd, rfl⟩
      cases more with
      | nil => cases e2
      | cons b more =>
        cases e2
        repeat' (first | fail | (simp only [cnd_de]; refine And.intro (fun hc => ?_) (fun hc => ?_)) | (simp only [cnd_nde]; refine And.intro (fun hc => ?_) (fun hc => ?_)))
        refine lc_filI (enc := enc3) (p := fun p => decide (at_ f p.1 ≤ at_ f b.1) && decide (at_ f b.1 < at_ f p.1 + p.2.1)) (g := fun p => p.2.2) (fun p hp => ?_) ?_
        · simp only [enc3]
          repeat' (first | fail | (simp only [cnd_de]; refine And.intro (fun hc => ?_) (fun hc => ?_)) | (simp only [cnd_nde]; refine And.intro (fun hc => ?_) (fun hc => ?_)))
          refine i_f (h p hp) ?_
          repeat' (first | fail | (simp only [cnd_de]; refine And.intro (fun hc => ?_) (fun hc => ?_)) | (simp only [cnd_nde]; refine And.intro (fun hc => ?_) (fun hc => ?_)))
          · refine i_f (h p hp) ?_
            repeat' (first | fail | (simp only [cnd_de]; refine And.intro (fun hc => ?_) (fun hc => ?_)) | (simp only [cnd_nde]; refine And.intro (fun hc => ?_) (fun hc => ?_)))
            · exact ⟨by rw [Bool.and_eq_true, decide_eq_true_eq, decide_eq_true_eq]; omega, rfl, rfl⟩
            · exact ⟨by rw [Bool.and_eq_false_iff, decide_eq_false_iff_not, decide_eq_false_iff_not]; omega, rfl⟩
          · exact ⟨by rw [Bool.and_eq_false_iff, decide_eq_false_iff_not, decide_eq_false_iff_not]; omega, rfl⟩
        · repeat' (first | fail | (simp only [cnd_de]; refine And.intro (fun hc => ?_) (fun hc => ?_)) | (simp only [cnd_nde]; refine And.intro (fun hc => ?_) (fun hc => ?_)))
          · refine ⟨?_, rfl⟩
            have : ws.all (fun p => decide (going ws f (at_ f p.1) ≤ most)) = false := by
              rw [List.all_eq_false]
              exact ⟨b, by rw [e1]; simp, by rw [decide_eq_true_eq]; simpa [going] using hc⟩
            rw [Wish.gr, this]
          · refine ⟨done ++ [b], more, some (.int _), by rw [e1]; simp, rfl, ?_, rfl⟩
            intro p hp
            rcases List.mem_append.mp hp with z | z
            · exact hd p z
            · rw [List.mem_singleton.mp z]
              simpa [going] using hc
    · rintro r ⟨done, more, x1, e1, e2, hd, rfl⟩
      have : more = [] := by cases more with | nil => rfl | cons _ _ => cases e2
      subst this
      rw [List.append_nil] at e1
      subst e1
      repeat' (first | fail | (simp only [cnd_de]; refine And.intro (fun hc => ?_) (fun hc => ?_)) | (simp only [cnd_nde]; refine And.intro (fun hc => ?_) (fun hc => ?_)))
      refine ⟨?_, rfl⟩
      have : ws.all (fun p => decide (going ws f (at_ f p.1) ≤ most)) = true := by
        rw [List.all_eq_true]
        exact fun p hp => decide_eq_true (hd p hp)
      rw [Wish.gr, this]
theorem s_lgrants : ∀ (w : Wish) (n : Nat), FOk nb f → w.ok nb → w.deep + 2 ≤ n → Phi TT n n_l_grants [encW w, tI f] = .ok (.bool (w.gr f)) false none := by
  intro w
  induction w with
  | iff ss w ih =>
    intro n hf h hn
    obtain ⟨m, rfl⟩ : ∃ m, n = m + 2 := ⟨n - 2, by omega⟩
    have hw := ih (m + 1) hf h.2 (by simp only [Wish.deep] at hn; omega)
    obtain ⟨rfl, hs⟩ := hf
    refine sat0_eq.mp (sat0_run (body := c_l_grants) rfl rfl ?_)
    unfold c_l_grants
    simp only [encW, encR, Wish.word]
    repeat' (first | fail | (simp only [cnd_de]; refine And.intro (fun hc => ?_) (fun hc => ?_)) | (simp only [cnd_nde]; refine And.intro (fun hc => ?_) (fun hc => ?_)))
    refine lc_fil (enc := encS) (p := fun s => !s.holds f) (g := encS) (fun s hs => ?_) ?_
    · simp only [encS]
      repeat' (first | fail | (simp only [cnd_de]; refine And.intro (fun hc => ?_) (fun hc => ?_)) | (simp only [cnd_nde]; refine And.intro (fun hc => ?_) (fun hc => ?_)))
      refine i_f (h.1 s hs) ?_
      repeat' (first | fail | (simp only [cnd_de]; refine And.intro (fun hc => ?_) (fun hc => ?_)) | (simp only [cnd_nde]; refine And.intro (fun hc => ?_) (fun hc => ?_)))
      refine call_eq (s_lsays s (at_ f s.b)) ?_
      repeat' (first | fail | (simp only [cnd_de]; refine And.intro (fun hc => ?_) (fun hc => ?_)) | (simp only [cnd_nde]; refine And.intro (fun hc => ?_) (fun hc => ?_)))
      refine cnd_of (fun hc => ?_) (fun hc => ?_)
      · exact ⟨hc, rfl, rfl⟩
      · exact ⟨hc, rfl⟩
    · repeat' (first | fail | (simp only [cnd_de]; refine And.intro (fun hc => ?_) (fun hc => ?_)) | (simp only [cnd_nde]; refine And.intro (fun hc => ?_) (fun hc => ?_)))
      refine c_ne0 ((Shp.list (k := 1) (all_map fun s _ => Shp.tup (all_cons Shp.str (all_cons .int (all_cons .int all_nil))))).ok (by decide)) ?_
      rw [map_isE, fil_isE, Bool.not_not]
      repeat' (first | fail | (simp only [cnd_de]; refine And.intro (fun hc => ?_) (fun hc => ?_)) | (simp only [cnd_nde]; refine And.intro (fun hc => ?_) (fun hc => ?_)))
      refine cnd_of (fun hc => ?_) (fun hc => ?_)
      · repeat' (first | fail | (simp only [cnd_de]; refine And.intro (fun hc => ?_) (fun hc => ?_)) | (simp only [cnd_nde]; refine And.intro (fun hc => ?_) (fun hc => ?_)))
        refine ⟨?_, rfl⟩
        have e : (ss.all fun s => s.holds f) = false := by
          rw [List.all_eq_false]
          obtain ⟨s, h1, h2⟩ := List.any_eq_true.mp hc
          exact ⟨s, h1, by simpa using h2⟩
        simp only [Wish.gr, e, Bool.not_false, Bool.true_or]
      · repeat' (first | fail | (simp only [cnd_de]; refine And.intro (fun hc => ?_) (fun hc => ?_)) | (simp only [cnd_nde]; refine And.intro (fun hc => ?_) (fun hc => ?_)))
        refine call_eq hw ?_
        refine ⟨?_, rfl⟩
        have e : (ss.all fun s => s.holds f) = true := by
          rw [List.all_eq_true]
          intro s hs
          have := List.any_eq_false.mp hc s hs
          simpa using this
        simp only [Wish.gr, e, Bool.not_true, Bool.false_or]
  | sum ts le k =>
    intro n hf h hn
    obtain ⟨m, rfl⟩ : ∃ m, n = m + 1 := ⟨n - 1, by omega⟩
    refine sat0_eq.mp (sat0_run (body := c_l_grants) rfl rfl ?_)
    unfold c_l_grants
    simp only [encW, encR, Wish.word, Wish.gr]
    repeat' (first | fail | (simp only [cnd_de]; refine And.intro (fun hc => ?_) (fun hc => ?_)) | (simp only [cnd_nde]; refine And.intro (fun hc => ?_) (fun hc => ?_)))
    refine lc_mapI (g := fun p => p.1 * at_ f p.2) (fun p hp => ?_) ?_
    · simp only [enc2]
      repeat' (first | fail | (simp only [cnd_de]; refine And.intro (fun hc => ?_) (fun hc => ?_)) | (simp only [cnd_nde]; refine And.intro (fun hc => ?_) (fun hc => ?_)))
      refine i_f (hf.1 ▸ h p hp) ?_
      repeat' (first | fail | (simp only [cnd_de]; refine And.intro (fun hc => ?_) (fun hc => ?_)) | (simp only [cnd_nde]; refine And.intro (fun hc => ?_) (fun hc => ?_)))
      refine o_mul (by rw [at_small hf, Bool.or_true]) ?_
      exact ⟨rfl, rfl⟩
    · cases le <;> simp only [lm] <;> repeat' (first | fail | (simp only [cnd_de]; refine And.intro (fun hc => ?_) (fun hc => ?_)) | (simp only [cnd_nde]; refine And.intro (fun hc => ?_) (fun hc => ?_))) <;> exact ⟨rfl, rfl⟩
  | times a b c =>
    intro n hf h hn
    obtain ⟨m, rfl⟩ : ∃ m, n = m + 1 := ⟨n - 1, by omega⟩
    obtain ⟨rfl, hs⟩ := hf
    obtain ⟨ha, hb, hc⟩ := h
    refine sat0_eq.mp (sat0_run (body := c_l_grants) rfl rfl ?_)
    unfold c_l_grants
    simp only [encW, encR, Wish.word, Wish.gr]
    repeat' (first | fail | (simp only [cnd_de]; refine And.intro (fun hc => ?_) (fun hc => ?_)) | (simp only [cnd_nde]; refine And.intro (fun hc => ?_) (fun hc => ?_)))
    refine i_f ha ?_
    repeat' (first | fail | (simp only [cnd_de]; refine And.intro (fun hc => ?_) (fun hc => ?_)) | (simp only [cnd_nde]; refine And.intro (fun hc => ?_) (fun hc => ?_)))
    refine i_f hb ?_
    repeat' (first | fail | (simp only [cnd_de]; refine And.intro (fun hc => ?_) (fun hc => ?_)) | (simp only [cnd_nde]; refine And.intro (fun hc => ?_) (fun hc => ?_)))
    refine o_mul (by rw [at_small ⟨rfl, hs⟩, Bool.true_or]) ?_
    repeat' (first | fail | (simp only [cnd_de]; refine And.intro (fun hc => ?_) (fun hc => ?_)) | (simp only [cnd_nde]; refine And.intro (fun hc => ?_) (fun hc => ?_)))
    refine i_f hc ?_
    repeat' (first | fail | (simp only [cnd_de]; refine And.intro (fun hc => ?_) (fun hc => ?_)) | (simp only [cnd_nde]; refine And.intro (fun hc => ?_) (fun hc => ?_)))
    exact ⟨rfl, rfl⟩
  | row bs rows =>
    intro n hf h hn
    obtain ⟨m, rfl⟩ : ∃ m, n = m + 1 := ⟨n - 1, by omega⟩
    obtain ⟨rfl, hs⟩ := hf
    refine sat0_eq.mp (sat0_run (body := c_l_grants) rfl rfl ?_)
    unfold c_l_grants
    simp only [encW, encR, Wish.word, Wish.gr]
    repeat' (first | fail | (simp only [cnd_de]; refine And.intro (fun hc => ?_) (fun hc => ?_)) | (simp only [cnd_nde]; refine And.intro (fun hc => ?_) (fun hc => ?_)))
    refine lc_mapI (g := at_ f) (fun b hb => ?_) ?_
    · repeat' (first | fail | (simp only [cnd_de]; refine And.intro (fun hc => ?_) (fun hc => ?_)) | (simp only [cnd_nde]; refine And.intro (fun hc => ?_) (fun hc => ?_)))
      refine i_f (h b hb) ?_
      exact ⟨rfl, rfl⟩
    · repeat' (first | fail | (simp only [cnd_de]; refine And.intro (fun hc => ?_) (fun hc => ?_)) | (simp only [cnd_nde]; refine And.intro (fun hc => ?_) (fun hc => ?_)))
      exact ⟨rfl, rfl⟩
  | pick bs a c =>
    intro n hf h hn
    obtain ⟨m, rfl⟩ : ∃ m, n = m + 1 := ⟨n - 1, by omega⟩
    obtain ⟨rfl, hs⟩ := hf
    obtain ⟨hb, ha, hC⟩ := h
    refine sat0_eq.mp (sat0_run (body := c_l_grants) rfl rfl ?_)
    unfold c_l_grants
    simp only [encW, encR, Wish.word]
    repeat' (first | fail | (simp only [cnd_de]; refine And.intro (fun hc => ?_) (fun hc => ?_)) | (simp only [cnd_nde]; refine And.intro (fun hc => ?_) (fun hc => ?_)))
    refine i_f ha ?_
    repeat' (first | fail | (simp only [cnd_de]; refine And.intro (fun hc => ?_) (fun hc => ?_)) | (simp only [cnd_nde]; refine And.intro (fun hc => ?_) (fun hc => ?_)))
    · rename_i h1
      have h2 := hc
      rw [List.length_map] at h2
      refine i_fL ⟨h1, h2⟩ ?_
      repeat' (first | fail | (simp only [cnd_de]; refine And.intro (fun hc => ?_) (fun hc => ?_)) | (simp only [cnd_nde]; refine And.intro (fun hc => ?_) (fun hc => ?_)))
      refine i_f (hb _ ?_) ?_
      · unfold at_
        rw [List.getD_eq_getElem?_getD, List.getElem?_eq_getElem (by unfold at_ at h1 h2; omega)]
        exact List.getElem_mem _
      repeat' (first | fail | (simp only [cnd_de]; refine And.intro (fun hc => ?_) (fun hc => ?_)) | (simp only [cnd_nde]; refine And.intro (fun hc => ?_) (fun hc => ?_)))
      refine i_f hC ?_
      repeat' (first | fail | (simp only [cnd_de]; refine And.intro (fun hc => ?_) (fun hc => ?_)) | (simp only [cnd_nde]; refine And.intro (fun hc => ?_) (fun hc => ?_)))
      exact ⟨by simp [Wish.gr, h1, h2], rfl⟩
    · rw [List.length_map] at hc
      exact ⟨by simp [Wish.gr, fz, hc], rfl⟩
    · exact ⟨by simp [Wish.gr, fz, hc], rfl⟩
  | unlike bs =>
    intro n hf h hn
    obtain ⟨m, rfl⟩ : ∃ m, n = m + 1 := ⟨n - 1, by omega⟩
    obtain ⟨rfl, hs⟩ := hf
    refine sat0_eq.mp (sat0_run (body := c_l_grants) rfl rfl ?_)
    unfold c_l_grants
    simp only [encW, encR, Wish.word]
    repeat' (first | fail | (simp only [cnd_de]; refine And.intro (fun hc => ?_) (fun hc => ?_)) | (simp only [cnd_nde]; refine And.intro (fun hc => ?_) (fun hc => ?_)))
    refine lc_mapI (g := at_ f) (fun b hb => ?_) ?_
    · repeat' (first | fail | (simp only [cnd_de]; refine And.intro (fun hc => ?_) (fun hc => ?_)) | (simp only [cnd_nde]; refine And.intro (fun hc => ?_) (fun hc => ?_)))
      refine i_f (h.1 b hb) ?_
      exact ⟨rfl, rfl⟩
    · repeat' (first | fail | (simp only [cnd_de]; refine And.intro (fun hc => ?_) (fun hc => ?_)) | (simp only [cnd_nde]; refine And.intro (fun hc => ?_) (fun hc => ?_)))
      refine lset_ (by rw [List.length_map]; exact h.2) ?_
      repeat' (first | fail | (simp only [cnd_de]; refine And.intro (fun hc => ?_) (fun hc => ?_)) | (simp only [cnd_nde]; refine And.intro (fun hc => ?_) (fun hc => ?_)))
      exact ⟨by simp [Wish.gr, Int.ofNat_inj], rfl⟩
  | path bs st ends =>
    intro n hf h hn
    obtain ⟨m, rfl⟩ : ∃ m, n = m + 2 := ⟨n - 2, by omega⟩
    refine sat0_eq.mp (sat0_run (body := c_l_grants) rfl rfl ?_)
    unfold c_l_grants
    simp only [encW, encR, Wish.word]
    repeat' (first | fail | (simp only [cnd_de]; refine And.intro (fun hc => ?_) (fun hc => ?_)) | (simp only [cnd_nde]; refine And.intro (fun hc => ?_) (fun hc => ?_)))
    refine call_eq (s_lpath bs st ends hf h) ?_
    exact ⟨rfl, rfl⟩
  | works ws most =>
    intro n hf h hn
    obtain ⟨m, rfl⟩ : ∃ m, n = m + 2 := ⟨n - 2, by omega⟩
    refine sat0_eq.mp (sat0_run (body := c_l_grants) rfl rfl ?_)
    unfold c_l_grants
    simp only [encW, encR, Wish.word]
    repeat' (first | fail | (simp only [cnd_de]; refine And.intro (fun hc => ?_) (fun hc => ?_)) | (simp only [cnd_nde]; refine And.intro (fun hc => ?_) (fun hc => ?_)))
    refine call_eq (s_lworks ws most hf h) ?_
    exact ⟨rfl, rfl⟩
  | many bs ws c =>
    intro n hf h hn
    obtain ⟨m, rfl⟩ : ∃ m, n = m + 1 := ⟨n - 1, by omega⟩
    obtain ⟨rfl, hs⟩ := hf
    refine sat0_eq.mp (sat0_run (body := c_l_grants) rfl rfl ?_)
    unfold c_l_grants
    simp only [encW, encR, Wish.word]
    repeat' (first | fail | (simp only [cnd_de]; refine And.intro (fun hc => ?_) (fun hc => ?_)) | (simp only [cnd_nde]; refine And.intro (fun hc => ?_) (fun hc => ?_)))
    refine lc_filI (p := fun b => decide (at_ f b ∈ ws)) (g := fun b => b) (fun b hb => ?_) ?_
    · repeat' (first | fail | (simp only [cnd_de]; refine And.intro (fun hc => ?_) (fun hc => ?_)) | (simp only [cnd_nde]; refine And.intro (fun hc => ?_) (fun hc => ?_)))
      refine i_f (h.1 b hb) ?_
      repeat' (first | fail | (simp only [cnd_de]; refine And.intro (fun hc => ?_) (fun hc => ?_)) | (simp only [cnd_nde]; refine And.intro (fun hc => ?_) (fun hc => ?_)))
      · exact ⟨by simp_all, rfl, rfl⟩
      · exact ⟨by simp_all, rfl⟩
    · repeat' (first | fail | (simp only [cnd_de]; refine And.intro (fun hc => ?_) (fun hc => ?_)) | (simp only [cnd_nde]; refine And.intro (fun hc => ?_) (fun hc => ?_)))
      refine i_f h.2 ?_
      repeat' (first | fail | (simp only [cnd_de]; refine And.intro (fun hc => ?_) (fun hc => ?_)) | (simp only [cnd_nde]; refine And.intro (fun hc => ?_) (fun hc => ?_)))
      exact ⟨by simp [Wish.gr], rfl⟩
  | some ss =>
    intro n hf h hn
    obtain ⟨m, rfl⟩ : ∃ m, n = m + 2 := ⟨n - 2, by omega⟩
    obtain ⟨rfl, hs⟩ := hf
    refine sat0_eq.mp (sat0_run (body := c_l_grants) rfl rfl ?_)
    unfold c_l_grants
    simp only [encW, encR, Wish.word]
    repeat' (first | fail | (simp only [cnd_de]; refine And.intro (fun hc => ?_) (fun hc => ?_)) | (simp only [cnd_nde]; refine And.intro (fun hc => ?_) (fun hc => ?_)))
    refine lc_fil (enc := encS) (p := fun s => s.holds f) (g := encS) (fun s hs => ?_) ?_
    · simp only [encS]
      repeat' (first | fail | (simp only [cnd_de]; refine And.intro (fun hc => ?_) (fun hc => ?_)) | (simp only [cnd_nde]; refine And.intro (fun hc => ?_) (fun hc => ?_)))
      refine i_f (h s hs) ?_
      repeat' (first | fail | (simp only [cnd_de]; refine And.intro (fun hc => ?_) (fun hc => ?_)) | (simp only [cnd_nde]; refine And.intro (fun hc => ?_) (fun hc => ?_)))
      refine call_eq (s_lsays s (at_ f s.b)) ?_
      repeat' (first | fail | (simp only [cnd_de]; refine And.intro (fun hc => ?_) (fun hc => ?_)) | (simp only [cnd_nde]; refine And.intro (fun hc => ?_) (fun hc => ?_)))
      refine cnd_of (fun hc => ?_) (fun hc => ?_)
      · exact ⟨hc, rfl, rfl⟩
      · exact ⟨hc, rfl⟩
    · repeat' (first | fail | (simp only [cnd_de]; refine And.intro (fun hc => ?_) (fun hc => ?_)) | (simp only [cnd_nde]; refine And.intro (fun hc => ?_) (fun hc => ?_)))
      refine c_ne0 ((Shp.list (k := 1) (all_map fun s _ => Shp.tup (all_cons Shp.str (all_cons .int (all_cons .int all_nil))))).ok (by decide)) ?_
      rw [map_isE, fil_isE, Bool.not_not]
      repeat' (first | fail | (simp only [cnd_de]; refine And.intro (fun hc => ?_) (fun hc => ?_)) | (simp only [cnd_nde]; refine And.intro (fun hc => ?_) (fun hc => ?_)))
      exact ⟨rfl, rfl⟩
end
section
variable {nb : Nat} {f : List Int} {n : Nat}
theorem s_fillings (lots : List (List Int)) (m : Nat) (hm : 0 < m) (hl : ∀ l ∈ lots, l.length ≤ m) (hb : m ^ lots.length ≤ 1000000) (hb2 : lots.length ≤ 1000) : sat0 (Phi TT (n + 1) n_l_fillings [.list (lots.map lI)]) (fun d fr => @Dn ⟨d = .list ((prodL lots).map tI)⟩) := by
  have hL : line = 16777216 := rfl
  refine sat0_run (body := c_l_fillings) rfl rfl ?_
  unfold c_l_fillings
  have hpre : ∀ done more : List (List Int), lots = done ++ more → (prodL done).length ≤ 1000000 := fun done more e => by
    have h1 := prod_len (lots := done) (m := m) (fun l hl2 => hl l (by rw [e]; simp [hl2])) hm
    have h2 : m ^ done.length ≤ m ^ lots.length := Nat.pow_le_pow_right hm (by rw [e]; simp)
    omega
  repeat' (first | fail | (simp only [cnd_de]; refine And.intro (fun hc => ?_) (fun hc => ?_)) | (simp only [cnd_nde]; refine And.intro (fun hc => ?_) (fun hc => ?_)))
  refine f_ind (fun rest r => ∃ (done more : List (List Int)) (b : Bool) (x2 x3 x4 : FS), lots = done ++ more ∧ rest = more.map lI ∧ r = [some (.p (.list (lots.map lI))), (if b then some (.o (.list ((prodL done).map tI))) else some (.p (.list ((prodL done).map tI)))), fsl x2, fsl x3, fsl x4, none]) ⟨[], lots, true, ⟨none, rfl⟩, ⟨none, rfl⟩, ⟨none, rfl⟩, rfl, rfl, rfl⟩ ?_ ?_
  · rintro x xs r ⟨done, more, b, x2, x3, x4, e1, e2, rfl⟩
    cases more with
    | nil => cases e2
    | cons lot more =>
      cases e2
      have hlen := hpre (done ++ [lot]) more (by rw [e1]; simp)
      have hpl : prodL (done ++ [lot]) = step1 (prodL done) lot := by unfold prodL; rw [List.foldl_append]; rfl
      have hfl : ∀ f ∈ prodL done, f.length = done.length := fun f hf => All2.len (prod_mem.mp hf)
      have hdl : done.length ≤ 1000 := by rw [e1] at hb2; simp at hb2; omega
      cases b <;> simp only [if_true, if_false, Bool.false_eq_true] <;> fail
      all_goals
        refine f_ind (fun rest r => ∃ (fd fm : List (List Int)) (x4 : FS), prodL done = fd ++ fm ∧ rest = fm.map tI ∧ r = [some (.p (.list (lots.map lI))), some (.p (.list ((prodL done).map tI))), some (.p (lI lot)), some (.o (.list ((step1 fd lot).map tI))), fsl x4, none]) ⟨[], prodL done, x4, rfl, rfl, rfl⟩ ?_ ?_
        · rintro x xs r ⟨fd, fm, x4, e3, e4, rfl⟩
          cases fm with
          | nil => cases e4
          | cons g fm =>
            cases e4
            fail
            refine lc_mapE (encb := tI) (g := fun w => g ++ [w]) (fun w hw => ?_) ?_
            · fail
              refine o_addT (by rw [List.length_map, hfl g (by rw [e3]; simp)]; simp only [List.length_cons, List.length_nil]; omega) ?_
              exact ⟨by unfold tI; rw [List.map_append]; rfl, rfl⟩
            · have hst : (step1 (prodL done) lot).length = (step1 fd lot).length + lot.length + (step1 fm lot).length := by
                rw [e3]
                simp only [step1_len, List.length_append, List.length_cons, Nat.add_mul]
                omega
              refine o_addL (by rw [List.length_map, List.length_map, List.length_map]; rw [hpl] at hlen; omega) ?_
              rw [← List.map_append]
              fail
              exact ⟨fd ++ [g], fm, ⟨some (.p (tI g)), rfl⟩, by rw [e3]; simp, rfl, by unfold step1; simp [List.flatMap_append]; rfl⟩
        · rintro r ⟨fd, fm, x4, e3, e4, rfl⟩
          have : fm = [] := by cases fm with | nil => rfl | cons _ _ => cases e4
          subst this
          rw [List.append_nil] at e3
          subst e3
          fail
          exact ⟨done ++ [lot], more, false, ⟨some (.p (lI lot)), rfl⟩, ⟨some (.p (.list ((prodL (done ++ [lot])).map tI))), rfl⟩, x4, by rw [e1]; simp, rfl, by rw [hpl]; rfl⟩
  · rintro r ⟨done, more, b, x2, x3, x4, e1, e2, rfl⟩
    have : more = [] := by cases more with | nil => rfl | cons _ _ => cases e2
    subst this
    rw [List.append_nil] at e1
    subst e1
    cases b <;> simp only [if_true, if_false, Bool.false_eq_true] <;> fail
    all_goals exact rfl
end
/-! grants: each kind of wish -/
section
variable {nb : Nat} {f : List Int} {n : Nat}
theorem s_says (s : Sgn) (x : Int) : Phi TT (n + 1) n_says [encS s, .int x] = .ok (.bool (s.says x)) false none := by
  refine sat0_eq.mp (sat0_run (body := c_says) rfl rfl ?_)
  unfold c_says
  obtain ⟨w, b, v⟩ := s
  cases w <;> (simp only [encS, sw, SW.str]; repeat' (first | fail | (simp only [cnd_de]; refine And.intro (fun hc => ?_) (fun hc => ?_)) | (simp only [cnd_nde]; refine And.intro (fun hc => ?_) (fun hc => ?_)))) <;> exact ⟨by simp [Sgn.says], rfl⟩
theorem s_holds (s : Sgn) (h : inB f.length s.b) : Phi TT (n + 2) n_holds [encS s, tI f] = .ok (.bool (s.holds f)) false none := by
  refine sat0_eq.mp (sat0_run (body := c_holds) rfl rfl ?_)
  unfold c_holds
  simp only [encS, tI]
  repeat' (first | fail | (simp only [cnd_de]; refine And.intro (fun hc => ?_) (fun hc => ?_)) | (simp only [cnd_nde]; refine And.intro (fun hc => ?_) (fun hc => ?_)))
  refine i_f h ?_
  fail
  refine call_eq (s_says s (at_ f s.b)) ?_
  exact ⟨rfl, rfl⟩
theorem s_unlike (l : List Int) (h : l.length ≤ 4000) : Phi TT (n + 1) n_are_unlike [lI l] = .ok (.bool (decide ((usort l).length = l.length))) false none := by
  refine sat0_eq.mp (sat0_run (body := c_are_unlike) rfl rfl ?_)
  unfold c_are_unlike lI
  repeat' (first | fail | (simp only [cnd_de]; refine And.intro (fun hc => ?_) (fun hc => ?_)) | (simp only [cnd_nde]; refine And.intro (fun hc => ?_) (fun hc => ?_)))
  refine lsc_map (g := fun x => x) h (fun x hx => ?_) ?_
  · repeat' (first | fail | (simp only [cnd_de]; refine And.intro (fun hc => ?_) (fun hc => ?_)) | (simp only [cnd_nde]; refine And.intro (fun hc => ?_) (fun hc => ?_)))
    exact ⟨rfl, rfl⟩
  · repeat' (first | fail | (simp only [cnd_de]; refine And.intro (fun hc => ?_) (fun hc => ?_)) | (simp only [cnd_nde]; refine And.intro (fun hc => ?_) (fun hc => ?_)))
    exact ⟨by simp [Int.ofNat_inj], rfl⟩
theorem s_gsum (ts : List P2) (le : Bool) (k : Int) (hf : FOk nb f) (h : (Wish.sum ts le k).ok nb) : Phi TT (n + 1) n_grants_sum [tI f, .list (encR (.sum ts le k))] = .ok (.bool ((Wish.sum ts le k).gr f)) false none := by
  refine sat0_eq.mp (sat0_run (body := c_grants_sum) rfl rfl ?_)
  unfold c_grants_sum
  simp only [encR, tI, sw, Wish.gr]
  repeat' (first | fail | (simp only [cnd_de]; refine And.intro (fun hc => ?_) (fun hc => ?_)) | (simp only [cnd_nde]; refine And.intro (fun hc => ?_) (fun hc => ?_)))
  refine lc_mapI (g := fun p => p.1 * at_ f p.2) (fun p hp => ?_) ?_
  · simp only [enc2]
    repeat' (first | fail | (simp only [cnd_de]; refine And.intro (fun hc => ?_) (fun hc => ?_)) | (simp only [cnd_nde]; refine And.intro (fun hc => ?_) (fun hc => ?_)))
    refine i_f (hf.1 ▸ h p hp) ?_
    repeat' (first | fail | (simp only [cnd_de]; refine And.intro (fun hc => ?_) (fun hc => ?_)) | (simp only [cnd_nde]; refine And.intro (fun hc => ?_) (fun hc => ?_)))
    refine o_mul (by rw [at_small hf, Bool.or_true]) ?_
    exact ⟨rfl, rfl⟩
  · cases le <;> simp only [lm] <;> repeat' (first | fail | (simp only [cnd_de]; refine And.intro (fun hc => ?_) (fun hc => ?_)) | (simp only [cnd_nde]; refine And.intro (fun hc => ?_) (fun hc => ?_))) <;> exact ⟨rfl, rfl⟩
theorem s_gtimes (a b c : Int) (hf : FOk nb f) (h : (Wish.times a b c).ok nb) : Phi TT (n + 1) n_grants_times [tI f, .list (encR (.times a b c))] = .ok (.bool ((Wish.times a b c).gr f)) false none := by
  refine sat0_eq.mp (sat0_run (body := c_grants_times) rfl rfl ?_)
  unfold c_grants_times
  obtain ⟨rfl, hs⟩ := hf
  obtain ⟨ha, hb, hc⟩ := h
  simp only [encR, tI]
  repeat' (first | fail | (simp only [cnd_de]; refine And.intro (fun hc => ?_) (fun hc => ?_)) | (simp only [cnd_nde]; refine And.intro (fun hc => ?_) (fun hc => ?_)))
  refine i_f ha ?_
  repeat' (first | fail | (simp only [cnd_de]; refine And.intro (fun hc => ?_) (fun hc => ?_)) | (simp only [cnd_nde]; refine And.intro (fun hc => ?_) (fun hc => ?_)))
  refine i_f hb ?_
  repeat' (first | fail | (simp only [cnd_de]; refine And.intro (fun hc => ?_) (fun hc => ?_)) | (simp only [cnd_nde]; refine And.intro (fun hc => ?_) (fun hc => ?_)))
  refine o_mul (by rw [at_small ⟨rfl, hs⟩, Bool.true_or]) ?_
  repeat' (first | fail | (simp only [cnd_de]; refine And.intro (fun hc => ?_) (fun hc => ?_)) | (simp only [cnd_nde]; refine And.intro (fun hc => ?_) (fun hc => ?_)))
  refine i_f hc ?_
  repeat' (first | fail | (simp only [cnd_de]; refine And.intro (fun hc => ?_) (fun hc => ?_)) | (simp only [cnd_nde]; refine And.intro (fun hc => ?_) (fun hc => ?_)))
  exact ⟨rfl, rfl⟩
theorem s_grow (bs : List Int) (rows : List (List Int)) (hf : FOk nb f) (h : (Wish.row bs rows).ok nb) : Phi TT (n + 1) n_grants_row [tI f, .list (encR (.row bs rows))] = .ok (.bool ((Wish.row bs rows).gr f)) false none := by
  refine sat0_eq.mp (sat0_run (body := c_grants_row) rfl rfl ?_)
  unfold c_grants_row
  obtain ⟨rfl, hs⟩ := hf
  simp only [encR, tI]
  repeat' (first | fail | (simp only [cnd_de]; refine And.intro (fun hc => ?_) (fun hc => ?_)) | (simp only [cnd_nde]; refine And.intro (fun hc => ?_) (fun hc => ?_)))
  refine lc_mapI (g := at_ f) (fun b hb => ?_) ?_
  · repeat' (first | fail | (simp only [cnd_de]; refine And.intro (fun hc => ?_) (fun hc => ?_)) | (simp only [cnd_nde]; refine And.intro (fun hc => ?_) (fun hc => ?_)))
    refine i_f (h b hb) ?_
    exact ⟨rfl, rfl⟩
  · repeat' (first | fail | (simp only [cnd_de]; refine And.intro (fun hc => ?_) (fun hc => ?_)) | (simp only [cnd_nde]; refine And.intro (fun hc => ?_) (fun hc => ?_)))
    exact ⟨rfl, rfl⟩
theorem s_gpick (bs : List Int) (a c : Int) (hf : FOk nb f) (h : (Wish.pick bs a c).ok nb) : Phi TT (n + 1) n_grants_pick [tI f, .list (encR (.pick bs a c))] = .ok (.bool ((Wish.pick bs a c).gr f)) false none := by
  refine sat0_eq.mp (sat0_run (body := c_grants_pick) rfl rfl ?_)
  unfold c_grants_pick
  obtain ⟨rfl, hs⟩ := hf
  obtain ⟨hb, ha, hC⟩ := h
  simp only [encR, tI, Wish.gr]
  repeat' (first | fail | (simp only [cnd_de]; refine And.intro (fun hc => ?_) (fun hc => ?_)) | (simp only [cnd_nde]; refine And.intro (fun hc => ?_) (fun hc => ?_)))
  refine i_f ha ?_
  repeat' (first | fail | (simp only [cnd_de]; refine And.intro (fun hc => ?_) (fun hc => ?_)) | (simp only [cnd_nde]; refine And.intro (fun hc => ?_) (fun hc => ?_)))
  · rename_i h1
    have h2 := hc
    rw [List.length_map] at h2
    refine i_f ha ?_
    repeat' (first | fail | (simp only [cnd_de]; refine And.intro (fun hc => ?_) (fun hc => ?_)) | (simp only [cnd_nde]; refine And.intro (fun hc => ?_) (fun hc => ?_)))
    refine i_fL ⟨h1, h2⟩ ?_
    repeat' (first | fail | (simp only [cnd_de]; refine And.intro (fun hc => ?_) (fun hc => ?_)) | (simp only [cnd_nde]; refine And.intro (fun hc => ?_) (fun hc => ?_)))
    refine i_f (hb _ ?_) ?_
    · unfold at_
      rw [List.getD_eq_getElem?_getD, List.getElem?_eq_getElem (by unfold at_ at h1 h2; omega)]
      exact List.getElem_mem _
    repeat' (first | fail | (simp only [cnd_de]; refine And.intro (fun hc => ?_) (fun hc => ?_)) | (simp only [cnd_nde]; refine And.intro (fun hc => ?_) (fun hc => ?_)))
    refine i_f hC ?_
    repeat' (first | fail | (simp only [cnd_de]; refine And.intro (fun hc => ?_) (fun hc => ?_)) | (simp only [cnd_nde]; refine And.intro (fun hc => ?_) (fun hc => ?_)))
    exact ⟨by simp [Wish.gr, h1, h2], rfl⟩
  · rw [List.length_map] at hc
    exact ⟨by simp [Wish.gr, fz, hc], rfl⟩
  · exact ⟨by simp [Wish.gr, fz, hc], rfl⟩
theorem s_gunlike (bs : List Int) (hf : FOk nb f) (h : (Wish.unlike bs).ok nb) : Phi TT (n + 2) n_grants_unlike [tI f, .list (encR (.unlike bs))] = .ok (.bool ((Wish.unlike bs).gr f)) false none := by
  refine sat0_eq.mp (sat0_run (body := c_grants_unlike) rfl rfl ?_)
  unfold c_grants_unlike
  obtain ⟨rfl, hs⟩ := hf
  simp only [encR, tI]
  repeat' (first | fail | (simp only [cnd_de]; refine And.intro (fun hc => ?_) (fun hc => ?_)) | (simp only [cnd_nde]; refine And.intro (fun hc => ?_) (fun hc => ?_)))
  refine lc_mapI (g := at_ f) (fun b hb => ?_) ?_
  · repeat' (first | fail | (simp only [cnd_de]; refine And.intro (fun hc => ?_) (fun hc => ?_)) | (simp only [cnd_nde]; refine And.intro (fun hc => ?_) (fun hc => ?_)))
    refine i_f (h.1 b hb) ?_
    exact ⟨rfl, rfl⟩
  · repeat' (first | fail | (simp only [cnd_de]; refine And.intro (fun hc => ?_) (fun hc => ?_)) | (simp only [cnd_nde]; refine And.intro (fun hc => ?_) (fun hc => ?_)))
    refine call_eq (s_unlike (bs.map (at_ f)) (by rw [List.length_map]; exact h.2)) ?_
    exact ⟨rfl, rfl⟩
theorem s_gpath (bs : List Int) (st : List P3) (ends : List Int) (hf : FOk nb f) (h : (Wish.path bs st ends).ok nb) : Phi TT (n + 1) n_grants_path [tI f, .list (encR (.path bs st ends))] = .ok (.bool ((Wish.path bs st ends).gr f)) false none := by
  refine sat0_eq.mp (sat0_run (body := c_grants_path) rfl rfl ?_)
  unfold c_grants_path
  obtain ⟨rfl, hs⟩ := hf
  simp only [encR, tI]
  repeat' (first | fail | (simp only [cnd_de]; refine And.intro (fun hc => ?_) (fun hc => ?_)) | (simp only [cnd_nde]; refine And.intro (fun hc => ?_) (fun hc => ?_)))
  refine f_ind (fun rest r => ∃ done more x, bs = done ++ more ∧ rest = more.map .int ∧ r = [some (.p (tI f)), some (.p (.list [tI bs, .tuple (st.map enc3), tI ends])), some (.o (lI (done.foldl (ups st f) [0]))), op x, some (.p (tI bs)), some (.p (.tuple (st.map enc3))), some (.p (tI ends)), none, none, none]) ⟨[], bs, none, rfl, rfl, rfl⟩ ?_ ?_
  · rintro x xs r ⟨done, more, y, e1, e2, rfl⟩
    cases more with
    | nil => cases e2
    | cons b more =>
      cases e2
      try simp only [tI, lI]
      repeat' (first | fail | (simp only [cnd_de]; refine And.intro (fun hc => ?_) (fun hc => ?_)) | (simp only [cnd_nde]; refine And.intro (fun hc => ?_) (fun hc => ?_)))
      refine lc_filI (enc := enc3) (p := fun p => decide (p.1 ∈ done.foldl (ups st f) [0]) && decide (p.2.1 = at_ f b)) (g := fun p => p.2.2) (fun p hp => ?_) ?_
      · simp only [enc3]
        repeat' (first | fail | (simp only [cnd_de]; refine And.intro (fun hc => ?_) (fun hc => ?_)) | (simp only [cnd_nde]; refine And.intro (fun hc => ?_) (fun hc => ?_)))
        · refine i_f (h b (by rw [e1]; simp)) ?_
          repeat' (first | fail | (simp only [cnd_de]; refine And.intro (fun hc => ?_) (fun hc => ?_)) | (simp only [cnd_nde]; refine And.intro (fun hc => ?_) (fun hc => ?_)))
          · exact ⟨by simp_all, rfl, rfl⟩
          · exact ⟨by simp_all, rfl⟩
        · exact ⟨by simp_all, rfl⟩
      · repeat' (first | fail | (simp only [cnd_de]; refine And.intro (fun hc => ?_) (fun hc => ?_)) | (simp only [cnd_nde]; refine And.intro (fun hc => ?_) (fun hc => ?_)))
        refine ⟨done ++ [b], more, some (.int b), by rw [e1]; simp, rfl, ?_⟩
        rw [List.foldl_append]
        rfl
  · rintro r ⟨done, more, y, e1, e2, rfl⟩
    have : more = [] := by cases more with | nil => rfl | cons _ _ => cases e2
    subst this
    rw [List.append_nil] at e1
    subst e1
    try simp only [tI, lI]
    repeat' (first | fail | (simp only [cnd_de]; refine And.intro (fun hc => ?_) (fun hc => ?_)) | (simp only [cnd_nde]; refine And.intro (fun hc => ?_) (fun hc => ?_)))
    refine lc_mapB (g := fun s => decide (s ∈ ends)) (fun b hb => ?_) ?_
    · repeat' (first | fail | (simp only [cnd_de]; refine And.intro (fun hc => ?_) (fun hc => ?_)) | (simp only [cnd_nde]; refine And.intro (fun hc => ?_) (fun hc => ?_)))
      exact ⟨rfl, rfl⟩
    · repeat' (first | fail | (simp only [cnd_de]; refine And.intro (fun hc => ?_) (fun hc => ?_)) | (simp only [cnd_nde]; refine And.intro (fun hc => ?_) (fun hc => ?_)))
      exact ⟨by simp [Wish.gr], rfl⟩
theorem s_gworks (ws : List P3) (most : Int) (hf : FOk nb f) (h : (Wish.works ws most).ok nb) : Phi TT (n + 1) n_grants_works [tI f, .list (encR (.works ws most))] = .ok (.bool ((Wish.works ws most).gr f)) false none := by
  refine sat0_eq.mp (sat0_run (body := c_grants_works) rfl rfl ?_)
  unfold c_grants_works
  obtain ⟨rfl, hs⟩ := hf
  simp only [encR, tI]
  repeat' (first | fail | (simp only [cnd_de]; refine And.intro (fun hc => ?_) (fun hc => ?_)) | (simp only [cnd_nde]; refine And.intro (fun hc => ?_) (fun hc => ?_)))
  refine f_ind (fun rest r => ∃ done more x1 x2 x3 x4 x5, ws = done ++ more ∧ rest = more.map enc3 ∧ (∀ p ∈ done, going ws f (at_ f p.1) ≤ most) ∧ r = [some (.p (tI f)), some (.p (.list [.tuple (ws.map enc3), .int most])), some (.p (.tuple (ws.map enc3))), some (.p (.int most)), op x1, op x2, op x3, op x4, os x5, none, none, none]) ⟨[], ws, none, none, none, none, none, rfl, rfl, by simp, rfl⟩ ?_ ?_
  · rintro x xs r ⟨done, more, x1, x2, x3, x4, x5, e1, e2, hd, rfl⟩
    cases more with
    | nil => cases e2
    | cons b more =>
      cases e2
      simp only [tI, enc3]
      repeat' (first | fail | (simp only [cnd_de]; refine And.intro (fun hc => ?_) (fun hc => ?_)) | (simp only [cnd_nde]; refine And.intro (fun hc => ?_) (fun hc => ?_)))
      refine i_f (h b (by rw [e1]; simp)) ?_
      repeat' (first | fail | (simp only [cnd_de]; refine And.intro (fun hc => ?_) (fun hc => ?_)) | (simp only [cnd_nde]; refine And.intro (fun hc => ?_) (fun hc => ?_)))
      refine lc_filI (enc := enc3) (p := fun p => decide (at_ f p.1 ≤ at_ f b.1) && decide (at_ f b.1 < at_ f p.1 + p.2.1)) (g := fun p => p.2.2) (fun p hp => ?_) ?_
      · simp only [enc3]
        repeat' (first | fail | (simp only [cnd_de]; refine And.intro (fun hc => ?_) (fun hc => ?_)) | (simp only [cnd_nde]; refine And.intro (fun hc => ?_) (fun hc => ?_)))
        refine i_f (h p hp) ?_
        repeat' (first | fail | (simp only [cnd_de]; refine And.intro (fun hc => ?_) (fun hc => ?_)) | (simp only [cnd_nde]; refine And.intro (fun hc => ?_) (fun hc => ?_)))
        · refine i_f (h p hp) ?_
          repeat' (first | fail | (simp only [cnd_de]; refine And.intro (fun hc => ?_) (fun hc => ?_)) | (simp only [cnd_nde]; refine And.intro (fun hc => ?_) (fun hc => ?_)))
          · exact ⟨by rw [Bool.and_eq_true, decide_eq_true_eq, decide_eq_true_eq]; omega, rfl, rfl⟩
          · exact ⟨by rw [Bool.and_eq_false_iff, decide_eq_false_iff_not, decide_eq_false_iff_not]; omega, rfl⟩
        · exact ⟨by rw [Bool.and_eq_false_iff, decide_eq_false_iff_not, decide_eq_false_iff_not]; omega, rfl⟩
      · repeat' (first | fail | (simp only [cnd_de]; refine And.intro (fun hc => ?_) (fun hc => ?_)) | (simp only [cnd_nde]; refine And.intro (fun hc => ?_) (fun hc => ?_)))
        · refine ⟨?_, rfl⟩
          have : ws.all (fun p => decide (going ws f (at_ f p.1) ≤ most)) = false := by
            rw [List.all_eq_false]
            exact ⟨b, by rw [e1]; simp, by rw [decide_eq_true_eq]; simpa [going] using hc⟩
          rw [Wish.gr, this]
        · refine ⟨done ++ [b], more, some (.int _), some (.int _), some (.int _), some (.int _), some _, by rw [e1]; simp, rfl, ?_, rfl⟩
          intro p hp
          rcases List.mem_append.mp hp with z | z
          · exact hd p z
          · rw [List.mem_singleton.mp z]
            simpa [going] using hc
  · rintro r ⟨done, more, x1, x2, x3, x4, x5, e1, e2, hd, rfl⟩
    have : more = [] := by cases more with | nil => rfl | cons _ _ => cases e2
    subst this
    rw [List.append_nil] at e1
    subst e1
    repeat' (first | fail | (simp only [cnd_de]; refine And.intro (fun hc => ?_) (fun hc => ?_)) | (simp only [cnd_nde]; refine And.intro (fun hc => ?_) (fun hc => ?_)))
    refine ⟨?_, rfl⟩
    have : ws.all (fun p => decide (going ws f (at_ f p.1) ≤ most)) = true := by
      rw [List.all_eq_true]
      exact fun p hp => decide_eq_true (hd p hp)
    rw [Wish.gr, this]
theorem s_gmany (bs ws : List Int) (c : Int) (hf : FOk nb f) (h : (Wish.many bs ws c).ok nb) : Phi TT (n + 1) n_grants_many [tI f, .list (encR (.many bs ws c))] = .ok (.bool ((Wish.many bs ws c).gr f)) false none := by
  refine sat0_eq.mp (sat0_run (body := c_grants_many) rfl rfl ?_)
  unfold c_grants_many
  obtain ⟨rfl, hs⟩ := hf
  simp only [encR, tI]
  repeat' (first | fail | (simp only [cnd_de]; refine And.intro (fun hc => ?_) (fun hc => ?_)) | (simp only [cnd_nde]; refine And.intro (fun hc => ?_) (fun hc => ?_)))
  refine lc_filI (p := fun b => decide (at_ f b ∈ ws)) (g := fun b => b) (fun b hb => ?_) ?_
  · repeat' (first | fail | (simp only [cnd_de]; refine And.intro (fun hc => ?_) (fun hc => ?_)) | (simp only [cnd_nde]; refine And.intro (fun hc => ?_) (fun hc => ?_)))
    refine i_f (h.1 b hb) ?_
    repeat' (first | fail | (simp only [cnd_de]; refine And.intro (fun hc => ?_) (fun hc => ?_)) | (simp only [cnd_nde]; refine And.intro (fun hc => ?_) (fun hc => ?_)))
    · exact ⟨by simp_all, rfl, rfl⟩
    · exact ⟨by simp_all, rfl⟩
  · repeat' (first | fail | (simp only [cnd_de]; refine And.intro (fun hc => ?_) (fun hc => ?_)) | (simp only [cnd_nde]; refine And.intro (fun hc => ?_) (fun hc => ?_)))
    refine i_f h.2 ?_
    repeat' (first | fail | (simp only [cnd_de]; refine And.intro (fun hc => ?_) (fun hc => ?_)) | (simp only [cnd_nde]; refine And.intro (fun hc => ?_) (fun hc => ?_)))
    exact ⟨by simp [Wish.gr], rfl⟩
theorem s_gsome (ss : List Sgn) (hf : FOk nb f) (h : (Wish.some ss).ok nb) : Phi TT (n + 3) n_grants_some [tI f, .list (encR (.some ss))] = .ok (.bool ((Wish.some ss).gr f)) false none := by
  refine sat0_eq.mp (sat0_run (body := c_grants_some) rfl rfl ?_)
  unfold c_grants_some
  obtain ⟨rfl, hs⟩ := hf
  simp only [encR, tI]
  repeat' (first | fail | (simp only [cnd_de]; refine And.intro (fun hc => ?_) (fun hc => ?_)) | (simp only [cnd_nde]; refine And.intro (fun hc => ?_) (fun hc => ?_)))
  refine lc_mapB (g := fun s => s.holds f) (fun s hs => ?_) ?_
  · repeat' (first | fail | (simp only [cnd_de]; refine And.intro (fun hc => ?_) (fun hc => ?_)) | (simp only [cnd_nde]; refine And.intro (fun hc => ?_) (fun hc => ?_)))
    refine call_eq (s_holds s (h s hs)) ?_
    exact ⟨rfl, rfl⟩
  · repeat' (first | fail | (simp only [cnd_de]; refine And.intro (fun hc => ?_) (fun hc => ?_)) | (simp only [cnd_nde]; refine And.intro (fun hc => ?_) (fun hc => ?_)))
    exact ⟨by simp [Wish.gr], rfl⟩
theorem s_gif (ss : List Sgn) (w : Wish) (hf : FOk nb f) (h : (Wish.iff ss w).ok nb) (hw : Phi TT (n + 2) n_grants [encW w, tI f] = .ok (.bool (w.gr f)) false none) : Phi TT (n + 3) n_grants_if [tI f, .list (encR (.iff ss w))] = .ok (.bool ((Wish.iff ss w).gr f)) false none := by
  refine sat0_eq.mp (sat0_run (body := c_grants_if) rfl rfl ?_)
  unfold c_grants_if
  obtain ⟨rfl, hs⟩ := hf
  simp only [encR, tI]
  repeat' (first | fail | (simp only [cnd_de]; refine And.intro (fun hc => ?_) (fun hc => ?_)) | (simp only [cnd_nde]; refine And.intro (fun hc => ?_) (fun hc => ?_)))
  refine lc_mapB (g := fun s => s.holds f) (fun s hs => ?_) ?_
  · repeat' (first | fail | (simp only [cnd_de]; refine And.intro (fun hc => ?_) (fun hc => ?_)) | (simp only [cnd_nde]; refine And.intro (fun hc => ?_) (fun hc => ?_)))
    refine call_eq (s_holds s (h.1 s hs)) ?_
    exact ⟨rfl, rfl⟩
  · repeat' (first | fail | (simp only [cnd_de]; refine And.intro (fun hc => ?_) (fun hc => ?_)) | (simp only [cnd_nde]; refine And.intro (fun hc => ?_) (fun hc => ?_)))
    refine cnd_of (fun hc => ?_) (fun hc => ?_)
    · exact ⟨by simp_all [Wish.gr, tz, fz], rfl⟩
    · repeat' (first | fail | (simp only [cnd_de]; refine And.intro (fun hc => ?_) (fun hc => ?_)) | (simp only [cnd_nde]; refine And.intro (fun hc => ?_) (fun hc => ?_)))
      refine call_eq hw ?_
      exact ⟨by simp_all [Wish.gr, tz, fz], rfl⟩
theorem g_step (wd : String) (l : List D) (i m : Nat) (b : Bool) (hl : ([("sum", n_grants_sum), ("times", n_grants_times), ("row", n_grants_row), ("pick", n_grants_pick), ("unlike", n_grants_unlike), ("path", n_grants_path), ("works", n_grants_works), ("many", n_grants_many), ("some", n_grants_some), ("if", n_grants_if)] : List (Str × Nat)).lookup (Str.ofString wd) = some i) (h : Phi TT m i [tI f, .list l] = .ok (.bool b) false none) : Phi TT (m + 1) n_grants [.tuple (sw wd :: l), tI f] = .ok (.bool b) false none := by
  refine sat0_eq.mp (sat0_run (body := c_grants) rfl rfl ?_)
  unfold c_grants
  simp only [sw]
  repeat' (first | fail | (simp only [cnd_de]; refine And.intro (fun hc => ?_) (fun hc => ?_)) | (simp only [cnd_nde]; refine And.intro (fun hc => ?_) (fun hc => ?_)))
  refine star_ (by simp only [List.length_cons]; omega) ?_
  repeat' (first | fail | (simp only [cnd_de]; refine And.intro (fun hc => ?_) (fun hc => ?_)) | (simp only [cnd_nde]; refine And.intro (fun hc => ?_) (fun hc => ?_)))
  refine fsel_ hl ?_
  repeat' (first | fail | (simp only [cnd_de]; refine And.intro (fun hc => ?_) (fun hc => ?_)) | (simp only [cnd_nde]; refine And.intro (fun hc => ?_) (fun hc => ?_)))
  refine call_eq h ?_
  exact ⟨rfl, rfl⟩
theorem s_grants : ∀ (w : Wish) (n : Nat), FOk nb f → w.ok nb → 2 * w.deep + 4 ≤ n → Phi TT n n_grants [encW w, tI f] = .ok (.bool (w.gr f)) false none := by
  intro w
  induction w with
  | iff ss w ih =>
    intro n hf h hn
    obtain ⟨m, rfl⟩ : ∃ m, n = m + 4 := ⟨n - 4, by omega⟩
    have hw := ih (m + 2) hf h.2 (by simp only [Wish.deep] at hn; omega)
    exact g_step "if" _ n_grants_if (m + 3) _ (by decide +kernel) (s_gif (n := m) ss w hf h hw)
  | sum ts le k =>
    intro n hf h hn
    obtain ⟨m, rfl⟩ : ∃ m, n = m + 4 := ⟨n - 4, by omega⟩
    exact g_step "sum" _ n_grants_sum (m + 3) _ (by decide +kernel) (s_gsum (n := m + 2) ts le k hf h)
  | times a b c =>
    intro n hf h hn
    obtain ⟨m, rfl⟩ : ∃ m, n = m + 4 := ⟨n - 4, by omega⟩
    exact g_step "times" _ n_grants_times (m + 3) _ (by decide +kernel) (s_gtimes (n := m + 2) a b c hf h)
  | row bs rows =>
    intro n hf h hn
    obtain ⟨m, rfl⟩ : ∃ m, n = m + 4 := ⟨n - 4, by omega⟩
    exact g_step "row" _ n_grants_row (m + 3) _ (by decide +kernel) (s_grow (n := m + 2) bs rows hf h)
  | pick bs a c =>
    intro n hf h hn
    obtain ⟨m, rfl⟩ : ∃ m, n = m + 4 := ⟨n - 4, by omega⟩
    exact g_step "pick" _ n_grants_pick (m + 3) _ (by decide +kernel) (s_gpick (n := m + 2) bs a c hf h)
  | unlike bs =>
    intro n hf h hn
    obtain ⟨m, rfl⟩ : ∃ m, n = m + 4 := ⟨n - 4, by omega⟩
    exact g_step "unlike" _ n_grants_unlike (m + 3) _ (by decide +kernel) (s_gunlike (n := m + 1) bs hf h)
  | path bs st ends =>
    intro n hf h hn
    obtain ⟨m, rfl⟩ : ∃ m, n = m + 4 := ⟨n - 4, by omega⟩
    exact g_step "path" _ n_grants_path (m + 3) _ (by decide +kernel) (s_gpath (n := m + 2) bs st ends hf h)
  | works ws most =>
    intro n hf h hn
    obtain ⟨m, rfl⟩ : ∃ m, n = m + 4 := ⟨n - 4, by omega⟩
    exact g_step "works" _ n_grants_works (m + 3) _ (by decide +kernel) (s_gworks (n := m + 2) ws most hf h)
  | many bs ws c =>
    intro n hf h hn
    obtain ⟨m, rfl⟩ : ∃ m, n = m + 4 := ⟨n - 4, by omega⟩
    exact g_step "many" _ n_grants_many (m + 3) _ (by decide +kernel) (s_gmany (n := m + 2) bs ws c hf h)
  | some ss =>
    intro n hf h hn
    obtain ⟨m, rfl⟩ : ∃ m, n = m + 4 := ⟨n - 4, by omega⟩
    exact g_step "some" _ n_grants_some (m + 3) _ (by decide +kernel) (s_gsome (n := m + 0) ss hf h)
end
/-! the laws' own drawing -/
section
variable {n : Nat} {a s : Int}
theorem s_pool (ns : List Int) (k : Int) (hk : 0 ≤ k) (hk2 : k < 100) : sat0 (Phi TT (n + 1) n_l_pool [lI ns, .int k]) (fun d fr => @Dn ⟨∃ a s, PO a s ∧ d = pl a s ∧ fr = true⟩) := by
  refine sat0_run (body := c_l_pool) rfl rfl ?_
  unfold c_l_pool lI
  fail
  refine cnd_dec (fun hc => ?_) (fun hc => ?_)
  rotate_left
  · fail
    refine o_mod (by decide) ?_
    repeat' (first | fail | (simp only [cnd_de]; refine And.intro (fun hc => ?_) (fun hc => ?_)) | (simp only [cnd_nde]; refine And.intro (fun hc => ?_) (fun hc => ?_)))
    refine o_mul (by rw [small_of (i := 16807) (by decide) (by decide), Bool.or_true]) ?_
    repeat' (first | fail | (simp only [cnd_de]; refine And.intro (fun hc => ?_) (fun hc => ?_)) | (simp only [cnd_nde]; refine And.intro (fun hc => ?_) (fun hc => ?_)))
    refine o_mul (by rw [small_of (i := 104729) (by decide) (by decide), Bool.true_or]) ?_
    repeat' (first | fail | (simp only [cnd_de]; refine And.intro (fun hc => ?_) (fun hc => ?_)) | (simp only [cnd_nde]; refine And.intro (fun hc => ?_) (fun hc => ?_)))
    refine o_mod (by decide) ?_
    repeat' (first | fail | (simp only [cnd_de]; refine And.intro (fun hc => ?_) (fun hc => ?_)) | (simp only [cnd_nde]; refine And.intro (fun hc => ?_) (fun hc => ?_)))
    refine o_pow (by decide) (by decide) (by decide) ?_
    repeat' (first | fail | (simp only [cnd_de]; refine And.intro (fun hc => ?_) (fun hc => ?_)) | (simp only [cnd_nde]; refine And.intro (fun hc => ?_) (fun hc => ?_)))
    · exact ⟨_, _, ⟨by omega, fm_lo (by decide), fm_hi (by decide)⟩, rfl, rfl⟩
    · refine ⟨_, _, ⟨?_, fm_lo (by decide), fm_hi (by decide)⟩, rfl, rfl⟩
      split <;> omega
  · rw [List.length_map] at hc
    fail
    refine i_fL ⟨hk, hc⟩ ?_
    fail
    refine o_mod (by decide) ?_
    repeat' (first | fail | (simp only [cnd_de]; refine And.intro (fun hc => ?_) (fun hc => ?_)) | (simp only [cnd_nde]; refine And.intro (fun hc => ?_) (fun hc => ?_)))
    refine o_mul (by rw [small_of (i := 16807) (by decide) (by decide), Bool.or_true]) ?_
    repeat' (first | fail | (simp only [cnd_de]; refine And.intro (fun hc => ?_) (fun hc => ?_)) | (simp only [cnd_nde]; refine And.intro (fun hc => ?_) (fun hc => ?_)))
    refine o_mul (by rw [small_of (i := 104729) (by decide) (by decide), Bool.true_or]) ?_
    repeat' (first | fail | (simp only [cnd_de]; refine And.intro (fun hc => ?_) (fun hc => ?_)) | (simp only [cnd_nde]; refine And.intro (fun hc => ?_) (fun hc => ?_)))
    refine o_mod (by decide) ?_
    repeat' (first | fail | (simp only [cnd_de]; refine And.intro (fun hc => ?_) (fun hc => ?_)) | (simp only [cnd_nde]; refine And.intro (fun hc => ?_) (fun hc => ?_)))
    refine o_pow (by decide) (by decide) (by decide) ?_
    repeat' (first | fail | (simp only [cnd_de]; refine And.intro (fun hc => ?_) (fun hc => ?_)) | (simp only [cnd_nde]; refine And.intro (fun hc => ?_) (fun hc => ?_)))
    · exact ⟨_, _, ⟨by omega, fm_lo (by decide), fm_hi (by decide)⟩, rfl, rfl⟩
    · refine ⟨_, _, ⟨?_, fm_lo (by decide), fm_hi (by decide)⟩, rfl, rfl⟩
      split <;> omega
theorem s_take (m : Int) (hm : 0 < m) (hm2 : m < 1000000) (hp : PO a s) : satI (Phi TT (n + 1) n_l_take [pl a s, .int m]) (fun d fr c => @Dn ⟨∃ k a' s', PO a' s' ∧ 0 ≤ k ∧ k < m ∧ d = .int k ∧ fr = false ∧ c = pl a' s'⟩) := by
  obtain ⟨h1, h2, h3⟩ := hp
  refine satI_run (body := c_l_take) rfl rfl ?_
  unfold c_l_take pl
  repeat' (first | fail | (simp only [cnd_de]; refine And.intro (fun hc => ?_) (fun hc => ?_)) | (simp only [cnd_nde]; refine And.intro (fun hc => ?_) (fun hc => ?_)))
  · refine o_mod (by omega) ?_
    repeat' (first | fail | (simp only [cnd_de]; refine And.intro (fun hc => ?_) (fun hc => ?_)) | (simp only [cnd_nde]; refine And.intro (fun hc => ?_) (fun hc => ?_)))
    refine o_fdiv (by omega) (by omega) ?_
    repeat' (first | fail | (simp only [cnd_de]; refine And.intro (fun hc => ?_) (fun hc => ?_)) | (simp only [cnd_nde]; refine And.intro (fun hc => ?_) (fun hc => ?_)))
    exact ⟨_, _, _, ⟨fd_lo hm h1, h2, h3⟩, fm_lo hm, fm_hi hm, rfl, rfl, rfl⟩
  · refine o_mul (by rw [small_of (i := s) (by omega) (by omega), Bool.true_or]) ?_
    repeat' (first | fail | (simp only [cnd_de]; refine And.intro (fun hc => ?_) (fun hc => ?_)) | (simp only [cnd_nde]; refine And.intro (fun hc => ?_) (fun hc => ?_)))
    refine o_mod (by decide) ?_
    repeat' (first | fail | (simp only [cnd_de]; refine And.intro (fun hc => ?_) (fun hc => ?_)) | (simp only [cnd_nde]; refine And.intro (fun hc => ?_) (fun hc => ?_)))
    have g1 := fm_lo (i := s * 48271 + 11) (m := 2147483647) (by decide)
    have g2 := fm_hi (i := s * 48271 + 11) (m := 2147483647) (by decide)
    refine o_mul (by rw [small_of (i := (s * 48271 + 11).fmod 2147483647) (by omega) (by omega), Bool.true_or]) ?_
    repeat' (first | fail | (simp only [cnd_de]; refine And.intro (fun hc => ?_) (fun hc => ?_)) | (simp only [cnd_nde]; refine And.intro (fun hc => ?_) (fun hc => ?_)))
    refine o_mod (by decide) ?_
    repeat' (first | fail | (simp only [cnd_de]; refine And.intro (fun hc => ?_) (fun hc => ?_)) | (simp only [cnd_nde]; refine And.intro (fun hc => ?_) (fun hc => ?_)))
    refine o_fdiv (by decide) (by decide) ?_
    repeat' (first | fail | (simp only [cnd_de]; refine And.intro (fun hc => ?_) (fun hc => ?_)) | (simp only [cnd_nde]; refine And.intro (fun hc => ?_) (fun hc => ?_)))
    refine o_mod (by omega) ?_
    repeat' (first | fail | (simp only [cnd_de]; refine And.intro (fun hc => ?_) (fun hc => ?_)) | (simp only [cnd_nde]; refine And.intro (fun hc => ?_) (fun hc => ?_)))
    exact ⟨_, _, _, ⟨h1, g1, g2⟩, fm_lo hm, fm_hi hm, rfl, rfl, rfl⟩
theorem ci_take {m : Int} {i : Nat} {r : Ev} {q : D → Bool → Ev → Prop} {E : XK} (hm : 0 < m) (hm2 : m < 1000000) (hp : PO a s)
    (hq : ∀ k a' s', PO a' s' → 0 ≤ k → k < m → @setK r i (some (.o (pl a' s'))) ⟨q (.int k) false⟩) : @wpCI (Phi TT (n + 1) n_l_take [pl a s, .int m]) i r ⟨q⟩ E :=
  ci_of (s_take m hm hm2 hp) fun d fr c ⟨k, a', s', h1, h2, h3, h4, h5, h6⟩ => by
    subst h4 h5 h6
    exact hq k a' s' h1 h2 h3
end
section
variable {n : Nat} {a s : Int}
theorem s_worths (m : Int) (h0 : 0 ≤ m) (h1 : m < 1000) (hp : PO a s) : satI (Phi TT (n + 2) n_l_worths [pl a s, .int m]) (fun d fr c => @Dn ⟨∃ ws a' s', PO a' s' ∧ ws.length = m.toNat ∧ (∀ w ∈ ws, -2 ≤ w ∧ w ≤ 3) ∧ d = tI ws ∧ fr = false ∧ c = pl a' s'⟩) := by
  refine satI_run (body := c_l_worths) rfl rfl ?_
  unfold c_l_worths pl
  repeat' (first | fail | (simp only [cnd_de]; refine And.intro (fun hc => ?_) (fun hc => ?_)) | (simp only [cnd_nde]; refine And.intro (fun hc => ?_) (fun hc => ?_)))
  refine rng_k h0 (by omega) ?_
  rw [range_map]
  refine lc_pool (encb := .int) (R := fun b x => -2 ≤ x ∧ x ≤ 3) (fun a s => [some (.o (pl a s)), some (.p (.int m)), none]) rfl hp (fun b hx a s hp => ?_) (fun ys a s hp h2 => ?_)
  · try simp only [pl]
    repeat' (first | fail | (simp only [cnd_de]; refine And.intro (fun hc => ?_) (fun hc => ?_)) | (simp only [cnd_nde]; refine And.intro (fun hc => ?_) (fun hc => ?_)))
    refine ci_take (by omega) (by omega) hp fun k a' s' hp h1 h2 => ?_
    repeat' (first | fail | (simp only [cnd_de]; refine And.intro (fun hc => ?_) (fun hc => ?_)) | (simp only [cnd_nde]; refine And.intro (fun hc => ?_) (fun hc => ?_)))
    exact ⟨_, a', s', hp, ⟨by omega, by omega⟩, rfl, rfl⟩
  · repeat' (first | fail | (simp only [cnd_de]; refine And.intro (fun hc => ?_) (fun hc => ?_)) | (simp only [cnd_nde]; refine And.intro (fun hc => ?_) (fun hc => ?_)))
    exact ⟨ys, a, s, hp, by rw [h2.len, List.length_range], fun w hw => (h2.mem w hw).elim fun x hx => hx.2, rfl, rfl, rfl⟩
theorem s_sign (bs : List Bx) (hb : ∀ b ∈ bs, b.lo ≤ b.hi ∧ -100 ≤ b.lo ∧ b.hi ≤ 100) (hn : bs ≠ []) (hl : bs.length ≤ 100) (hp : PO a s) : satI (Phi TT (n + 2) n_l_sign [pl a s, .list (bs.map encB)]) (fun d fr c => @Dn ⟨∃ g a' s', PO a' s' ∧ g.wf bs.length ∧ d = encS g ∧ fr = false ∧ c = pl a' s'⟩) := by
  have hl0 : 0 < bs.length := List.length_pos_iff.mpr hn
  refine satI_run (body := c_l_sign) rfl rfl ?_
  unfold c_l_sign pl
  repeat' (first | fail | (simp only [cnd_de]; refine And.intro (fun hc => ?_) (fun hc => ?_)) | (simp only [cnd_nde]; refine And.intro (fun hc => ?_) (fun hc => ?_)))
  refine ci_take (by rw [List.length_map]; omega) (by rw [List.length_map]; omega) hp fun k a' s' hp h1 h2 => ?_
  rw [List.length_map] at h2
  try simp only [pl]
  repeat' (first | fail | (simp only [cnd_de]; refine And.intro (fun hc => ?_) (fun hc => ?_)) | (simp only [cnd_nde]; refine And.intro (fun hc => ?_) (fun hc => ?_)))
  refine i_encL ⟨h1, h2⟩ fun b _ hx => ?_
  have := hb b hx
  fail
  simp only [encB, sw]
  repeat' (first | fail | (simp only [cnd_de]; refine And.intro (fun hc => ?_) (fun hc => ?_)) | (simp only [cnd_nde]; refine And.intro (fun hc => ?_) (fun hc => ?_)))
  refine ci_take (by omega) (by omega) hp fun k2 a' s' hp h3 h4 => ?_
  try simp only [pl]
  repeat' (first | fail | (simp only [cnd_de]; refine And.intro (fun hc => ?_) (fun hc => ?_)) | (simp only [cnd_nde]; refine And.intro (fun hc => ?_) (fun hc => ?_)))
  refine ci_take (by omega) (by omega) hp fun k3 a' s' hp h5 h6 => ?_
  try simp only [pl]
  repeat' (first | fail | (simp only [cnd_de]; refine And.intro (fun hc => ?_) (fun hc => ?_)) | (simp only [cnd_nde]; refine And.intro (fun hc => ?_) (fun hc => ?_)))
  refine i_encL (l := [SW.least, .most, .is, .isnt]) (enc := fun w => sw w.str) ⟨h5, h6⟩ fun w _ _ => ?_
  repeat' (first | fail | (simp only [cnd_de]; refine And.intro (fun hc => ?_) (fun hc => ?_)) | (simp only [cnd_nde]; refine And.intro (fun hc => ?_) (fun hc => ?_)))
  exact ⟨⟨w, k, b.lo - 1 + k2⟩, a', s', hp, ⟨⟨h1, h2⟩, by show -2000 < b.lo - 1 + k2; omega, by show b.lo - 1 + k2 < 2000; omega⟩, rfl, rfl, rfl⟩
theorem s_picked (xs : List Int) (m : Int) (h0 : 0 ≤ m) (hx : xs.length ≤ 1000) (hp : PO a s) : satI (Phi TT (n + 2) n_l_picked [pl a s, lI xs, .int m]) (fun d fr c => @Dn ⟨∃ got left a' s', PO a' s' ∧ (got ++ left).Perm xs ∧ got.length = min m.toNat xs.length ∧ d = tI got ∧ fr = false ∧ c = pl a' s'⟩) := by
  refine satI_run (body := c_l_picked) rfl rfl ?_
  unfold c_l_picked pl lI
  repeat' (first | fail | (simp only [cnd_de]; refine And.intro (fun hc => ?_) (fun hc => ?_)) | (simp only [cnd_nde]; refine And.intro (fun hc => ?_) (fun hc => ?_)))
  refine rng_k (by split <;> omega) (by rw [List.length_map]; split <;> omega) ?_
  have e : (if ((xs.map PyData.int).length : Int) < m then ((xs.map PyData.int).length : Int) else m).toNat = min m.toNat xs.length := by
    rw [List.length_map]; split <;> omega
  refine lc_ind (fun rest acc r => ∃ left got a s, PO a s ∧ (got ++ left).Perm xs ∧ rest.length + got.length = min m.toNat xs.length ∧ acc = got.map .int ∧ r = [some (.o (pl a s)), some (.p (lI xs)), some (.p (.int m)), some (.o (lI left)), none]) ⟨xs, [], a, s, hp, List.Perm.refl _, ?_, rfl, rfl⟩ (fun x rest acc r h => ?_) (fun acc r h => ?_)
  · rw [range_map, e]; simp
  · obtain ⟨left, got, a, s, hp, h1, h2, rfl, rfl⟩ := h
    have h3 := h1.length_eq
    rw [List.length_append] at h3
    rw [List.length_cons] at h2
    try simp only [pl, lI]
    repeat' (first | fail | (simp only [cnd_de]; refine And.intro (fun hc => ?_) (fun hc => ?_)) | (simp only [cnd_nde]; refine And.intro (fun hc => ?_) (fun hc => ?_)))
    refine ci_take (by rw [List.length_map]; omega) (by rw [List.length_map]; omega) hp fun k a' s' hp h4 h5 => ?_
    rw [List.length_map] at h5
    have hk : k.toNat < left.length := by omega
    try simp only [pl]
    repeat' (first | fail | (simp only [cnd_de]; refine And.intro (fun hc => ?_) (fun hc => ?_)) | (simp only [cnd_nde]; refine And.intro (fun hc => ?_) (fun hc => ?_)))
    refine pop_ (d := .int left[k.toNat]) h4 (by rw [List.getElem?_map, List.getElem?_eq_getElem hk]; rfl) (by omega) ?_
    rw [erase_map]
    repeat' (first | fail | (simp only [cnd_de]; refine And.intro (fun hc => ?_) (fun hc => ?_)) | (simp only [cnd_nde]; refine And.intro (fun hc => ?_) (fun hc => ?_)))
    refine ⟨left.eraseIdx k.toNat, got ++ [left[k.toNat]], a', s', hp, ?_, ?_, by simp, rfl⟩
    · rw [List.append_assoc]
      exact (List.Perm.append_left got (erase_perm (List.getElem?_eq_getElem hk))).trans h1
    · simp only [List.length_append, List.length_cons, List.length_nil]; omega
  · obtain ⟨left, got, a, s, hp, h1, h2, rfl, rfl⟩ := h
    try simp only [pl, lI]
    repeat' (first | fail | (simp only [cnd_de]; refine And.intro (fun hc => ?_) (fun hc => ?_)) | (simp only [cnd_nde]; refine And.intro (fun hc => ?_) (fun hc => ?_)))
    exact ⟨got, left, a, s, hp, h1, by simpa using h2, rfl, rfl, rfl⟩
theorem s_boxesG (most wide : Int) (h0 : 0 < most) (h1 : most ≤ 8) (h2 : 0 < wide) (h3 : wide ≤ 100) (hp : PO a s) : satI (Phi TT (n + 2) n_l_boxes [pl a s, .int most, .int wide]) (fun d fr c => @Dn ⟨∃ bs a' s', PO a' s' ∧ BxG wide bs ∧ bs.length ≤ most.toNat ∧ d = .list (bs.map encB) ∧ fr = false ∧ c = pl a' s'⟩) := by
  refine satI_run (body := c_l_boxes) rfl rfl ?_
  unfold c_l_boxes pl
  repeat' (first | fail | (simp only [cnd_de]; refine And.intro (fun hc => ?_) (fun hc => ?_)) | (simp only [cnd_nde]; refine And.intro (fun hc => ?_) (fun hc => ?_)))
  refine ci_take h0 (by omega) hp fun k a' s' hp h4 h5 => ?_
  try simp only [pl]
  repeat' (first | fail | (simp only [cnd_de]; refine And.intro (fun hc => ?_) (fun hc => ?_)) | (simp only [cnd_nde]; refine And.intro (fun hc => ?_) (fun hc => ?_)))
  rw [cut_to (by omega)]
  refine f_ind (fun rest r => ∃ (bs : List Bx) (more : List String) (a s : Int) (x5 x6 : Option D), PO a s ∧ (∀ b ∈ bs, b.lo ≤ b.hi ∧ -2 ≤ b.lo ∧ b.lo ≤ 7 ∧ b.hi - b.lo < wide) ∧ bs.map (·.nm) ++ more = bnames.take (1 + k).toNat ∧ rest = more.map sw ∧ r = [some (.o (pl a s)), some (.p (.int most)), some (.p (.int wide)), some (.p (.list (bnames.map sw))), some (.o (.list (bs.map encB))), op x5, op x6]) ⟨[], bnames.take (1 + k).toNat, a', s', none, none, hp, by simp, rfl, ?_, rfl⟩ ?_ ?_
  · rw [List.map_take]; rfl
  · rintro x xs r ⟨bs, more, a, s, x5, x6, hp, hb, e1, e2, rfl⟩
    cases more with
    | nil => cases e2
    | cons y more =>
      cases e2
      have hl := congrArg List.length e1
      simp only [List.length_append, List.length_map, List.length_cons, List.length_take] at hl
      have hl8 : bnames.length = 8 := rfl
      simp only [pl, sw]
      repeat' (first | fail | (simp only [cnd_de]; refine And.intro (fun hc => ?_) (fun hc => ?_)) | (simp only [cnd_nde]; refine And.intro (fun hc => ?_) (fun hc => ?_)))
      refine ci_take (by omega) (by omega) hp fun k2 a' s' hp h6 h7 => ?_
      try simp only [pl]
      repeat' (first | fail | (simp only [cnd_de]; refine And.intro (fun hc => ?_) (fun hc => ?_)) | (simp only [cnd_nde]; refine And.intro (fun hc => ?_) (fun hc => ?_)))
      have hk2 : inB [(0 : Int), 0, 1, -1, -2, 7].length k2 := ⟨h6, h7⟩
      refine i_fL (f := [0, 0, 1, -1, -2, 7]) hk2 ?_
      have hm := at_mem hk2
      have hm2 : ∀ x ∈ [(0 : Int), 0, 1, -1, -2, 7], -2 ≤ x ∧ x ≤ 7 := by decide
      have hm3 := hm2 _ hm
      repeat' (first | fail | (simp only [cnd_de]; refine And.intro (fun hc => ?_) (fun hc => ?_)) | (simp only [cnd_nde]; refine And.intro (fun hc => ?_) (fun hc => ?_)))
      refine ci_take h2 (by omega) hp fun k3 a' s' hp h8 h9 => ?_
      try simp only [pl]
      repeat' (first | fail | (simp only [cnd_de]; refine And.intro (fun hc => ?_) (fun hc => ?_)) | (simp only [cnd_nde]; refine And.intro (fun hc => ?_) (fun hc => ?_)))
      refine app_ (by have hL : (4000 : Nat) < line := by decide
                      rw [List.length_map]; omega) ?_
      repeat' (first | fail | (simp only [cnd_de]; refine And.intro (fun hc => ?_) (fun hc => ?_)) | (simp only [cnd_nde]; refine And.intro (fun hc => ?_) (fun hc => ?_)))
      refine ⟨bs ++ [⟨y, at_ [0, 0, 1, -1, -2, 7] k2, at_ [0, 0, 1, -1, -2, 7] k2 + k3⟩], more, a', s', some (sw y), some (.int _), hp, ?_, by rw [← e1]; simp, rfl, by rw [List.map_append]; rfl⟩
      intro b hb2
      rcases List.mem_append.mp hb2 with z | z
      · exact hb b z
      · rw [List.mem_singleton.mp z]
        exact ⟨by simp only []; omega, by simp only []; omega, by simp only []; omega, by simp only []; omega⟩
  · rintro r ⟨bs, more, a, s, x5, x6, hp, hb, e1, e2, rfl⟩
    have : more = [] := by cases more with | nil => rfl | cons _ _ => cases e2
    subst this
    rw [List.append_nil] at e1
    have hl := congrArg List.length e1
    have hl8 : bnames.length = 8 := rfl
    simp only [List.length_map, List.length_take] at hl
    try simp only [pl]
    repeat' (first | fail | (simp only [cnd_de]; refine And.intro (fun hc => ?_) (fun hc => ?_)) | (simp only [cnd_nde]; refine And.intro (fun hc => ?_) (fun hc => ?_)))
    refine ⟨bs, a, s, hp, ⟨?_, by omega, hb, ?_⟩, by omega, rfl, rfl, rfl⟩
    · intro z
      subst z
      simp only [List.length_nil] at hl
      omega
    · rw [e1, hl, hl8]
      congr 1
      omega
end
section
variable {n : Nat} {a s : Int}
theorem s_wish8 (bs : List Bx) (way : Int) (hw0 : 0 ≤ way) (hw8 : way ≤ 8) (hb : ∀ b ∈ bs, b.lo ≤ b.hi ∧ -100 ≤ b.lo ∧ b.hi ≤ 100) (hn : bs ≠ []) (hl : bs.length ≤ 8) (hp : PO a s) : satI (Phi TT (n + 3) n_l_wish [pl a s, .list (bs.map encB), .int way]) (fun d fr c => @Dn ⟨∃ w a' s', PO a' s' ∧ (w.wf bs.length ∧ w.deep = 0) ∧ d = encW w ∧ c = pl a' s' ∧ fr = false⟩) := by
  have hl0 : 0 < bs.length := List.length_pos_iff.mpr hn
  have hline : (4000 : Nat) ≤ line := by decide
  refine satI_run (body := c_l_wish) rfl rfl ?_
  unfold c_l_wish pl
  fail
  rw [List.length_map]
  generalize hnb : bs.length = nb at *
  refine rng_k (by omega) (by omega) ?_
  rw [show rangeD 0 (nb : Int) = (allI nb).map PyData.int from rangeI]
  fail
  refine ci_take (by omega) (by omega) hp fun k a' s' hp h1 h2 => ?_
  try simp only [pl]
  fail
  refine ci_of (s_picked (allI nb) (1 + k) (by omega) (by rw [allI_len]; omega) hp) fun d fr c ⟨got, left, a2, s2, hp2, hg, hg0, e1, e2, e3⟩ => ?_
  subst e1 e2 e3
  rw [allI_len] at hg0
  obtain ⟨hg1, hg2⟩ := got_ok hg
  have hgl : 1 ≤ got.length := by omega
  have hgk : boxesOk nb got := ⟨fun z => by rw [z] at hgl; exact absurd hgl (by decide), hg1, hg2⟩
  have hgn : got.length ≤ nb := by omega
  try simp only [pl, tI]
  fail
  have hway : way = 0 ∨ way = 1 ∨ way = 2 ∨ way = 3 ∨ way = 4 ∨ way = 5 ∨ way = 6 ∨ way = 7 ∨ way = 8 := by omega
  rcases hway with rfl | rfl | rfl | rfl | rfl | rfl | rfl | rfl | rfl
  · repeat' (first | fail | (simp only [cnd_de]; refine And.intro (fun hc => ?_) (fun hc => ?_)) | (simp only [cnd_nde]; refine And.intro (fun hc => ?_) (fun hc => ?_)))
    rw [cut_to (by decide), ← List.map_take]
    refine lc_pool (encb := enc2) (R := fun b p => p.2 = b ∧ p.1 ≠ 0 ∧ -100 ≤ p.1 ∧ p.1 ≤ 100) (fun a s => [some (.o (pl a s)), some (.p (.list (bs.map encB))), some (.p (.int 0)), some (.p (.int nb)), some (.o (lI (allI nb))), some (.p (tI got)), none, none, none, none, none, none, none]) rfl hp2 (fun b hx a s hp => ?_) (fun ys a s hp h2 => ?_)
    · try simp only [pl, lI, tI]
      repeat' (first | fail | (simp only [cnd_de]; refine And.intro (fun hc => ?_) (fun hc => ?_)) | (simp only [cnd_nde]; refine And.intro (fun hc => ?_) (fun hc => ?_)))
      refine ci_take (by decide) (by decide) hp fun k3 a' s' hp h6 h7 => ?_
      try simp only [pl]
      repeat' (first | fail | (simp only [cnd_de]; refine And.intro (fun hc => ?_) (fun hc => ?_)) | (simp only [cnd_nde]; refine And.intro (fun hc => ?_) (fun hc => ?_)))
      have hk : inB [(1 : Int), 2, -1, -3, 5].length k3 := ⟨h6, h7⟩
      refine i_fL (f := [1, 2, -1, -3, 5]) hk ?_
      have hm := at_mem hk
      have hm2 : ∀ x ∈ [(1 : Int), 2, -1, -3, 5], x ≠ 0 ∧ -100 ≤ x ∧ x ≤ 100 := by decide
      repeat' (first | fail | (simp only [cnd_de]; refine And.intro (fun hc => ?_) (fun hc => ?_)) | (simp only [cnd_nde]; refine And.intro (fun hc => ?_) (fun hc => ?_)))
      exact ⟨(_, b), a', s', hp, ⟨rfl, hm2 _ hm⟩, rfl, rfl⟩
    · try simp only [pl, lI, tI]
      repeat' (first | fail | (simp only [cnd_de]; refine And.intro (fun hc => ?_) (fun hc => ?_)) | (simp only [cnd_nde]; refine And.intro (fun hc => ?_) (fun hc => ?_)))
      refine ci_take (by decide) (by decide) hp fun k3 a' s' hp h6 h7 => ?_
      try simp only [pl]
      repeat' (first | fail | (simp only [cnd_de]; refine And.intro (fun hc => ?_) (fun hc => ?_)) | (simp only [cnd_nde]; refine And.intro (fun hc => ?_) (fun hc => ?_)))
      refine i_encL (l := [true, false]) (enc := fun b => sw (lm b)) ⟨h6, h7⟩ fun le _ _ => ?_
      repeat' (first | fail | (simp only [cnd_de]; refine And.intro (fun hc => ?_) (fun hc => ?_)) | (simp only [cnd_nde]; refine And.intro (fun hc => ?_) (fun hc => ?_)))
      refine ci_take (by decide) (by decide) hp fun k4 a' s' hp h8 h9 => ?_
      try simp only [pl]
      repeat' (first | fail | (simp only [cnd_de]; refine And.intro (fun hc => ?_) (fun hc => ?_)) | (simp only [cnd_nde]; refine And.intro (fun hc => ?_) (fun hc => ?_)))
      have hl := h2.len
      rw [List.length_take] at hl
      refine ⟨.sum ys le (k4 - 6), a', s', hp, ⟨⟨by omega, by omega, fun p hp => (h2.mem p hp).elim fun x hx => hx.2.2, ?_, small_of (by omega) (by omega)⟩, rfl⟩, rfl, rfl, rfl⟩
      have e : ys.map (fun p : P2 => p.2) = (got.take (Int.toNat 8)).map (fun x => x) := All2.map (fun x y h => h.1) h2
      rw [List.map_id'] at e
      rw [e]
      refine ⟨fun z => ?_, fun b hb => hg1 b (List.mem_of_mem_take hb), List.Nodup.sublist (List.take_sublist _ _) hg2⟩
      have := congrArg List.length z
      rw [List.length_take, List.length_nil] at this
      omega
  · fail
    refine cnd_dec (fun hc => ?_) (fun hc => ?_)
    · repeat' (first | fail | (simp only [cnd_de]; refine And.intro (fun hc => ?_) (fun hc => ?_)) | (simp only [cnd_nde]; refine And.intro (fun hc => ?_) (fun hc => ?_)))
      rw [cut_to (by decide), ← List.map_take]
      refine lc_pool (encb := enc2) (R := fun b p => p.2 = b ∧ p.1 ≠ 0 ∧ -100 ≤ p.1 ∧ p.1 ≤ 100) (fun a s => [some (.o (pl a s)), some (.p (.list (bs.map encB))), some (.p (.int 1)), some (.p (.int nb)), some (.o (lI (allI nb))), some (.p (tI got)), none, none, none, none, none, none, none]) rfl hp2 (fun b hx a s hp => ?_) (fun ys a s hp h2 => ?_)
      · try simp only [pl, lI, tI]
        repeat' (first | fail | (simp only [cnd_de]; refine And.intro (fun hc => ?_) (fun hc => ?_)) | (simp only [cnd_nde]; refine And.intro (fun hc => ?_) (fun hc => ?_)))
        refine ci_take (by decide) (by decide) hp fun k3 a' s' hp h6 h7 => ?_
        try simp only [pl]
        repeat' (first | fail | (simp only [cnd_de]; refine And.intro (fun hc => ?_) (fun hc => ?_)) | (simp only [cnd_nde]; refine And.intro (fun hc => ?_) (fun hc => ?_)))
        have hk : inB [(1 : Int), 2, -1, -3, 5].length k3 := ⟨h6, h7⟩
        refine i_fL (f := [1, 2, -1, -3, 5]) hk ?_
        have hm := at_mem hk
        have hm2 : ∀ x ∈ [(1 : Int), 2, -1, -3, 5], x ≠ 0 ∧ -100 ≤ x ∧ x ≤ 100 := by decide
        repeat' (first | fail | (simp only [cnd_de]; refine And.intro (fun hc => ?_) (fun hc => ?_)) | (simp only [cnd_nde]; refine And.intro (fun hc => ?_) (fun hc => ?_)))
        exact ⟨(_, b), a', s', hp, ⟨rfl, hm2 _ hm⟩, rfl, rfl⟩
      · try simp only [pl, lI, tI]
        repeat' (first | fail | (simp only [cnd_de]; refine And.intro (fun hc => ?_) (fun hc => ?_)) | (simp only [cnd_nde]; refine And.intro (fun hc => ?_) (fun hc => ?_)))
        refine ci_take (by decide) (by decide) hp fun k3 a' s' hp h6 h7 => ?_
        try simp only [pl]
        repeat' (first | fail | (simp only [cnd_de]; refine And.intro (fun hc => ?_) (fun hc => ?_)) | (simp only [cnd_nde]; refine And.intro (fun hc => ?_) (fun hc => ?_)))
        refine i_encL (l := [true, false]) (enc := fun b => sw (lm b)) ⟨h6, h7⟩ fun le _ _ => ?_
        repeat' (first | fail | (simp only [cnd_de]; refine And.intro (fun hc => ?_) (fun hc => ?_)) | (simp only [cnd_nde]; refine And.intro (fun hc => ?_) (fun hc => ?_)))
        refine ci_take (by decide) (by decide) hp fun k4 a' s' hp h8 h9 => ?_
        try simp only [pl]
        repeat' (first | fail | (simp only [cnd_de]; refine And.intro (fun hc => ?_) (fun hc => ?_)) | (simp only [cnd_nde]; refine And.intro (fun hc => ?_) (fun hc => ?_)))
        have hl := h2.len
        rw [List.length_take] at hl
        refine ⟨.sum ys le (k4 - 6), a', s', hp, ⟨⟨by omega, by omega, fun p hp => (h2.mem p hp).elim fun x hx => hx.2.2, ?_, small_of (by omega) (by omega)⟩, rfl⟩, rfl, rfl, rfl⟩
        have e : ys.map (fun p : P2 => p.2) = (got.take (Int.toNat 8)).map (fun x => x) := All2.map (fun x y h => h.1) h2
        rw [List.map_id'] at e
        rw [e]
        refine ⟨fun z => ?_, fun b hb => hg1 b (List.mem_of_mem_take hb), List.Nodup.sublist (List.take_sublist _ _) hg2⟩
        have := congrArg List.length z
        rw [List.length_take, List.length_nil] at this
        omega
    · repeat' (first | fail | (simp only [cnd_de]; refine And.intro (fun hc => ?_) (fun hc => ?_)) | (simp only [cnd_nde]; refine And.intro (fun hc => ?_) (fun hc => ?_)))
      refine ci_of (s_picked (allI nb) 3 (by omega) (by rw [allI_len]; omega) hp2) fun d fr c ⟨got2, left2, a, s, hp, hq1, hq2, e1, e2, e3⟩ => ?_
      subst e1 e2 e3
      rw [allI_len] at hq2
      obtain ⟨hr1, hr2⟩ := got_ok hq1
      try simp only [pl, lI, tI]
      rcases got2 with _ | ⟨x, _ | ⟨y, _ | ⟨z, _ | ⟨u, got2⟩⟩⟩⟩
      · simp only [List.length_nil] at hq2; omega
      · simp only [List.length_nil, List.length_cons] at hq2; omega
      · simp only [List.length_nil, List.length_cons] at hq2; omega
      · repeat' (first | fail | (simp only [cnd_de]; refine And.intro (fun hc => ?_) (fun hc => ?_)) | (simp only [cnd_nde]; refine And.intro (fun hc => ?_) (fun hc => ?_)))
        refine o_addT (by simp only [List.length_nil, List.length_cons]; omega) ?_
        repeat' (first | fail | (simp only [cnd_de]; refine And.intro (fun hc => ?_) (fun hc => ?_)) | (simp only [cnd_nde]; refine And.intro (fun hc => ?_) (fun hc => ?_)))
        simp only [List.nodup_cons, List.mem_cons, List.not_mem_nil, or_false, not_or] at hr2
        exact ⟨.times x y z, a, s, hp, ⟨⟨hr1 x (by simp), hr1 y (by simp), hr1 z (by simp), fun e => hr2.1.1 e.symm, fun e => hr2.1.2 e.symm, fun e => hr2.2.1 e.symm⟩, rfl⟩, rfl, rfl, rfl⟩
      · simp only [List.length_cons] at hq2; omega
  · repeat' (first | fail | (simp only [cnd_de]; refine And.intro (fun hc => ?_) (fun hc => ?_)) | (simp only [cnd_nde]; refine And.intro (fun hc => ?_) (fun hc => ?_)))
    refine ci_take (by decide) (by decide) hp2 fun k3 a' s' hp h6 h7 => ?_
    try simp only [pl]
    repeat' (first | fail | (simp only [cnd_de]; refine And.intro (fun hc => ?_) (fun hc => ?_)) | (simp only [cnd_nde]; refine And.intro (fun hc => ?_) (fun hc => ?_)))
    refine rng_k h6 (by omega) ?_
    rw [range_map]
    refine lc_pool (encb := tI) (R := fun b w => w.length = got.length ∧ ∀ x ∈ w, smallI x = true) (fun a s => [some (.o (pl a s)), some (.p (.list (bs.map encB))), some (.p (.int 2)), some (.p (.int nb)), some (.o (lI (allI nb))), some (.p (tI got)), none, none, none, none, none, none, none]) rfl hp (fun b hx a s hp => ?_) (fun ys a s hp h2 => ?_)
    · try simp only [pl, lI, tI]
      repeat' (first | fail | (simp only [cnd_de]; refine And.intro (fun hc => ?_) (fun hc => ?_)) | (simp only [cnd_nde]; refine And.intro (fun hc => ?_) (fun hc => ?_)))
      rw [List.length_map]
      refine ci_of (s_worths got.length (by omega) (by omega) hp) fun d fr c ⟨ws, a', s', hp, hh1, hh2, e1, e2, e3⟩ => ?_
      subst e1 e2 e3
      try simp only [pl]
      repeat' (first | fail | (simp only [cnd_de]; refine And.intro (fun hc => ?_) (fun hc => ?_)) | (simp only [cnd_nde]; refine And.intro (fun hc => ?_) (fun hc => ?_)))
      exact ⟨ws, a', s', hp, ⟨by rw [hh1]; omega, fun x hx => by have := hh2 x hx; exact small_of (by omega) (by omega)⟩, rfl, rfl⟩
    · try simp only [pl, lI, tI]
      repeat' (first | fail | (simp only [cnd_de]; refine And.intro (fun hc => ?_) (fun hc => ?_)) | (simp only [cnd_nde]; refine And.intro (fun hc => ?_) (fun hc => ?_)))
      refine ⟨.row got ys, a, s, hp, ⟨⟨hgk, ?_, fun r hr => (h2.mem r hr).elim fun x hx => hx.2⟩, rfl⟩, rfl, rfl, rfl⟩
      have := h2.len
      rw [List.length_range] at this
      omega
  · fail
    refine cnd_dec (fun hc => ?_) (fun hc => ?_)
    · repeat' (first | fail | (simp only [cnd_de]; refine And.intro (fun hc => ?_) (fun hc => ?_)) | (simp only [cnd_nde]; refine And.intro (fun hc => ?_) (fun hc => ?_)))
      rw [cut_to (by decide), ← List.map_take]
      refine lc_pool (encb := enc2) (R := fun b p => p.2 = b ∧ p.1 ≠ 0 ∧ -100 ≤ p.1 ∧ p.1 ≤ 100) (fun a s => [some (.o (pl a s)), some (.p (.list (bs.map encB))), some (.p (.int 3)), some (.p (.int nb)), some (.o (lI (allI nb))), some (.p (tI got)), none, none, none, none, none, none, none]) rfl hp2 (fun b hx a s hp => ?_) (fun ys a s hp h2 => ?_)
      · try simp only [pl, lI, tI]
        repeat' (first | fail | (simp only [cnd_de]; refine And.intro (fun hc => ?_) (fun hc => ?_)) | (simp only [cnd_nde]; refine And.intro (fun hc => ?_) (fun hc => ?_)))
        refine ci_take (by decide) (by decide) hp fun k3 a' s' hp h6 h7 => ?_
        try simp only [pl]
        repeat' (first | fail | (simp only [cnd_de]; refine And.intro (fun hc => ?_) (fun hc => ?_)) | (simp only [cnd_nde]; refine And.intro (fun hc => ?_) (fun hc => ?_)))
        have hk : inB [(1 : Int), 2, -1, -3, 5].length k3 := ⟨h6, h7⟩
        refine i_fL (f := [1, 2, -1, -3, 5]) hk ?_
        have hm := at_mem hk
        have hm2 : ∀ x ∈ [(1 : Int), 2, -1, -3, 5], x ≠ 0 ∧ -100 ≤ x ∧ x ≤ 100 := by decide
        repeat' (first | fail | (simp only [cnd_de]; refine And.intro (fun hc => ?_) (fun hc => ?_)) | (simp only [cnd_nde]; refine And.intro (fun hc => ?_) (fun hc => ?_)))
        exact ⟨(_, b), a', s', hp, ⟨rfl, hm2 _ hm⟩, rfl, rfl⟩
      · try simp only [pl, lI, tI]
        repeat' (first | fail | (simp only [cnd_de]; refine And.intro (fun hc => ?_) (fun hc => ?_)) | (simp only [cnd_nde]; refine And.intro (fun hc => ?_) (fun hc => ?_)))
        refine ci_take (by decide) (by decide) hp fun k3 a' s' hp h6 h7 => ?_
        try simp only [pl]
        repeat' (first | fail | (simp only [cnd_de]; refine And.intro (fun hc => ?_) (fun hc => ?_)) | (simp only [cnd_nde]; refine And.intro (fun hc => ?_) (fun hc => ?_)))
        refine i_encL (l := [true, false]) (enc := fun b => sw (lm b)) ⟨h6, h7⟩ fun le _ _ => ?_
        repeat' (first | fail | (simp only [cnd_de]; refine And.intro (fun hc => ?_) (fun hc => ?_)) | (simp only [cnd_nde]; refine And.intro (fun hc => ?_) (fun hc => ?_)))
        refine ci_take (by decide) (by decide) hp fun k4 a' s' hp h8 h9 => ?_
        try simp only [pl]
        repeat' (first | fail | (simp only [cnd_de]; refine And.intro (fun hc => ?_) (fun hc => ?_)) | (simp only [cnd_nde]; refine And.intro (fun hc => ?_) (fun hc => ?_)))
        have hl := h2.len
        rw [List.length_take] at hl
        refine ⟨.sum ys le (k4 - 6), a', s', hp, ⟨⟨by omega, by omega, fun p hp => (h2.mem p hp).elim fun x hx => hx.2.2, ?_, small_of (by omega) (by omega)⟩, rfl⟩, rfl, rfl, rfl⟩
        have e : ys.map (fun p : P2 => p.2) = (got.take (Int.toNat 8)).map (fun x => x) := All2.map (fun x y h => h.1) h2
        rw [List.map_id'] at e
        rw [e]
        refine ⟨fun z => ?_, fun b hb => hg1 b (List.mem_of_mem_take hb), List.Nodup.sublist (List.take_sublist _ _) hg2⟩
        have := congrArg List.length z
        rw [List.length_take, List.length_nil] at this
        omega
    · repeat' (first | fail | (simp only [cnd_de]; refine And.intro (fun hc => ?_) (fun hc => ?_)) | (simp only [cnd_nde]; refine And.intro (fun hc => ?_) (fun hc => ?_)))
      refine ci_of (s_picked (allI nb) nb (by omega) (by rw [allI_len]; omega) hp2) fun d fr c ⟨got2, left2, a, s, hp, hq1, hq2, e1, e2, e3⟩ => ?_
      subst e1 e2 e3
      rw [allI_len] at hq2
      obtain ⟨hr1, hr2⟩ := got_ok hq1
      try simp only [pl, lI, tI]
      rcases got2 with _ | ⟨x, _ | ⟨y, got2⟩⟩
      · simp only [List.length_nil] at hq2; omega
      · simp only [List.length_nil, List.length_cons] at hq2; omega
      · try simp only [List.map_cons]
        repeat' (first | fail | (simp only [cnd_de]; refine And.intro (fun hc => ?_) (fun hc => ?_)) | (simp only [cnd_nde]; refine And.intro (fun hc => ?_) (fun hc => ?_)))
        simp only [List.length_cons] at hq2
        simp only [List.nodup_cons, List.mem_cons, not_or] at hr2
        refine ⟨.pick got2 x y, a, s, hp, ⟨⟨⟨fun z => ?_, fun b hb => hr1 b (by simp [hb]), hr2.2.2⟩, hr1 x (by simp), hr2.1.2, hr1 y (by simp), hr2.2.1, fun e => hr2.1.1 e.symm⟩, rfl⟩, by simp only [cut_2, List.drop_succ_cons, List.drop_zero]; rfl, rfl, rfl⟩
        rw [z] at hq2
        simp only [List.length_nil] at hq2
        omega
  · repeat' (first | fail | (simp only [cnd_de]; refine And.intro (fun hc => ?_) (fun hc => ?_)) | (simp only [cnd_nde]; refine And.intro (fun hc => ?_) (fun hc => ?_)))
    exact ⟨.unlike got, a2, s2, hp2, ⟨hgk, rfl⟩, rfl, rfl, rfl⟩
  · repeat' (first | fail | (simp only [cnd_de]; refine And.intro (fun hc => ?_) (fun hc => ?_)) | (simp only [cnd_nde]; refine And.intro (fun hc => ?_) (fun hc => ?_)))
    refine rng_k (by decide) (by decide) ?_
    rw [range_map]
    refine lc_pool (encb := enc3) (R := fun b p => 0 ≤ p.1 ∧ p.1 ≤ 20 ∧ 0 ≤ p.2.2 ∧ p.2.2 ≤ 20 ∧ smallI p.2.1 = true) (fun a s => [some (.o (pl a s)), some (.p (.list (bs.map encB))), some (.p (.int 5)), some (.p (.int nb)), some (.o (lI (allI nb))), some (.p (tI got)), none, none, none, none, none, none, none]) rfl hp2 (fun b hx a s hp => ?_) (fun ys a s hp h2 => ?_)
    · try simp only [pl, lI, tI]
      repeat' (first | fail | (simp only [cnd_de]; refine And.intro (fun hc => ?_) (fun hc => ?_)) | (simp only [cnd_nde]; refine And.intro (fun hc => ?_) (fun hc => ?_)))
      refine ci_take (by decide) (by decide) hp fun k3 a' s' hp h6 h7 => ?_
      try simp only [pl]
      repeat' (first | fail | (simp only [cnd_de]; refine And.intro (fun hc => ?_) (fun hc => ?_)) | (simp only [cnd_nde]; refine And.intro (fun hc => ?_) (fun hc => ?_)))
      refine ci_take (by decide) (by decide) hp fun k4 a' s' hp h8 h9 => ?_
      try simp only [pl]
      repeat' (first | fail | (simp only [cnd_de]; refine And.intro (fun hc => ?_) (fun hc => ?_)) | (simp only [cnd_nde]; refine And.intro (fun hc => ?_) (fun hc => ?_)))
      refine ci_take (by decide) (by decide) hp fun k5 a' s' hp h10 h11 => ?_
      try simp only [pl]
      repeat' (first | fail | (simp only [cnd_de]; refine And.intro (fun hc => ?_) (fun hc => ?_)) | (simp only [cnd_nde]; refine And.intro (fun hc => ?_) (fun hc => ?_)))
      exact ⟨(k3, k4 - 2, k5), a', s', hp, ⟨h6, by simp only []; omega, h10, by simp only []; omega, small_of (i := k4 - 2) (by omega) (by omega)⟩, rfl, rfl⟩
    · try simp only [pl, lI, tI]
      repeat' (first | fail | (simp only [cnd_de]; refine And.intro (fun hc => ?_) (fun hc => ?_)) | (simp only [cnd_nde]; refine And.intro (fun hc => ?_) (fun hc => ?_)))
      refine ci_take (by decide) (by decide) hp fun k3 a' s' hp h6 h7 => ?_
      try simp only [pl]
      repeat' (first | fail | (simp only [cnd_de]; refine And.intro (fun hc => ?_) (fun hc => ?_)) | (simp only [cnd_nde]; refine And.intro (fun hc => ?_) (fun hc => ?_)))
      refine ⟨.path got ys [k3, 1], a', s', hp, ⟨⟨hgk, ?_, fun r hr => (h2.mem r hr).elim fun x hx => hx.2, fun e he => ?_, by simp only [List.length_cons, List.length_nil]; omega⟩, rfl⟩, rfl, rfl, rfl⟩
      · have := h2.len
        rw [List.length_range] at this
        rw [this]; decide
      · simp only [List.mem_cons, List.not_mem_nil, or_false] at he
        rcases he with rfl | rfl <;> omega
  · repeat' (first | fail | (simp only [cnd_de]; refine And.intro (fun hc => ?_) (fun hc => ?_)) | (simp only [cnd_nde]; refine And.intro (fun hc => ?_) (fun hc => ?_)))
    refine lc_pool (encb := enc3) (R := fun b p => p.1 = b ∧ 1 ≤ p.2.1 ∧ p.2.1 ≤ 50 ∧ 1 ≤ p.2.2 ∧ p.2.2 ≤ 50) (fun a s => [some (.o (pl a s)), some (.p (.list (bs.map encB))), some (.p (.int 6)), some (.p (.int nb)), some (.o (lI (allI nb))), some (.p (tI got)), none, none, none, none, none, none, none]) rfl hp2 (fun b hx a s hp => ?_) (fun ys a s hp h2 => ?_)
    · try simp only [pl, lI, tI]
      repeat' (first | fail | (simp only [cnd_de]; refine And.intro (fun hc => ?_) (fun hc => ?_)) | (simp only [cnd_nde]; refine And.intro (fun hc => ?_) (fun hc => ?_)))
      refine ci_take (by decide) (by decide) hp fun k3 a' s' hp h6 h7 => ?_
      try simp only [pl]
      repeat' (first | fail | (simp only [cnd_de]; refine And.intro (fun hc => ?_) (fun hc => ?_)) | (simp only [cnd_nde]; refine And.intro (fun hc => ?_) (fun hc => ?_)))
      refine ci_take (by decide) (by decide) hp fun k4 a' s' hp h8 h9 => ?_
      try simp only [pl]
      repeat' (first | fail | (simp only [cnd_de]; refine And.intro (fun hc => ?_) (fun hc => ?_)) | (simp only [cnd_nde]; refine And.intro (fun hc => ?_) (fun hc => ?_)))
      exact ⟨(b, 1 + k3, 1 + k4), a', s', hp, ⟨rfl, by simp only []; omega, by simp only []; omega, by simp only []; omega, by simp only []; omega⟩, rfl, rfl⟩
    · try simp only [pl, lI, tI]
      repeat' (first | fail | (simp only [cnd_de]; refine And.intro (fun hc => ?_) (fun hc => ?_)) | (simp only [cnd_nde]; refine And.intro (fun hc => ?_) (fun hc => ?_)))
      refine ci_take (by decide) (by decide) hp fun k3 a' s' hp h6 h7 => ?_
      try simp only [pl]
      repeat' (first | fail | (simp only [cnd_de]; refine And.intro (fun hc => ?_) (fun hc => ?_)) | (simp only [cnd_nde]; refine And.intro (fun hc => ?_) (fun hc => ?_)))
      have hl2 := h2.len
      refine ⟨.works ys k3, a', s', hp, ⟨⟨by omega, by omega, fun r hr => (h2.mem r hr).elim fun x hx => hx.2.2, ?_, by omega, by omega⟩, rfl⟩, rfl, rfl, rfl⟩
      have e : ys.map (fun p : P3 => p.1) = got.map (fun x => x) := All2.map (fun x y h => h.1) h2
      rw [List.map_id'] at e
      rw [e]
      exact hgk
  · fail
    refine cnd_dec (fun hc => ?_) (fun hc => ?_)
    · repeat' (first | fail | (simp only [cnd_de]; refine And.intro (fun hc => ?_) (fun hc => ?_)) | (simp only [cnd_nde]; refine And.intro (fun hc => ?_) (fun hc => ?_)))
      rw [cut_to (by decide), ← List.map_take]
      refine lc_pool (encb := enc2) (R := fun b p => p.2 = b ∧ p.1 ≠ 0 ∧ -100 ≤ p.1 ∧ p.1 ≤ 100) (fun a s => [some (.o (pl a s)), some (.p (.list (bs.map encB))), some (.p (.int 7)), some (.p (.int nb)), some (.o (lI (allI nb))), some (.p (tI got)), none, none, none, none, none, none, none]) rfl hp2 (fun b hx a s hp => ?_) (fun ys a s hp h2 => ?_)
      · try simp only [pl, lI, tI]
        repeat' (first | fail | (simp only [cnd_de]; refine And.intro (fun hc => ?_) (fun hc => ?_)) | (simp only [cnd_nde]; refine And.intro (fun hc => ?_) (fun hc => ?_)))
        refine ci_take (by decide) (by decide) hp fun k3 a' s' hp h6 h7 => ?_
        try simp only [pl]
        repeat' (first | fail | (simp only [cnd_de]; refine And.intro (fun hc => ?_) (fun hc => ?_)) | (simp only [cnd_nde]; refine And.intro (fun hc => ?_) (fun hc => ?_)))
        have hk : inB [(1 : Int), 2, -1, -3, 5].length k3 := ⟨h6, h7⟩
        refine i_fL (f := [1, 2, -1, -3, 5]) hk ?_
        have hm := at_mem hk
        have hm2 : ∀ x ∈ [(1 : Int), 2, -1, -3, 5], x ≠ 0 ∧ -100 ≤ x ∧ x ≤ 100 := by decide
        repeat' (first | fail | (simp only [cnd_de]; refine And.intro (fun hc => ?_) (fun hc => ?_)) | (simp only [cnd_nde]; refine And.intro (fun hc => ?_) (fun hc => ?_)))
        exact ⟨(_, b), a', s', hp, ⟨rfl, hm2 _ hm⟩, rfl, rfl⟩
      · try simp only [pl, lI, tI]
        repeat' (first | fail | (simp only [cnd_de]; refine And.intro (fun hc => ?_) (fun hc => ?_)) | (simp only [cnd_nde]; refine And.intro (fun hc => ?_) (fun hc => ?_)))
        refine ci_take (by decide) (by decide) hp fun k3 a' s' hp h6 h7 => ?_
        try simp only [pl]
        repeat' (first | fail | (simp only [cnd_de]; refine And.intro (fun hc => ?_) (fun hc => ?_)) | (simp only [cnd_nde]; refine And.intro (fun hc => ?_) (fun hc => ?_)))
        refine i_encL (l := [true, false]) (enc := fun b => sw (lm b)) ⟨h6, h7⟩ fun le _ _ => ?_
        repeat' (first | fail | (simp only [cnd_de]; refine And.intro (fun hc => ?_) (fun hc => ?_)) | (simp only [cnd_nde]; refine And.intro (fun hc => ?_) (fun hc => ?_)))
        refine ci_take (by decide) (by decide) hp fun k4 a' s' hp h8 h9 => ?_
        try simp only [pl]
        repeat' (first | fail | (simp only [cnd_de]; refine And.intro (fun hc => ?_) (fun hc => ?_)) | (simp only [cnd_nde]; refine And.intro (fun hc => ?_) (fun hc => ?_)))
        have hl := h2.len
        rw [List.length_take] at hl
        refine ⟨.sum ys le (k4 - 6), a', s', hp, ⟨⟨by omega, by omega, fun p hp => (h2.mem p hp).elim fun x hx => hx.2.2, ?_, small_of (by omega) (by omega)⟩, rfl⟩, rfl, rfl, rfl⟩
        have e : ys.map (fun p : P2 => p.2) = (got.take (Int.toNat 8)).map (fun x => x) := All2.map (fun x y h => h.1) h2
        rw [List.map_id'] at e
        rw [e]
        refine ⟨fun z => ?_, fun b hb => hg1 b (List.mem_of_mem_take hb), List.Nodup.sublist (List.take_sublist _ _) hg2⟩
        have := congrArg List.length z
        rw [List.length_take, List.length_nil] at this
        omega
    · repeat' (first | fail | (simp only [cnd_de]; refine And.intro (fun hc => ?_) (fun hc => ?_)) | (simp only [cnd_nde]; refine And.intro (fun hc => ?_) (fun hc => ?_)))
      refine ci_of (s_picked (allI nb) nb (by omega) (by rw [allI_len]; omega) hp2) fun d fr c ⟨got2, left2, a, s, hp, hq1, hq2, e1, e2, e3⟩ => ?_
      subst e1 e2 e3
      rw [allI_len] at hq2
      obtain ⟨hr1, hr2⟩ := got_ok hq1
      try simp only [pl, lI, tI]
      rcases got2 with _ | ⟨x, got2⟩
      · simp only [List.length_nil] at hq2; omega
      · try simp only [List.map_cons]
        repeat' (first | fail | (simp only [cnd_de]; refine And.intro (fun hc => ?_) (fun hc => ?_)) | (simp only [cnd_nde]; refine And.intro (fun hc => ?_) (fun hc => ?_)))
        refine ci_take (by decide) (by decide) hp fun k3 a' s' hp h6 h7 => ?_
        try simp only [pl]
        repeat' (first | fail | (simp only [cnd_de]; refine And.intro (fun hc => ?_) (fun hc => ?_)) | (simp only [cnd_nde]; refine And.intro (fun hc => ?_) (fun hc => ?_)))
        refine ci_of (s_worths k3 h6 (by omega) hp) fun d fr c ⟨ws, a', s', hp, hh1, hh2, e1, e2, e3⟩ => ?_
        subst e1 e2 e3
        try simp only [pl]
        repeat' (first | fail | (simp only [cnd_de]; refine And.intro (fun hc => ?_) (fun hc => ?_)) | (simp only [cnd_nde]; refine And.intro (fun hc => ?_) (fun hc => ?_)))
        have hwl := usort_len_le (l := ws)
        refine ssetT (by omega) (by omega) ?_
        repeat' (first | fail | (simp only [cnd_de]; refine And.intro (fun hc => ?_) (fun hc => ?_)) | (simp only [cnd_nde]; refine And.intro (fun hc => ?_) (fun hc => ?_)))
        simp only [List.length_cons] at hq2
        simp only [List.nodup_cons] at hr2
        refine ⟨.many got2 (usort ws) x, a', s', hp, ⟨⟨⟨fun z => ?_, fun b hb => hr1 b (by simp [hb]), hr2.2⟩, usort_nd ws, hr1 x (by simp), hr2.1, fun x hx => by have := hh2 x (mem_usort'.mp hx); exact small_of (by omega) (by omega), by omega⟩, rfl⟩, by simp only [cut_1, List.drop_succ_cons, List.drop_zero]; rfl, rfl, rfl⟩
        rw [z] at hq2
        simp only [List.length_nil] at hq2
        omega
  · repeat' (first | fail | (simp only [cnd_de]; refine And.intro (fun hc => ?_) (fun hc => ?_)) | (simp only [cnd_nde]; refine And.intro (fun hc => ?_) (fun hc => ?_)))
    refine ci_take (by decide) (by decide) hp2 fun k3 a' s' hp h6 h7 => ?_
    try simp only [pl]
    repeat' (first | fail | (simp only [cnd_de]; refine And.intro (fun hc => ?_) (fun hc => ?_)) | (simp only [cnd_nde]; refine And.intro (fun hc => ?_) (fun hc => ?_)))
    refine rng_k h6 (by omega) ?_
    rw [range_map]
    refine lc_pool (encb := encS) (R := fun b g => g.wf nb) (fun a s => [some (.o (pl a s)), some (.p (.list (bs.map encB))), some (.p (.int 8)), some (.p (.int nb)), some (.o (lI (allI nb))), some (.p (tI got)), none, none, none, none, none, none, none]) rfl hp (fun b hx a s hp => ?_) (fun ys a s hp h2 => ?_)
    · try simp only [pl, lI, tI]
      repeat' (first | fail | (simp only [cnd_de]; refine And.intro (fun hc => ?_) (fun hc => ?_)) | (simp only [cnd_nde]; refine And.intro (fun hc => ?_) (fun hc => ?_)))
      refine ci_of (s_sign bs hb hn (by omega) hp) fun d fr c ⟨g, a', s', hp, hh1, e1, e2, e3⟩ => ?_
      subst e1 e2 e3
      try simp only [pl]
      repeat' (first | fail | (simp only [cnd_de]; refine And.intro (fun hc => ?_) (fun hc => ?_)) | (simp only [cnd_nde]; refine And.intro (fun hc => ?_) (fun hc => ?_)))
      exact ⟨g, a', s', hp, by rw [← hnb]; exact hh1, rfl, rfl⟩
    · try simp only [pl, lI, tI]
      repeat' (first | fail | (simp only [cnd_de]; refine And.intro (fun hc => ?_) (fun hc => ?_)) | (simp only [cnd_nde]; refine And.intro (fun hc => ?_) (fun hc => ?_)))
      refine ⟨.some ys, a, s, hp, ⟨⟨?_, fun r hr => (h2.mem r hr).elim fun x hx => hx.2⟩, rfl⟩, rfl, rfl, rfl⟩
      have := h2.len
      rw [List.length_range] at this
      omega
theorem s_wish (bs : List Bx) (way : Int) (hw0 : 0 ≤ way) (hw9 : way ≤ 9) (hb : ∀ b ∈ bs, b.lo ≤ b.hi ∧ -100 ≤ b.lo ∧ b.hi ≤ 100) (hn : bs ≠ []) (hl : bs.length ≤ 8) (hp : PO a s) : satI (Phi TT (n + 4) n_l_wish [pl a s, .list (bs.map encB), .int way]) (fun d fr c => @Dn ⟨∃ w a' s', PO a' s' ∧ w.wf bs.length ∧ d = encW w ∧ c = pl a' s' ∧ fr = false⟩) := by
  by_cases hw : way ≤ 8
  · exact (s_wish8 (n := n + 1) bs way hw0 hw hb hn hl hp).mono fun d fr c ⟨w, a', s', h1, h2, h3, h4, h5⟩ => ⟨w, a', s', h1, h2.1, h3, h4, h5⟩
  have e9 : way = 9 := by omega
  subst e9
  have hl0 : 0 < bs.length := List.length_pos_iff.mpr hn
  have hline : (4000 : Nat) ≤ line := by decide
  refine satI_run (body := c_l_wish) rfl rfl ?_
  unfold c_l_wish pl
  fail
  rw [List.length_map]
  generalize hnb : bs.length = nb at *
  refine rng_k (by omega) (by omega) ?_
  rw [show rangeD 0 (nb : Int) = (allI nb).map PyData.int from rangeI]
  fail
  refine ci_take (by omega) (by omega) hp fun k a' s' hp h1 h2 => ?_
  try simp only [pl]
  fail
  refine ci_of (s_picked (allI nb) (1 + k) (by omega) (by rw [allI_len]; omega) hp) fun d fr c ⟨got, left, a2, s2, hp2, hg, hg0, e1, e2, e3⟩ => ?_
  subst e1 e2 e3
  try simp only [pl, tI]
  repeat' (first | fail | (simp only [cnd_de]; refine And.intro (fun hc => ?_) (fun hc => ?_)) | (simp only [cnd_nde]; refine And.intro (fun hc => ?_) (fun hc => ?_)))
  refine ci_take (by decide) (by decide) hp2 fun k3 a' s' hp h6 h7 => ?_
  try simp only [pl]
  repeat' (first | fail | (simp only [cnd_de]; refine And.intro (fun hc => ?_) (fun hc => ?_)) | (simp only [cnd_nde]; refine And.intro (fun hc => ?_) (fun hc => ?_)))
  refine rng_k (by omega) (by omega) ?_
  rw [range_map]
  refine lc_pool (encb := encS) (R := fun b g => g.wf nb) (fun a s => [some (.o (pl a s)), some (.p (.list (bs.map encB))), some (.p (.int 9)), some (.p (.int nb)), some (.o (lI (allI nb))), some (.p (tI got)), none, none, none, none, none, none, none]) rfl hp (fun b hx a s hp => ?_) (fun ys a s hp h2 => ?_)
  · try simp only [pl, lI, tI]
    repeat' (first | fail | (simp only [cnd_de]; refine And.intro (fun hc => ?_) (fun hc => ?_)) | (simp only [cnd_nde]; refine And.intro (fun hc => ?_) (fun hc => ?_)))
    refine ci_of (s_sign bs hb hn (by omega) hp) fun d fr c ⟨g, a', s', hp, hh1, e1, e2, e3⟩ => ?_
    subst e1 e2 e3
    try simp only [pl]
    repeat' (first | fail | (simp only [cnd_de]; refine And.intro (fun hc => ?_) (fun hc => ?_)) | (simp only [cnd_nde]; refine And.intro (fun hc => ?_) (fun hc => ?_)))
    exact ⟨g, a', s', hp, by rw [← hnb]; exact hh1, rfl, rfl⟩
  · try simp only [pl, lI, tI]
    repeat' (first | fail | (simp only [cnd_de]; refine And.intro (fun hc => ?_) (fun hc => ?_)) | (simp only [cnd_nde]; refine And.intro (fun hc => ?_) (fun hc => ?_)))
    refine ci_take (by decide) (by decide) hp fun k4 a' s' hp h8 h9 => ?_
    try simp only [pl]
    repeat' (first | fail | (simp only [cnd_de]; refine And.intro (fun hc => ?_) (fun hc => ?_)) | (simp only [cnd_nde]; refine And.intro (fun hc => ?_) (fun hc => ?_)))
    refine ci_of (s_wish8 (n := n) bs k4 h8 (by omega) hb hn (by omega) hp) fun d fr c ⟨w, a', s', hp, ⟨hh1, hh2⟩, e1, e2, e3⟩ => ?_
    subst e1 e2 e3
    rw [hnb] at hh1
    have hl2 := h2.len
    rw [List.length_range] at hl2
    have hww : (Wish.iff ys w).wf nb := ⟨by omega, by omega, fun r hr => (h2.mem r hr).elim fun x hx => hx.2, hh1, hh2⟩
    simp only [pl, encW]
    repeat' (first | fail | (simp only [cnd_de]; refine And.intro (fun hc => ?_) (fun hc => ?_)) | (simp only [cnd_nde]; refine And.intro (fun hc => ?_) (fun hc => ?_)))
    exact ⟨.iff ys w, a', s', hp, hww, rfl, rfl, rfl⟩
end
section
variable {nb : Nat} {f : List Int} {n : Nat}
theorem s_moments (ws : List P3) (most : Int) (hf : FOk nb f) (hs1 : ∀ x ∈ f, -1000 ≤ x ∧ x ≤ 1000) (h : (Wish.works ws most).wf nb) (hnb : nb ≤ 24) : Phi TT (n + 1) n_l_moments_fit [tI f, .tuple (ws.map enc3), .int most] = .ok (.bool ((Wish.works ws most).gr f)) false none := by
  refine sat0_eq.mp (sat0_run (body := c_l_moments_fit) rfl rfl ?_)
  unfold c_l_moments_fit
  have hok := Wish.wf_ok hnb h
  obtain ⟨rfl, hs⟩ := hf
  obtain ⟨hw1, hw2, hw3, hw4, hw5, hw6⟩ := h
  have hp0 : ∀ p ∈ ws, 0 ≤ p.2.2 := fun p hp => by have := hw3 p hp; omega
  have hin : ∀ p ∈ ws, inB f.length p.1 := fun p hp => hok p hp
  have hbd : ∀ p ∈ ws, -1000 ≤ at_ f p.1 ∧ at_ f p.1 ≤ 1000 := fun p hp => hs1 _ (at_mem (hin p hp))
  repeat' (first | fail | (simp only [cnd_de]; refine And.intro (fun hc => ?_) (fun hc => ?_)) | (simp only [cnd_nde]; refine And.intro (fun hc => ?_) (fun hc => ?_)))
  refine lc_mapI (enc := enc3) (g := fun p => at_ f p.1) (fun p hp => ?_) ?_
  · simp only [enc3]
    repeat' (first | fail | (simp only [cnd_de]; refine And.intro (fun hc => ?_) (fun hc => ?_)) | (simp only [cnd_nde]; refine And.intro (fun hc => ?_) (fun hc => ?_)))
    refine i_f (hin p hp) ?_
    exact ⟨rfl, rfl⟩
  · obtain ⟨p0, ws', e0⟩ : ∃ p0 ws', ws = p0 :: ws' := by
      cases ws with
      | nil => simp at hw1
      | cons p0 ws' => exact ⟨p0, ws', rfl⟩
    have hm : ws.map (fun p => at_ f p.1) = at_ f p0.1 :: ws'.map fun p => at_ f p.1 := by rw [e0]; rfl
    have hmn := minL_le (a := at_ f p0.1) (l := ws'.map fun p => at_ f p.1)
    have hmx := le_maxL (a := at_ f p0.1) (l := ws'.map fun p => at_ f p.1)
    have hmn2 := minL_mem (a := at_ f p0.1) (l := ws'.map fun p => at_ f p.1)
    have hmx2 := maxL_mem (a := at_ f p0.1) (l := ws'.map fun p => at_ f p.1)
    rw [← hm] at hmn2 hmx2
    have hr1 : -1000 ≤ minL (at_ f p0.1) (ws'.map fun p => at_ f p.1) ∧ minL (at_ f p0.1) (ws'.map fun p => at_ f p.1) ≤ 1000 := by
      obtain ⟨p, hp, e⟩ := List.mem_map.mp hmn2
      have := hbd p hp
      omega
    have hr2 : -1000 ≤ maxL (at_ f p0.1) (ws'.map fun p => at_ f p.1) ∧ maxL (at_ f p0.1) (ws'.map fun p => at_ f p.1) ≤ 1000 := by
      obtain ⟨p, hp, e⟩ := List.mem_map.mp hmx2
      have := hbd p hp
      omega
    have hle : ∀ p ∈ ws, minL (at_ f p0.1) (ws'.map fun p => at_ f p.1) ≤ at_ f p.1 ∧ at_ f p.1 ≤ maxL (at_ f p0.1) (ws'.map fun p => at_ f p.1) := by
      intro p hp
      rw [e0] at hp
      rcases List.mem_cons.mp hp with e | e
      · rw [e]; exact ⟨hmn.1, hmx.1⟩
      · exact ⟨hmn.2 _ (List.mem_map_of_mem (f := fun p : P3 => at_ f p.1) e), hmx.2 _ (List.mem_map_of_mem (f := fun p : P3 => at_ f p.1) e)⟩
    repeat' (first | fail | (simp only [cnd_de]; refine And.intro (fun hc => ?_) (fun hc => ?_)) | (simp only [cnd_nde]; refine And.intro (fun hc => ?_) (fun hc => ?_)))
    rw [hm]
    refine u_minL ?_
    repeat' (first | fail | (simp only [cnd_de]; refine And.intro (fun hc => ?_) (fun hc => ?_)) | (simp only [cnd_nde]; refine And.intro (fun hc => ?_) (fun hc => ?_)))
    refine u_maxL ?_
    repeat' (first | fail | (simp only [cnd_de]; refine And.intro (fun hc => ?_) (fun hc => ?_)) | (simp only [cnd_nde]; refine And.intro (fun hc => ?_) (fun hc => ?_)))
    refine rng_ij (by omega) (by omega) (by omega) (by omega) ?_
    rw [show ∀ m : Int, m + 55 = (m + 54) + 1 from fun m => by omega, rz_eq]
    refine f_ind (fun rest r => ∃ (done more : List Int) (x4 x5 : FS), rz (minL (at_ f p0.1) (ws'.map fun p => at_ f p.1)) (maxL (at_ f p0.1) (ws'.map fun p => at_ f p.1) + 54) = done ++ more ∧ rest = more.map .int ∧ (∀ t ∈ done, going ws f t ≤ most) ∧ r = [some (.p (tI f)), some (.p (.tuple (ws.map enc3))), some (.p (.int most)), some (.p (lI (at_ f p0.1 :: ws'.map fun p => at_ f p.1))), fsl x4, fsl x5, none, none, none]) ⟨[], _, ⟨none, rfl⟩, ⟨none, rfl⟩, rfl, rfl, by simp, rfl⟩ ?_ ?_
    · rintro x xs r ⟨done, more, x4, x5, e1, e2, hd, rfl⟩
      cases more with
      | nil => cases e2
      | cons t more =>
        cases e2
        have hsum : (ws.map fun p => p.2.2 * (if (decide (at_ f p.1 ≤ t) && decide (t < at_ f p.1 + p.2.1)) = true then 1 else 0)).sum = going ws f t := sum_mul
        repeat' (first | fail | (simp only [cnd_de]; refine And.intro (fun hc => ?_) (fun hc => ?_)) | (simp only [cnd_nde]; refine And.intro (fun hc => ?_) (fun hc => ?_)))
        refine lc_mapI (enc := enc3) (g := fun p => p.2.2 * (if (decide (at_ f p.1 ≤ t) && decide (t < at_ f p.1 + p.2.1)) = true then 1 else 0)) (fun p hp => ?_) ?_
        · have h3 := hw3 p hp
          simp only [enc3]
          repeat' (first | fail | (simp only [cnd_de]; refine And.intro (fun hc => ?_) (fun hc => ?_)) | (simp only [cnd_nde]; refine And.intro (fun hc => ?_) (fun hc => ?_)))
          refine i_f (hin p hp) ?_
          repeat' (first | fail | (simp only [cnd_de]; refine And.intro (fun hc => ?_) (fun hc => ?_)) | (simp only [cnd_nde]; refine And.intro (fun hc => ?_) (fun hc => ?_)))
          · refine i_f (hin p hp) ?_
            repeat' (first | fail | (simp only [cnd_de]; refine And.intro (fun hc => ?_) (fun hc => ?_)) | (simp only [cnd_nde]; refine And.intro (fun hc => ?_) (fun hc => ?_)))
            refine o_mul (by rw [small_of (i := p.2.2) (by omega) (by omega), Bool.true_or]) ?_
            exact ⟨by simp [hc], rfl⟩
          · refine o_mul (by rw [small_of (i := p.2.2) (by omega) (by omega), Bool.true_or]) ?_
            exact ⟨by simp [hc], rfl⟩
        · repeat' (first | fail | (simp only [cnd_de]; refine And.intro (fun hc => ?_) (fun hc => ?_)) | (simp only [cnd_nde]; refine And.intro (fun hc => ?_) (fun hc => ?_)))
          · rw [hsum] at hc
            refine ⟨?_, rfl⟩
            have : ws.all (fun p => decide (going ws f (at_ f p.1) ≤ most)) = false := by
              cases hall : ws.all (fun p => decide (going ws f (at_ f p.1) ≤ most)) with
              | false => rfl
              | true =>
                have h7 : going ws f t ≤ most := going_any hp0 hw5 fun p hp => of_decide_eq_true (List.all_eq_true.mp hall p hp)
                omega
            rw [Wish.gr, this]
          · rw [hsum] at hc
            refine ⟨done ++ [t], more, ⟨some (.p (.int t)), rfl⟩, ⟨some (.p (.int _)), rfl⟩, by rw [e1]; simp, rfl, ?_, rfl⟩
            intro u hu
            rcases List.mem_append.mp hu with z | z
            · exact hd u z
            · rw [List.mem_singleton.mp z]; omega
    · rintro r ⟨done, more, x4, x5, e1, e2, hd, rfl⟩
      have : more = [] := by cases more with | nil => rfl | cons _ _ => cases e2
      subst this
      rw [List.append_nil] at e1
      repeat' (first | fail | (simp only [cnd_de]; refine And.intro (fun hc => ?_) (fun hc => ?_)) | (simp only [cnd_nde]; refine And.intro (fun hc => ?_) (fun hc => ?_)))
      refine ⟨?_, rfl⟩
      have : ws.all (fun p => decide (going ws f (at_ f p.1) ≤ most)) = true := by
        rw [List.all_eq_true]
        intro p hp
        refine decide_eq_true (hd _ ?_)
        rw [← e1]
        have := hle p hp
        exact mem_rz.mpr ⟨this.1, by omega⟩
      rw [Wish.gr, this]
end
section
theorem s_law (ns : List Int) (n : Nat) : sat0 (Phi TT (n + 10) n_law [lI ns]) (fun d fr => @Dn ⟨d = .bool true ∧ fr = false⟩) := by
  refine sat0_run (body := c_law) rfl rfl ?_
  unfold c_law
  fail
  refine rng_k (by split <;> split <;> omega) (by split <;> split <;> omega) ?_
  rw [rangeI]
  refine f_ind (fun rest r => ∃ (more : List Int) (x1 x2 x3 x4 x5 x6 x7 x8 x9 x10 x11 x12 : FS), rest = more.map .int ∧ (∀ k ∈ more, 0 ≤ k ∧ k < 100) ∧ r = [some (.p (lI ns)), fsl x1, fsl x2, fsl x3, fsl x4, fsl x5, fsl x6, fsl x7, fsl x8, fsl x9, fsl x10, fsl x11, fsl x12]) ⟨_, ⟨none, rfl⟩, ⟨none, rfl⟩, ⟨none, rfl⟩, ⟨none, rfl⟩, ⟨none, rfl⟩, ⟨none, rfl⟩, ⟨none, rfl⟩, ⟨none, rfl⟩, ⟨none, rfl⟩, ⟨none, rfl⟩, ⟨none, rfl⟩, ⟨none, rfl⟩, rfl, ?_, rfl⟩ ?_ ?_
  · intro k hk
    obtain ⟨i, hi, rfl⟩ := List.mem_map.mp hk
    rw [List.mem_range] at hi
    refine ⟨by omega, ?_⟩
    split at hi <;> split at hi <;> omega
  · rintro x xs r ⟨more, x1, x2, x3, x4, x5, x6, x7, x8, x9, x10, x11, x12, e, hm, rfl⟩
    cases more with
    | nil => cases e
    | cons k more =>
      cases e
      have hk := hm k List.mem_cons_self
      have hm := fun z hz => hm z (List.mem_cons_of_mem _ hz)
      fail
      refine c_of (s_pool ns k hk.1 hk.2) fun d fr ⟨a, s, hp, e1, e2⟩ => ?_
      subst e1 e2
      fail
      refine ci_of (s_boxesG 4 4 (by decide) (by decide) (by decide) (by decide) hp) fun d fr c ⟨bs, a, s, hp, ⟨hb1, hb2, hb3, hb4⟩, hbl, e1, e2, e3⟩ => ?_
      subst e1 e2 e3
      have hbl4 : bs.length ≤ 4 := hbl
      have hbd : ∀ b ∈ bs, b.lo ≤ b.hi ∧ -100 ≤ b.lo ∧ b.hi ≤ 100 := fun b hb => by have := hb3 b hb; omega
      have hbd3 : ∀ b ∈ bs, -1000 ≤ b.lo ∧ b.hi ≤ 1000 := fun b hb => by have := hb3 b hb; omega
      fail
      refine rng_k (by decide) (by decide) ?_
      rw [rangeI]
      refine f_ind (fun rest r => ∃ (ways : List Int) (a s : Int) (x2 x5 x6 x7 x8 x9 : FS), PO a s ∧ rest = ways.map .int ∧ (∀ k ∈ ways, 0 ≤ k ∧ k < 10) ∧ r = [some (.p (lI ns)), some (.p (.int k)), fsl x2, some (.o (pl a s)), some (.p (.list (bs.map encB))), fsl x5, fsl x6, fsl x7, fsl x8, fsl x9, fsl x10, fsl x11, fsl x12]) ⟨_, a, s, x2, x5, x6, x7, x8, x9, hp, rfl, ?_, rfl⟩ ?_ ?_
      · intro k hk
        obtain ⟨i, hi, rfl⟩ := List.mem_map.mp hk
        rw [List.mem_range] at hi
        exact ⟨by omega, by omega⟩
      · rintro x xs r ⟨ways, a, s, x2, x5, x6, x7, x8, x9, hp, e, hw, rfl⟩
        cases ways with
        | nil => cases e
        | cons way ways =>
          cases e
          have hwk := hw way List.mem_cons_self
          have hw := fun z hz => hw z (List.mem_cons_of_mem _ hz)
          fail
          refine ci_of (s_wish bs way hwk.1 (by omega) hbd hb1 hb2 hp) fun d fr c ⟨w, a, s, hp, hwf, e1, e2, e3⟩ => ?_
          subst e1 e2 e3
          have hok := Wish.wf_ok (by omega) hwf
          have hdeep := Wish.wf_deep hwf
          have hrp := rp_W (by omega) hwf
          have hsh := shp_W hdeep
          have hgr : ∀ m f, FOk bs.length f → Phi TT (m + 6) n_grants [encW w, tI f] = .ok (.bool (w.gr f)) false none := fun m f hf => s_grants w _ hf hok (by omega)
          have hlg : ∀ m f, FOk bs.length f → Phi TT (m + 3) n_l_grants [encW w, tI f] = .ok (.bool (w.gr f)) false none := fun m f hf => s_lgrants w _ hf hok (by omega)
          fail
          refine u_repr hrp (by decide) hsh (by decide) ?_
          fail
          refine lc_mapE (enc := encB) (encb := lI) (g := fun b => rz b.lo b.hi) (fun b hb => ?_) ?_
          · have := hbd b hb
            simp only [encB]
            fail
            refine rng_ij (by omega) (by omega) (by omega) (by omega) ?_
            rw [rz_eq]
            exact ⟨rfl, rfl⟩
          · fail
            refine c_of (s_fillings (bs.map fun b => rz b.lo b.hi) 4 (by decide) (fun l hl => ?_) ?_ (by rw [List.length_map]; omega)) fun d fr h => ?_
            · obtain ⟨b, hb, rfl⟩ := List.mem_map.mp hl
              have := hb3 b hb
              rw [rz_len]; omega
            · rw [List.length_map]
              exact Nat.le_trans (Nat.pow_le_pow_right (by decide) hbl4) (by decide)
            · have h2 : d = .list ((prodL (bs.map fun b => rz b.lo b.hi)).map tI) := h
              subst h2
              fail
              refine f_ind (fun rest r => ∃ (fs : List (List Int)) (x8 x9 : FS), rest = fs.map tI ∧ (∀ f ∈ fs, Fill bs f) ∧ r = [some (.p (lI ns)), some (.p (.int k)), fsl x2, some (.o (pl a s)), some (.p (.list (bs.map encB))), some (.p (.int way)), some (.p (encW w)), some (.p (.str (encW w).shown)), fsl x8, fsl x9, fsl x10, fsl x11, fsl x12]) ⟨_, x8, x9, rfl, fun f hf => out_fill hf, rfl⟩ ?_ ?_
              · rintro x xs r ⟨fs, x8, x9, e, hfs, rfl⟩
                cases fs with
                | nil => cases e
                | cons f fs =>
                  cases e
                  have hf := hfs f List.mem_cons_self
                  have hfk := hf.fok hbd3
                  have hfr : ∀ x ∈ f, -1000 ≤ x ∧ x ≤ 1000 := fun x hx => by
                    obtain ⟨b, hb, h3⟩ := All2.mem hf x hx
                    have := hbd b hb
                    omega
                  have hfs := fun z hz => hfs z (List.mem_cons_of_mem _ hz)
                  fail
                  refine call_eq (hlg (n + 6) f hfk) ?_
                  fail
                  refine call_eq (hgr (n + 3) f hfk) ?_
                  fail
                  refine u_repr Rp.bool (by decide) (Shp.bool (k := 0)) (by decide) ?_
                  fail
                  refine u_repr Rp.bool (by decide) (Shp.bool (k := 0)) (by decide) ?_
                  refine c_neS Rp.bool.sh Rp.bool.sh ?_
                  rw [decide_eq_true rfl]
                  fail
                  refine call_eq (hgr (n + 3) f hfk) ?_
                  fail
                  refine u_repr Rp.bool (by decide) (Shp.bool (k := 0)) (by decide) ?_
                  fail
                  refine u_repr Rp.bool (by decide) (Shp.bool (k := 0)) (by decide) ?_
                  refine c_neS Rp.bool.sh Rp.bool.sh ?_
                  rw [decide_eq_true rfl]
                  fail
                  by_cases hwk2 : w.word = "works"
                  · obtain ⟨ws, most, rfl⟩ := word_works hwk2
                    have hmo : ∀ m, Phi TT (m + 1) n_l_moments_fit [tI f, .tuple (ws.map enc3), .int most] = .ok (.bool ((Wish.works ws most).gr f)) false none := fun m => s_moments ws most hfk hfr hwf (by omega)
                    simp only [encW, encR, Wish.word]
                    fail
                    refine call_eq (hmo (n + 8)) ?_
                    fail
                    rw [beq_self_eq_true]
                    fail
                    exact ⟨fs, ⟨some (.p (tI f)), rfl⟩, ⟨some (.p (.bool _)), rfl⟩, rfl, hfs, rfl⟩
                  · unfold encW
                    fail
                    rw [decide_eq_false hwk2]
                    fail
                    exact ⟨fs, ⟨some (.p (tI f)), rfl⟩, ⟨some (.p (.bool _)), rfl⟩, rfl, hfs, rfl⟩
              · rintro r ⟨fs, x8, x9, e, hfs, rfl⟩
                fail
                refine u_repr hrp (by decide) hsh (by decide) ?_
                refine c_neS hrp.sh hrp.sh ?_
                rw [decide_eq_true rfl]
                fail
                exact ⟨ways, a, s, x2, ⟨some (.p (.int way)), rfl⟩, ⟨some (.p (encW w)), rfl⟩, ⟨some (.p (.str (encW w).shown)), rfl⟩, x8, x9, hp, rfl, hw, rfl⟩
      · rintro r ⟨ways, a, s, x2, x5, x6, x7, x8, x9, hp, e, hw, rfl⟩
        fail
        exact ⟨more, ⟨some (.p (.int k)), rfl⟩, x2, ⟨some (.o (pl a s)), rfl⟩, ⟨some (.p (.list (bs.map encB))), rfl⟩, x5, x6, x7, x8, x9, x10, x11, x12, rfl, hm, rfl⟩
  · rintro r ⟨more, x1, x2, x3, x4, x5, x6, x7, x8, x9, x10, x11, x12, e, hm, rfl⟩
    have hg : ∀ w ∈ [Wish.some [], .row [0] [], .path [0] [(0, 0, 1)] []], ∀ m, Phi TT (m + 4) n_grants [encW w, tI [0]] = .ok (.bool false) false none := by
      intro w hw m
      simp only [List.mem_cons, List.not_mem_nil, or_false] at hw
      have hf : FOk 1 [0] := ⟨rfl, by intro x hx; rw [List.mem_singleton.mp hx]; rfl⟩
      have h0 : ∀ b ∈ [(0 : Int)], inB 1 b := by intro b hb; rw [List.mem_singleton.mp hb]; exact ⟨by decide, by decide⟩
      rcases hw with rfl | rfl | rfl
      · exact s_grants (.some []) _ hf (by intro s hs; cases hs) (by simp only [Wish.deep]; omega)
      · exact s_grants (.row [0] []) _ hf h0 (by simp only [Wish.deep]; omega)
      · exact s_grants (.path [0] [(0, 0, 1)] []) _ hf h0 (by simp only [Wish.deep]; omega)
    fail
    refine lc_map (l := [Wish.some [], .row [0] [], .path [0] [(0, 0, 1)] []]) (enc := encW) (g := fun _ => .bool false) (fun w hw => ?_) ?_
    · fail
      refine call_eq (hg w hw (n + 5)) ?_
      exact ⟨rfl, rfl⟩
    · fail
      refine o_mulL (by decide) ?_
      refine c_eqG (by decide +kernel) (by decide +kernel) ?_
      rw [show PyData.eqv (.list (List.map (fun _ => PyData.bool false) [Wish.some [], .row [0] [], .path [0] [(0, 0, 1)] []])) (.list (List.replicate (3 : Int).toNat [PyData.bool false]).flatten) = true by decide +kernel]
      fail
      exact ⟨rfl, rfl⟩
end
end K11
end

set_option Elab.async false
set_option linter.all false
set_option maxRecDepth 100000
set_option maxHeartbeats 0
namespace K11
open PySem PySem.Spec PyProof.Rows L2 TP
theorem b_says : BindOk d_says := fun _ _ _ _ _ _ us hl => match us, hl with | [_, _], _ => rfl
theorem b_holds : BindOk d_holds := fun _ _ _ _ _ _ us hl => match us, hl with | [_, _], _ => rfl
theorem b_are_unlike : BindOk d_are_unlike := fun _ _ _ _ _ _ us hl => match us, hl with | [_], _ => rfl
theorem b_grants_sum : BindOk d_grants_sum := fun _ _ _ _ _ _ us hl => match us, hl with | [_, _], _ => rfl
theorem b_grants_times : BindOk d_grants_times := fun _ _ _ _ _ _ us hl => match us, hl with | [_, _], _ => rfl
theorem b_grants_row : BindOk d_grants_row := fun _ _ _ _ _ _ us hl => match us, hl with | [_, _], _ => rfl
theorem b_grants_pick : BindOk d_grants_pick := fun _ _ _ _ _ _ us hl => match us, hl with | [_, _], _ => rfl
theorem b_grants_unlike : BindOk d_grants_unlike := fun _ _ _ _ _ _ us hl => match us, hl with | [_, _], _ => rfl
theorem b_grants_path : BindOk d_grants_path := fun _ _ _ _ _ _ us hl => match us, hl with | [_, _], _ => rfl
theorem b_grants_works : BindOk d_grants_works := fun _ _ _ _ _ _ us hl => match us, hl with | [_, _], _ => rfl
theorem b_grants_many : BindOk d_grants_many := fun _ _ _ _ _ _ us hl => match us, hl with | [_, _], _ => rfl
theorem b_grants_some : BindOk d_grants_some := fun _ _ _ _ _ _ us hl => match us, hl with | [_, _], _ => rfl
theorem b_grants_if : BindOk d_grants_if := fun _ _ _ _ _ _ us hl => match us, hl with | [_, _], _ => rfl
theorem b_grants : BindOk d_grants := fun _ _ _ _ _ _ us hl => match us, hl with | [_, _], _ => rfl
theorem b_l_pool : BindOk d_l_pool := fun _ _ _ _ _ _ us hl => match us, hl with | [_, _], _ => rfl
theorem b_l_take : BindOk d_l_take := fun _ _ _ _ _ _ us hl => match us, hl with | [_, _], _ => rfl
theorem b_l_boxes : BindOk d_l_boxes := fun _ _ _ _ _ _ us hl => match us, hl with | [_, _, _], _ => rfl
theorem b_l_sign : BindOk d_l_sign := fun _ _ _ _ _ _ us hl => match us, hl with | [_, _], _ => rfl
theorem b_l_picked : BindOk d_l_picked := fun _ _ _ _ _ _ us hl => match us, hl with | [_, _, _], _ => rfl
theorem b_l_worths : BindOk d_l_worths := fun _ _ _ _ _ _ us hl => match us, hl with | [_, _], _ => rfl
theorem b_l_wish : BindOk d_l_wish := fun _ _ _ _ _ _ us hl => match us, hl with | [_, _, _], _ => rfl
theorem b_l_says : BindOk d_l_says := fun _ _ _ _ _ _ us hl => match us, hl with | [_, _], _ => rfl
theorem b_l_path_goes : BindOk d_l_path_goes := fun _ _ _ _ _ _ us hl => match us, hl with | [_, _, _, _], _ => rfl
theorem b_l_works_fit : BindOk d_l_works_fit := fun _ _ _ _ _ _ us hl => match us, hl with | [_, _, _], _ => rfl
theorem b_l_grants : BindOk d_l_grants := fun _ _ _ _ _ _ us hl => match us, hl with | [_, _], _ => rfl
theorem b_l_fillings : BindOk d_l_fillings := fun _ _ _ _ _ _ us hl => match us, hl with | [_], _ => rfl
theorem b_l_moments_fit : BindOk d_l_moments_fit := fun _ _ _ _ _ _ us hl => match us, hl with | [_, _, _], _ => rfl
theorem b_law : BindOk d_law := fun _ _ _ _ _ _ us hl => match us, hl with | [_], _ => rfl
theorem binds : ∀ d ∈ dts, BindOk d := by
  intro d hd
  simp only [dts, List.mem_cons, List.not_mem_nil, or_false] at hd
  rcases hd with rfl | rfl | rfl | rfl | rfl | rfl | rfl | rfl | rfl | rfl | rfl | rfl | rfl | rfl | rfl | rfl | rfl | rfl | rfl | rfl | rfl | rfl | rfl | rfl | rfl | rfl | rfl | rfl
  · exact b_says
  · exact b_holds
  · exact b_are_unlike
  · exact b_grants_sum
  · exact b_grants_times
  · exact b_grants_row
  · exact b_grants_pick
  · exact b_grants_unlike
  · exact b_grants_path
  · exact b_grants_works
  · exact b_grants_many
  · exact b_grants_some
  · exact b_grants_if
  · exact b_grants
  · exact b_l_pool
  · exact b_l_take
  · exact b_l_boxes
  · exact b_l_sign
  · exact b_l_picked
  · exact b_l_worths
  · exact b_l_wish
  · exact b_l_says
  · exact b_l_path_goes
  · exact b_l_works_fit
  · exact b_l_grants
  · exact b_l_fillings
  · exact b_l_moments_fit
  · exact b_law
theorem okAll : (dts.all (dtOk (dts.map DT.ft) gls tbs)) = true := by
  rw [List.all_eq_true]
  intro d hd
  simp only [dts, List.mem_cons, List.not_mem_nil, or_false] at hd
  rcases hd with rfl | rfl | rfl | rfl | rfl | rfl | rfl | rfl | rfl | rfl | rfl | rfl | rfl | rfl | rfl | rfl | rfl | rfl | rfl | rfl | rfl | rfl | rfl | rfl | rfl | rfl | rfl | rfl
  · exact k_says
  · exact k_holds
  · exact k_are_unlike
  · exact k_grants_sum
  · exact k_grants_times
  · exact k_grants_row
  · exact k_grants_pick
  · exact k_grants_unlike
  · exact k_grants_path
  · exact k_grants_works
  · exact k_grants_many
  · exact k_grants_some
  · exact k_grants_if
  · exact k_grants
  · exact k_l_pool
  · exact k_l_take
  · exact k_l_boxes
  · exact k_l_sign
  · exact k_l_picked
  · exact k_l_worths
  · exact k_l_wish
  · exact k_l_says
  · exact k_l_path_goes
  · exact k_l_works_fit
  · exact k_l_grants
  · exact k_l_fillings
  · exact k_l_moments_fit
  · exact k_law
abbrev R : PySem.W.OpenRow := PySem.W.OpenLaw.row PySem.Challenge.rw_reasonedboxes_k11_what_fillings_grant
def fa : List He.Fa := factsOf dts
def fn : List He.DefD := dts.map defD
def tt : List He.Tab := tabsOf tbs
def ex : PySem.W.Frag → Bool := exB dts gls tbs
abbrev hk : PySem.W.Hook := He.hookX 5 fa fn tt [] ex
def ob (s : PySem.W.SharedT) : He.AlX := He.obsX 5 fa fn tt [] ex (HandSHeadRun.getT s)
theorem ob_eq (s : PySem.W.SharedT) : ob s = hk.obs s.abs := He.obsX_eq (HandSHeadRun.getT_eq s)
def loose : List Str := ["says", "holds", "are_unlike", "grants_sum", "grants_times", "grants_row", "grants_pick", "grants_unlike", "grants_path", "grants_works", "grants_many", "grants_some", "grants_if", "GRANTS", "grants", "_law_pool", "_law_take", "_law_boxes", "_law_sign", "_law_picked", "_law_worths", "_law_wish", "_law_says", "_law_path_goes", "_law_works_fit", "_law_grants", "_law_fillings", "_law_moments_fit"]
theorem run (w : World) : HandSHeadRun.RunEq R (PySem.W.view R.prog [31]) hk ob 4000 loose w := by
  refine PySem.W.byRow2 "special-get-raises" (P := fun w => HandSHeadRun.RunEq R (PySem.W.view R.prog [31]) hk ob 4000 loose w) (fun w os => ?_) (fun w os => ?_) w
  · kernel_rfl
  · kernel_rfl
theorem law (ns : List Int) (hl : ns.length ≤ 63) : Phi (dts.map DT.fd) 60 n_law [.list (ns.map .int)] = .ok (.bool true) false none := TQ.sat0_eq.mp (s_law ns 50)
end K11
open PySem PySem.W PySem.Calls PyProof.Rows
theorem PySem.Challenge.cw_reasonedboxes_k11_what_fillings_grant_holds : PySem.Challenge.rw_reasonedboxes_k11_what_fillings_grant.Holds := by
  w_on; o_law
  refine HandSHeadRun.head_any (r := OpenLaw.row PySem.Challenge.rw_reasonedboxes_k11_what_fillings_grant) (q := view (OpenLaw.row PySem.Challenge.rw_reasonedboxes_k11_what_fillings_grant).prog [31]) (H := K11.hk) (ob := K11.ob) (M := 4000) (loose := K11.loose) (d := HandSHeadRun.topDef (OpenLaw.row PySem.Challenge.rw_reasonedboxes_k11_what_fillings_grant).prog 31) (kwd := []) K11.ob_eq
    (by kernel_rfl) (fun s => by kernel_rfl) K11.run (by kernel_rfl) (by kernel_rfl) (by kernel_rfl) (by rfl) (by first | assumption | decide +kernel) (by decide +kernel) ⟨rfl, rfl, rfl, rfl, rfl, by decide +kernel⟩ ?hw ?hc
  case hw => w_witness2
  case hc =>
    refine TP.walkG (l := PySem.Challenge.rw_reasonedboxes_k11_what_fillings_grant) (n := 63) (k := 60) (x := "_law_script") rfl (by decide) (by kernel_rfl) ⟨rfl, by decide, by decide⟩ ?F
    intro w mg fa h Y G hmg0
    obtain ⟨K, KX, c⟩ := Y
    have hmg : mg ("law" : PySem.Str) = some (.ref fa) := by
      have e : (HandSHeadRun.topDef (OpenLaw.row PySem.Challenge.rw_reasonedboxes_k11_what_fillings_grant).prog 31).name = ("law" : PySem.Str) := by kernel_rfl
      rw [← e]
      exact hmg0
    obtain ⟨fd, sp, h1, h2, h3⟩ := TP.end_of (P := (PySem.Challenge.rw_reasonedboxes_k11_what_fillings_grant).prog) (w := w) (d := K11.d_law) (f := K11.n_law) (x := "_law_script") (m := 63) (k := 60) KX G c K11.binds K11.okAll rfl rfl rfl rfl hmg K11.law
    exact ⟨K, fd, sp, KX, h1, h2, h3⟩
