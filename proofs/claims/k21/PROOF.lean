import PyProof.Rows.All
import Wide.All
import OpenK.AllK
import Wide.FinOn
import PySem.Challenge.RW_sparsegraphs_k21_text
import KE.SortData
import HandS.ForMost
import HandS.Exc
import HandS.TupAny
import HandS.TupMul
import HandS.Style
import HandS.Deep
import HandS.IsInst
import HandS.SetFor
import HandS.Zip
import HandS.Walk
import HandS.Flow
import HandS.WordsExc
import KE.DatumOrd
import KE.DataMinMax
import KE.KRevSl
import HandS.Iter
import KE.GoesMore
import KE.GoesEnum
import PyProof.EnumMake
import HandS.Conv
import HandS.Set
import HandS.Strs
import HandS.FStr
import HandS.Replace
import HandS.ExcIs
import HandS.ExcInit
import HandS.ExcField
import HandS.TryMany
import PyProof.StrLaws
import HandS.Text
set_option Elab.async false
set_option linter.all false
set_option maxRecDepth 100000
set_option maxHeartbeats 4000000
set_option maxHeartbeats 4000000
/-! The small language: what a def's body means over plain data. -/
namespace Ip
open PySem

abbrev D := PyData
/-- a result: a value, an exception of the class with that number, or nothing known -/
inductive Rs (α : Type) where
  | ok (a : α) | ex (c : Nat) | bad
def Rs.bind {α β : Type} (x : Rs α) (f : α → Rs β) : Rs β := match x with
  | .ok a => f a
  | .ex c => .ex c
  | .bad => .bad
@[simp] theorem Rs.bind_ok {α β : Type} (a : α) (f : α → Rs β) : (Rs.ok a).bind f = f a := rfl
@[simp] theorem Rs.bind_ex {α β : Type} (c : Nat) (f : α → Rs β) : (Rs.ex c : Rs α).bind f = .ex c := rfl
@[simp] theorem Rs.bind_bad {α β : Type} (f : α → Rs β) : (Rs.bad : Rs α).bind f = .bad := rfl

inductive Bop where | add | sub | mul | fdiv | mod | pow
  deriving DecidableEq
inductive Cop where | eq | ne | lt | le | gt | ge | isN | notN | inn | nin
  deriving DecidableEq
inductive Ty where | int | bool | tup | lst | str
  deriving DecidableEq
inductive Bl where | len | int1 | min2 | max2 | minS | maxS | sum | tuple | list | sorted | sortedSet | lenSet | str1 | strI | listRange | tupRange
  deriving DecidableEq
inductive Mt where | count | join | split | index | get
  deriving DecidableEq
inductive Tg where
  | nm (i : Nat) | t2 (a b : Tg) | t3 (a b c : Tg)
inductive E where
  | var (i : Nat) | k (d : D) | nil | cons (a b : E) | mkT (a : E) | mkL (a : E)
  | bin (o : Bop) (a b : E) | neg (a : E) | not (a : E) | and (a b : E) | or (a b : E) | ife (c a b : E)
  | cmp (o : Cop) (a b : E) | chain (o p : Cop) (a b c : E)
  | idx (a b : E) | noP | slc (a lo hi : E) | rev (a : E)
  | call (f : Nat) (a : E) | isi (t : Ty) (a : E) | bl (b : Bl) (a : E) | mt (m : Mt) (o a : E)
  | comp (elt : E) (tg : Tg) (src cond : E) (own : List Nat) | din (neg : Bool) (a : E) (i : Nat) | dget (i : Nat) (a : E) | dgetN (i : Nat) (a : E)
  | jn (sep : Str) (a : E) | fcat (a b : E) | spl (a : E) (sep : Str) | sidx (c : Str) (a : E)
  | rng1 (a : E) | rng2 (a b : E) | enum (a : E) | zip (a b : E) | bl1 (b : Bl) (a : E) | rngN (a b : E) | bad

/-- what a slot holds: data that nothing changes, a list of one's own, a dict of one's own (some j: the j-th that the caller lent) -/
inductive Sl where
  | v (d : D) | l (b : Option Nat) (ds : List D) | m (b : Option Nat) (kvs : List (Int × D))
abbrev Ga := List (Option Sl)
/-- lent by the caller -/
def lent : Option (Option Sl) → Bool
  | some (some (.l (some _) _)) => true
  | some (some (.m (some _) _)) => true
  | _ => false

def lim : Nat := 100000
def truth : D → Rs Bool
  | .none => .ok false
  | .bool b => .ok b
  | .int i => .ok (i != 0)
  | .str s => if s.length ≤ lim then .ok ((s.length : Int) != 0) else .bad
  | .list xs => .ok (!xs.isEmpty)
  | .tuple xs => .ok (!xs.isEmpty)
  | .dict _ => .bad
def okMul (i j : Int) : Bool := (decide (-(2 ^ 64) < i) && decide (i < 2 ^ 64)) || (decide (-(2 ^ 64) < j) && decide (j < 2 ^ 64))
def binD : Bop → D → D → Rs D
  | .add, .int i, .int j => .ok (.int (i + j))
  | .add, .list xs, .list ys => if xs.length + ys.length ≤ lim then .ok (.list (xs ++ ys)) else .bad
  | .add, .tuple xs, .tuple ys => if xs.length + ys.length ≤ lim then .ok (.tuple (xs ++ ys)) else .bad
  | .add, .str x, .str y => if x.length + y.length ≤ lim then .ok (.str (x ++ y)) else .bad
  | .sub, .int i, .int j => .ok (.int (i - j))
  | .mul, .int i, .int j => if okMul i j then .ok (.int (i * j)) else .bad
  | .mul, .list xs, .int j => if decide (j ≤ 1000) && decide (-1000 ≤ j) && decide (xs.length * j.toNat ≤ lim) then .ok (.list (List.replicate j.toNat xs).flatten) else .bad
  | .mul, .tuple xs, .int j => if decide (-1000 ≤ j) && decide (j ≤ 1000) && decide (xs.length ≤ 100) then .ok (.tuple (List.replicate j.toNat xs).flatten) else .bad
  | .fdiv, .int i, .int j => if decide (0 < j) && decide (j < 1073741824) then .ok (.int (i / j)) else .bad
  | .mod, .int i, .int j => if 0 < j then .ok (.int (i % j)) else .bad
  | .pow, .int i, .int j => if decide (0 ≤ j) && decide (j ≤ 1000) && decide (i.natAbs < 2 ^ 64) then .ok (.int (i ^ j.toNat)) else .bad
  | _, _, _ => .bad
def flatD : D → Bool
  | .none => true
  | .bool _ => true
  | .int _ => true
  | .str _ => true
  | _ => false
def inD (x : D) : D → Rs Bool
  | .list ys => if SeqAt.shaped x && SeqAt.shaped (.list ys) then .ok (ys.any fun y => PyData.eqv y x) else .bad
  | .tuple ys => if flatD x && ys.all flatD then .ok (ys.any fun y => PyData.eqv y x) else .bad
  | .str z => match x with
    | .str y => .ok (!(Builtin.Str.occurrences z y 0 z.length 1).isEmpty)
    | _ => .bad
  | _ => .bad
def cmpD : Cop → D → D → Rs Bool
  | .eq, a, b => if SeqAt.shaped a && SeqAt.shaped b then .ok (PyData.eqv a b) else .bad
  | .ne, a, b => if SeqAt.shaped a && SeqAt.shaped b then .ok (!PyData.eqv a b) else .bad
  | .lt, .int i, .int j => .ok (decide (i < j))
  | .le, .int i, .int j => .ok (decide (i ≤ j))
  | .gt, .int i, .int j => .ok (decide (j < i))
  | .ge, .int i, .int j => .ok (decide (j ≤ i))
  | .isN, .none, .none => .ok true
  | .isN, _, .none => .ok false
  | .notN, .none, .none => .ok false
  | .notN, _, .none => .ok true
  | .inn, x, d => inD x d
  | .nin, x, d => (inD x d).bind fun b => .ok (!b)
  | _, _, _ => .bad
def idxD : D → D → Rs D
  | .dict [(.list xs, .none)], .int i => match L2.atI xs i with | some d => .ok d | none => .bad
  | .list xs, .int i => match L2.atI xs i with | some d => .ok d | none => .bad
  | .tuple xs, .int i => match L2.atI xs i with | some d => .ok d | none => .bad
  | _, _ => .bad
def cutL {α : Type} (xs : List α) (lo hi : Option Int) : List α := (xs.drop (HT.sIx xs.length 0 lo)).take (HT.sIx xs.length xs.length hi - HT.sIx xs.length 0 lo)
def slcD : D → Option Int → Option Int → Rs D
  | .list xs, lo, hi => .ok (.list (cutL xs lo hi))
  | .tuple xs, lo, hi => .ok (.tuple (cutL xs lo hi))
  | .str s, lo, hi => if s.length ≤ lim then .ok (.str (L2.cutS s lo hi)) else .bad
  | _, _, _ => .bad
def revD : D → Rs D
  | .list xs => .ok (.list xs.reverse)
  | .tuple xs => .ok (.tuple xs.reverse)
  | _ => .bad
def isiD : Ty → D → Bool
  | .int, .int _ => true
  | .int, .bool _ => true
  | .bool, .bool _ => true
  | .tup, .tuple _ => true
  | .lst, .list _ => true
  | .str, .str _ => true
  | _, _ => false
def isiR (t : Ty) : D → Rs D
  | .dict _ => .bad
  | d => .ok (.bool (isiD t d))
def intsOf : List D → Option (List Int)
  | [] => some []
  | .int i :: r => (intsOf r).map (i :: ·)
  | _ => none
def rngL (lo hi : Int) : List D := (List.range (hi - lo).toNat).map fun i => .int (lo + (i : Nat))
/-- the items of a list or tuple -/
def items : D → Option (List D)
  | .list xs => some xs
  | .tuple xs => some xs
  | _ => none
def alikes (ds : List D) : Bool := ds.all fun d => ds.all fun e => PySem.W.alike d e
def isTup1 : D → Bool
  | .tuple (_ :: _) => true
  | _ => false
def notTup : D → Bool
  | .none => false
  | .tuple _ => false
  | _ => true
def sortOk (ds : List D) : Bool := alikes ds && (ds.all isTup1 || ds.all notTup) && decide (ds.length ≤ lim) && SeqAt.shaped (.list ds)
def srt (ds : List D) : List D := ds.mergeSort (PySem.W.dataLe false id)
/-- the members, rising -/
def insU (x : Int) : List Int → List Int
  | [] => [x]
  | y :: r => if x < y then x :: y :: r else if x = y then y :: r else y :: insU x r
def sortU (ns : List Int) : List Int := ns.foldr insU []
def lenF : List D → Rs D
  | [.dict [(.list xs, .none)]] => .ok (.int xs.length)
  | [.list xs] => .ok (.int xs.length)
  | [.tuple xs] => .ok (.int xs.length)
  | [.str s] => if s.length ≤ lim then .ok (.int s.length) else .bad
  | _ => .bad
def int1F : List D → Rs D
  | [.int i] => .ok (.int i)
  | [.bool b] => .ok (.int (if b then 1 else 0))
  | _ => .bad
def min2F : List D → Rs D
  | [.int i, .int j] => .ok (.int (if j < i then j else i))
  | _ => .bad
def max2F : List D → Rs D
  | [.int i, .int j] => .ok (.int (if j > i then j else i))
  | _ => .bad
def sumF : List D → Rs D
  | [.list xs] => match intsOf xs with
    | some ns => .ok (.int ns.sum)
    | none => .bad
  | _ => .bad
def tupleF : List D → Rs D
  | [.list xs] => .ok (.tuple xs)
  | [.tuple xs] => .ok (.tuple xs)
  | _ => .bad
def listF : List D → Rs D
  | [.list xs] => .ok (.list xs)
  | [.tuple xs] => .ok (.list xs)
  | _ => .bad
def sortF : List D → Rs D
  | [.list xs] => if sortOk xs then .ok (.list (srt xs)) else .bad
  | _ => .bad
/-- min, max of one list or tuple -/
def minSF : List D → Rs D
  | [d] => match items d with
    | some xs => (match intsOf xs with
      | some (n :: ns) => .ok (.int (ns.foldl min n))
      | _ => .bad)
    | none => .bad
  | _ => .bad
def maxSF : List D → Rs D
  | [d] => match items d with
    | some xs => (match intsOf xs with
      | some (n :: ns) => .ok (.int (ns.foldl max n))
      | _ => .bad)
    | none => .bad
  | _ => .bad
def trngF : List D → Rs D
  | [.int n] => if decide (-1000000 ≤ n) && decide (n ≤ 1000000) then .ok (.tuple (rngL 0 n)) else .bad
  | _ => .bad
/-- list(range(n)), sorted(set(a)), len(set(a)) -/
def lrngF : List D → Rs D
  | [.int n] => if decide (-1000000 ≤ n) && decide (n ≤ 1000000) then .ok (.list (rngL 0 n)) else .bad
  | _ => .bad
def ssetF : List D → Rs D
  | [.list xs] => match intsOf xs with
    | some ns => if ns.length < 60 then .ok (.list ((sortU ns).map .int)) else .bad
    | none => .bad
  | [.tuple xs] => match intsOf xs with
    | some ns => if ns.length < 60 then .ok (.list ((sortU ns).map .int)) else .bad
    | none => .bad
  | _ => .bad
def lsetF : List D → Rs D
  | [.list xs] => match intsOf xs with
    | some ns => if ns.length < 4000 then .ok (.int (sortU ns).length) else .bad
    | none => .bad
  | _ => .bad
/-- str(x): of a whole number; of more, where no text is being made further out -/
def strIF : List D → Rs D
  | [.int i] => if i.natAbs < 2 ^ 64 then .ok (.str (toString i)) else .bad
  | _ => .bad
def shwOk (d : D) : Bool := SeqAt.shaped d && (d.showable && (!d.hasDict && decide (d.shown.length ≤ 1000)))
def showF : List D → Rs D
  | [.none] => .ok (.str "None")
  | [.int i] => if i.natAbs < 2 ^ 64 then .ok (.str (toString i)) else .bad
  | [.list xs] => if shwOk (.list xs) then .ok (.str (PyData.shown (.list xs))) else .bad
  | [.tuple xs] => if shwOk (.tuple xs) then .ok (.str (PyData.shown (.tuple xs))) else .bad
  | _ => .bad
def blD : Bl → List D → Rs D
  | .len => lenF
  | .int1 => int1F
  | .min2 => min2F
  | .max2 => max2F
  | .sum => sumF
  | .tuple => tupleF
  | .list => listF
  | .sorted => sortF
  | .listRange => lrngF
  | .tupRange => trngF
  | .minS => minSF
  | .maxS => maxSF
  | .sortedSet => ssetF
  | .lenSet => lsetF
  | .strI => strIF
  | .str1 => showF
def mtD : Mt → D → List D → Rs D
  | .count, .list xs, [.int k] => match intsOf xs with
    | some ns => .ok (.int (ns.count k))
    | none => .bad
  | .index, .list xs, [.int k] => match intsOf xs with
    | some ns => if ns.contains k then .ok (.int (ns.idxOf k : Nat)) else .bad
    | none => .bad
  | _, _, _ => .bad

/-! texts -/
def strsOf : List D → Option (List Str)
  | [] => some []
  | .str s :: r => (strsOf r).map (s :: ·)
  | _ => none
def joinD (sep : Str) : D → Rs D
  | .list xs => match strsOf xs with
    | some ys => if (ys.map (·.length)).sum + ys.length * sep.length ≤ lim then .ok (.str (Txt.join sep ys)) else .bad
    | none => .bad
  | _ => .bad
def fmtD : D → Rs Str
  | .str y => if y.length ≤ lim then .ok y else .bad
  | .int i => if i.natAbs < 2 ^ 64 then .ok (toString i) else .bad
  | _ => .bad
def catD (y : Str) : D → Rs D
  | .str z => if y.length + z.length ≤ lim then .ok (.str (y ++ z)) else .bad
  | _ => .bad
/-- no exception passes -/
def noEx (r : Rs D) (k : D → Rs D) : Rs D := match r with
  | .ok d => k d
  | _ => .bad
def splD (sep : Str) : D → Rs D
  | .str s => if (sep.length == 0) = false ∧ s.length + 2 ≤ lim then .ok (.list ((Txt.split s sep).map .str)) else .bad
  | _ => .bad
def sidxD (c : Str) : D → Rs D
  | .str t => match Builtin.Str.occurrences c t 0 c.length 1 with
    | i :: _ => .ok (.int (i : Nat))
    | [] => .bad
  | _ => .bad
def bindT : Tg → D → Ga → Option Ga
  | .nm i, d, g => if i < g.length && !lent g[i]? then some (g.set i (some (.v d))) else none
  | .t2 a b, .tuple [x, y], g => (bindT a x g).bind fun g => bindT b y g
  | .t3 a b c, .tuple [x, y, z], g => (bindT a x g).bind fun g => (bindT b y g).bind fun g => bindT c z g
  | _, _, _ => none
def wipeG (g : Ga) : List Nat → Ga
  | [] => g
  | v :: vs => (wipeG g vs).set v none
def compL (f : D → Rs (Option D)) : List D → Rs (List D)
  | [] => .ok []
  | x :: r => match f x with
    | .ok o => (compL f r).bind fun ys => .ok (match o with | some y => y :: ys | none => ys)
    | _ => .bad
abbrev Fn := Nat → List D → Rs D
def part : E → Rs D → Rs (Option Int)
  | .noP, _ => .ok none
  | _, .ok (.int i) => .ok (some i)
  | _, .ex c => .ex c
  | _, _ => .bad
def slotD : Option (Option Sl) → Rs D
  | some (some (.v d)) => .ok d
  | _ => .bad
/-- what an expression means: as a value, read (a list of one's own may stand there), as a test, walked -/
structure Me where
  v : Ga → Rs D
  r : Ga → Rs D
  t : Ga → Rs Bool
  s : Ga → Rs (List D)
def walkD (x : D) : Rs (List D) := match items x with
  | some xs => .ok xs
  | none => .bad
def me0 (v : Ga → Rs D) : Me := ⟨v, v, fun g => (v g).bind truth, fun g => (v g).bind walkD⟩
def badM : Me := ⟨fun _ => .bad, fun _ => .bad, fun _ => .bad, fun _ => .bad⟩
def meS (s : Ga → Rs (List D)) : Me := ⟨fun _ => .bad, fun _ => .bad, fun _ => .bad, s⟩
def consD (x : D) : D → Rs D
  | .tuple r => .ok (.tuple (x :: r))
  | _ => .bad
def toL : D → Rs D
  | .tuple r => .ok (.list r)
  | _ => .bad
def negD : D → Rs D
  | .int i => .ok (.int (-i))
  | _ => .bad
def andD (x : D) (b : Rs D) : Rs D := match x with
  | .bool true => b
  | .bool false => .ok (.bool false)
  | _ => .bad
def orD (x : D) (b : Rs D) : Rs D := match x with
  | .bool true => .ok (.bool true)
  | .bool false => b
  | _ => .bad
def readD : Option (Option Sl) → Rs D
  | some (some (.v d)) => .ok d
  | some (some (.l _ ds)) => .ok (.list ds)
  | _ => .bad
def argsD (f : List D → Rs D) : D → Rs D
  | .tuple ds => f ds
  | _ => .bad
def rng1D : D → Rs (List D)
  | .int n => if decide (-1000000 ≤ n) && decide (n ≤ 1000000) then .ok (rngL 0 n) else .bad
  | _ => .bad
/-- range(m, n, -1) -/
def rngND : D → D → Rs (List D)
  | .int m, .int n => if decide (-1000000 ≤ m) && decide (m ≤ 1000000) && decide (-1000000 ≤ n) && decide (n ≤ 1000000) then .ok ((List.range (m - n).toNat).map fun i => .int (m - (i : Nat))) else .bad
  | _, _ => .bad
def rng2D : D → D → Rs (List D)
  | .int m, .int n => if decide (-1000000 ≤ m) && decide (m ≤ 1000000) && decide (-1000000 ≤ n) && decide (n ≤ 1000000) then .ok (rngL m n) else .bad
  | _, _ => .bad
def enumL (xs : List D) : List D := ((List.range xs.length).zip xs).map fun p => .tuple [.int (p.1 : Nat), p.2]
def zipL (xs ys : List D) : List D := (xs.zip ys).map fun p => .tuple [p.1, p.2]
def enumD : D → Rs (List D)
  | .list xs => .ok (enumL xs)
  | .tuple xs => .ok (enumL xs)
  | _ => .bad
def zipD : D → D → Rs (List D)
  | .list xs, .list ys => .ok (zipL xs ys)
  | .tuple xs, .tuple ys => .ok (zipL xs ys)
  | .tuple xs, .list ys => .ok (zipL xs ys)
  | _, _ => .bad
def boolD (b : Bool) : Rs D := .ok (.bool b)
def dLook (k : Int) (kvs : List (Int × D)) : Option D := kvs.lookup k
def dinD (neg : Bool) : D → Option (Option Sl) → Rs D
  | .int k, some (some (.m _ kvs)) => .ok (.bool (if neg then !(dLook k kvs).isSome else (dLook k kvs).isSome))
  | _, _ => .bad
def dgetD : Option (Option Sl) → D → Rs D
  | some (some (.m _ kvs)), .int k => match dLook k kvs with
    | some d => .ok d
    | none => .bad
  | _, _ => .bad
def dgetND : Option (Option Sl) → D → Rs D
  | some (some (.m _ kvs)), .int k => match dLook k kvs with
    | some d => .ok d
    | none => .ok .none
  | _, _ => .bad
def dPut (k : Int) (d : D) : List (Int × D) → List (Int × D)
  | [] => [(k, d)]
  | (j, e) :: r => if j = k then (k, d) :: r else (j, e) :: dPut k d r
def isLD : D → Rs Unit
  | .list _ => .ok ()
  | _ => .bad
def run (F : Fn) : E → Me
  | .var i => { me0 (fun g => slotD g[i]?) with r := fun g => readD g[i]?, t := fun g => (readD g[i]?).bind truth }
  | .k d => me0 fun _ => .ok d
  | .nil => me0 fun _ => .ok (.tuple [])
  | .cons a b => { me0 (fun g => ((run F a).v g).bind fun x => ((run F b).v g).bind (consD x)) with r := fun g => ((run F a).r g).bind fun x => ((run F b).r g).bind (consD x) }
  | .mkT a => me0 (run F a).v
  | .mkL a => me0 fun g => ((run F a).v g).bind toL
  | .bin o a b => me0 fun g => ((run F a).r g).bind fun x => ((run F b).r g).bind fun y => binD o x y
  | .neg a => me0 fun g => ((run F a).v g).bind negD
  | .not a => { me0 (fun g => (((run F a).r g).bind truth).bind fun b => boolD (!b)) with t := fun g => ((run F a).t g).bind fun b => Rs.ok (!b) }
  | .and a b => { me0 (fun g => ((run F a).v g).bind fun x => andD x ((run F b).v g)) with t := fun g => ((run F a).t g).bind fun c => if c then (run F b).t g else .ok false }
  | .or a b => { me0 (fun g => ((run F a).v g).bind fun x => orD x ((run F b).v g)) with t := fun g => ((run F a).t g).bind fun c => if c then .ok true else (run F b).t g }
  | .ife c a b => { me0 (fun g => ((run F c).t g).bind fun t => if t then (run F a).v g else (run F b).v g) with t := fun _ => .bad }
  | .cmp o a b => me0 fun g => ((run F a).r g).bind fun x => ((run F b).r g).bind fun y => (cmpD o x y).bind boolD
  | .chain o p a b c => me0 fun g => ((run F a).r g).bind fun x => ((run F b).r g).bind fun y => (cmpD o x y).bind fun t => if t then ((run F c).r g).bind fun z => (cmpD p y z).bind boolD else .ok (.bool false)
  | .idx a b => me0 fun g => ((run F a).r g).bind fun x => ((run F b).v g).bind fun y => idxD x y
  | .noP => badM
  | .slc a lo hi => me0 fun g => ((run F a).r g).bind fun x => (part lo ((run F lo).v g)).bind fun l => (part hi ((run F hi).v g)).bind fun h => slcD x l h
  | .rev a => me0 fun g => ((run F a).r g).bind revD
  | .call f a => me0 fun g => ((run F a).v g).bind (argsD (F f))
  | .isi t a => me0 fun g => ((run F a).r g).bind (isiR t)
  | .bl b a => me0 fun g => ((run F a).r g).bind (argsD (blD b))
  | .mt m o a => me0 fun g => ((run F o).r g).bind fun x => (isLD x).bind fun _ => ((run F a).v g).bind (argsD (mtD m x))
  | .comp elt tg src cond own => me0 fun g => ((run F src).s g).bind fun xs => (compL (fun x => match bindT tg x (wipeG g own) with
      | some g' => ((run F cond).t g').bind fun t => if t then ((run F elt).v g').bind fun y => .ok (some y) else .ok none
      | none => .bad) xs).bind fun ys => .ok (.list ys)
  | .jn sep a => me0 fun g => ((run F a).r g).bind (joinD sep)
  | .fcat a b => me0 fun g => ((run F a).v g).bind fun x => (fmtD x).bind fun y => noEx ((run F b).v g) (catD y)
  | .spl a sep => me0 fun g => ((run F a).v g).bind (splD sep)
  | .sidx c a => me0 fun g => ((run F a).v g).bind (sidxD c)
  | .rng1 a => meS fun g => ((run F a).v g).bind rng1D
  | .rng2 a b => meS fun g => ((run F a).v g).bind fun x => ((run F b).v g).bind fun y => rng2D x y
  | .rngN a b => meS fun g => ((run F a).v g).bind fun x => ((run F b).v g).bind fun y => rngND x y
  | .enum a => meS fun g => ((run F a).v g).bind enumD
  | .zip a b => meS fun g => ((run F a).v g).bind fun x => ((run F b).v g).bind fun y => zipD x y
  | .bl1 b a => me0 fun g => ((run F a).r g).bind fun d => blD b [d]
  | .din neg a i => me0 fun g => ((run F a).v g).bind fun d => dinD neg d g[i]?
  | .dget i a => me0 fun g => ((run F a).v g).bind (dgetD g[i]?)
  | .dgetN i a => me0 fun g => ((run F a).v g).bind (dgetND g[i]?)
  | .bad => badM
/-! ### statements -/
inductive HC where
  | isx (c : Nat) | v (i : Nat) | and (a b : HC) | or (a b : HC) | not (a : HC)
inductive HS where
  | asg (i : Nat) (c : HC) (r : HS) | ret (c : HC) (a b : D)
/-- an argument: data, or a slot that is lent -/
inductive Ar where
  | e (a : E) | s (i : Nat)
inductive S where
  | skip | seq (a b : S)
  | asg (t : Tg) (e : E) | own (i : Nat) (e : E) | frz (i : Nat) | app (i : Nat) (e : E) | setI (i : Nat) (j e : E) | setD (i : Nat) (j e : E) | ext (i : Nat) (e : E) | pop (t i : Nat) | dict (i : Nat) (k e : E)
  | exp (e : E) | ifS (c : E) (a b : S) | forS (t : Tg) (src : E) (b : S) | whl (c : E) (b : S) | ret (e : E) | retN | rai (c : Nat) | cnt | brk
  | tryS (ie : Nat) (cs : List Nat) (b : S) (hs : List (Nat × HS))
  | raiP (e : E) | tryP (ie : Nat) (b : S)
  | callB (t : Option Nat) (f : Nat) (as : List Ar) | ifB (neg : Bool) (f : Nat) (as : List Ar) (a b : S)
  | bad
inductive Out where
  | nx (g : Ga) | rt (d : D) (g : Ga) | bk (g : Ga) | ct (g : Ga) | ex (c : Nat) (g : Ga) | bad
/-- defs that are lent lists: the arguments, the result, the arguments behind -/
abbrev FnB := Nat → List Sl → Rs (D × List Sl)
def sub (c C : Nat) : Bool := decide (c = C) || decide (C = 0)
def hc (x : Nat) (g : Ga) : HC → Rs Bool
  | .isx c => .ok (sub x c)
  | .v i => match g[i]? with
    | some (some (.v (.bool b))) => .ok b
    | _ => .bad
  | .and a b => (hc x g a).bind fun t => if t then hc x g b else .ok false
  | .or a b => (hc x g a).bind fun t => if t then .ok true else hc x g b
  | .not a => (hc x g a).bind fun t => .ok (!t)
def hs (x : Nat) : HS → Ga → Out
  | .asg i c r, g => match hc x g c with
    | .ok t => if i < g.length && !lent g[i]? then hs x r (g.set i (some (.v (.bool t)))) else .bad
    | _ => .bad
  | .ret c a b, g => match hc x g c with
    | .ok t => .rt (if t then a else b) g
    | _ => .bad
def handle (x : Nat) (g : Ga) : List (Nat × HS) → Out
  | [] => .ex x g
  | (c, h) :: r => if sub x c then hs x h g else handle x g r
def loopL (f : D → Ga → Out) : List D → Ga → Out
  | [], g => .nx g
  | x :: r, g => match f x g with
    | .nx g' => loopL f r g'
    | .ct g' => loopL f r g'
    | .bk g' => .nx g'
    | .rt d g' => .rt d g'
    | .ex c g' => .ex c g'
    | .bad => .bad
def whileL (c : Ga → Rs Bool) (f : Ga → Out) : Nat → Ga → Out
  | 0, _ => .bad
  | n + 1, g => match c g with
    | .ok true => match f g with
      | .nx g' => whileL c f n g'
      | .ct g' => whileL c f n g'
      | .bk g' => .nx g'
      | .rt d g' => .rt d g'
      | .ex c g' => .ex c g'
      | .bad => .bad
    | .ok false => .nx g
    | .ex c => .ex c g
    | .bad => .bad
def fuel : Nat := 100000
def Rs.out {α : Type} (r : Rs α) (g : Ga) (k : α → Out) : Out := match r with
  | .ok a => k a
  | .ex c => .ex c g
  | .bad => .bad
def store (t : Tg) (d : D) (g : Ga) : Out := match bindT t d g with
  | some g' => .nx g'
  | none => .bad
def ownO (i : Nat) (d : D) (g : Ga) : Out := match d with
  | .list ds => if i < g.length && !lent g[i]? then .nx (g.set i (some (.l none ds))) else .bad
  | _ => .bad
def frzO (i : Nat) (g : Ga) : Out := match g[i]? with
  | some (some (.l none ds)) => .nx (g.set i (some (.v (.list ds))))
  | _ => .nx g
def isOwn : Option (Option Sl) → Bool
  | some (some (.l _ _)) => true
  | some (some (.m _ _)) => true
  | _ => false
def isLst : Option (Option Sl) → Bool
  | some (some (.l _ _)) => true
  | _ => false
def isDct : Option (Option Sl) → Bool
  | some (some (.m _ _)) => true
  | _ => false
def appO (i : Nat) (d : D) (g : Ga) : Out := match g[i]? with
  | some (some (.l b ds)) => if ds.length < lim then .nx (g.set i (some (.l b (ds ++ [d])))) else .bad
  | _ => .bad
def extO (i : Nat) (d : D) (g : Ga) : Out := match g[i]?, d with
  | some (some (.l b ds)), .list es => if ds.length + es.length ≤ lim then .nx (g.set i (some (.l b (ds ++ es)))) else .bad
  | some (some (.l b ds)), .tuple es => if ds.length + es.length ≤ lim then .nx (g.set i (some (.l b (ds ++ es)))) else .bad
  | _, _ => .bad
def setO (i : Nat) (j d : D) (g : Ga) : Out := match g[i]?, j with
  | some (some (.l b ds)), .int k => match L2.ixN ds.length k with
    | some n => .nx (g.set i (some (.l b (ds.set n d))))
    | none => .bad
  | some (some (.m b kvs)), .int k => if kvs.length < lim then .nx (g.set i (some (.m b (dPut k d kvs)))) else .bad
  | _, _ => .bad
def popO (t i : Nat) (g : Ga) : Out := match g[i]? with
  | some (some (.l b (d :: ds))) => if t < g.length && !lent g[t]? && t != i then .nx ((g.set i (some (.l b ds))).set t (some (.v d))) else .bad
  | _ => .bad
def dictO (i : Nat) (k d : D) (g : Ga) : Out := match k with
  | .int n => if i < g.length && !lent g[i]? then .nx (g.set i (some (.m none [(n, d)]))) else .bad
  | _ => .bad
/-- the arguments, from the left -/
def argB (F : Fn) (g : Ga) : List Ar → Rs (List Sl)
  | [] => .ok []
  | .e a :: r => ((run F a).v g).bind fun d => (argB F g r).bind fun l => .ok (.v d :: l)
  | .s i :: r => match g[i]? with
    | some (some (.l b ds)) => (argB F g r).bind fun l => .ok (.l b ds :: l)
    | some (some (.m b kvs)) => (argB F g r).bind fun l => .ok (.m b kvs :: l)
    | _ => .bad
/-- what is lent comes back -/
def backB : List Ar → List Sl → Ga → Ga
  | .s i :: r, s :: l, g => backB r l (g.set i (some s))
  | _ :: r, _ :: l, g => backB r l g
  | _, _, g => g
def callG (F : Fn) (B : FnB) (f : Nat) (as : List Ar) (g : Ga) : Rs (D × Ga) := (argB F g as).bind fun l => (B f l).bind fun p => .ok (p.1, backB as p.2 g)
def tryO (ie : Nat) (cs : List Nat) (hs : List (Nat × HS)) : Out → Out
  | .ex c g => if cs.contains c && decide (ie < g.length) then handle c (g.set ie none) hs else .bad
  | o => o
/-- raise ParseError(line); its line, caught -/
def raiPO (d : D) (g : Ga) : Out := match d with
  | .none => .ex 1000 g
  | .int i => if 0 ≤ i then .ex (1001 + i.toNat) g else .bad
  | _ => .bad
def lineD (n : Nat) : D := if n = 1000 then .none else .int ((n : Int) - 1001)
def tryPO (ie : Nat) : Out → Out
  | .ex c g => if decide (1000 ≤ c) && decide (ie < g.length) then .rt (.list [.str "line", lineD c]) (g.set ie none) else .bad
  | o => o
def exec (F : Fn) (B : FnB) : S → Ga → Out
  | .skip, g => .nx g
  | .seq a b, g => match exec F B a g with
    | .nx g' => exec F B b g'
    | o => o
  | .asg t e, g => ((run F e).v g).out g fun d => store t d g
  | .own i e, g => ((run F e).v g).out g fun d => ownO i d g
  | .frz i, g => frzO i g
  | .app i e, g => if isLst g[i]? then ((run F e).v g).out g fun d => appO i d g else .bad
  | .ext i e, g => if isLst g[i]? then ((run F e).v g).out g fun d => extO i d g else .bad
  | .setI i j e, g => ((run F e).v g).out g fun d => if isLst g[i]? then ((run F j).v g).out g fun k => setO i k d g else .bad
  | .setD i j e, g => ((run F e).v g).out g fun d => if isDct g[i]? then ((run F j).v g).out g fun k => setO i k d g else .bad
  | .pop t i, g => popO t i g
  | .dict i k e, g => ((run F k).v g).out g fun n => ((run F e).v g).out g fun d => dictO i n d g
  | .exp e, g => ((run F e).v g).out g fun _ => .nx g
  | .ifS c a b, g => ((run F c).t g).out g fun t => if t then exec F B a g else exec F B b g
  | .forS t src b, g => ((run F src).s g).out g fun xs => loopL (fun x g => match bindT t x g with
    | some g' => exec F B b g'
    | none => .bad) xs g
  | .whl c b, g => whileL (run F c).t (exec F B b) fuel g
  | .ret e, g => ((run F e).v g).out g fun d => .rt d g
  | .retN, g => .rt .none g
  | .rai c, g => .ex c g
  | .cnt, g => .ct g
  | .brk, g => .bk g
  | .tryS ie cs b hs, g => tryO ie cs hs (exec F B b g)
  | .raiP e, g => ((run F e).v g).out g fun d => raiPO d g
  | .tryP ie b, g => tryPO ie (exec F B b g)
  | .callB t f as, g => (callG F B f as g).out g fun p => match t with
    | some t => store (.nm t) p.1 p.2
    | none => .nx p.2
  | .ifB neg f as a b, g => (callG F B f as g).out g fun p => (truth p.1).out p.2 fun t => if (if neg then !t else t) then exec F B a p.2 else exec F B b p.2
  | .bad, _ => .bad
end Ip

set_option maxHeartbeats 4000000
namespace Ip
open PySem PySem.Spec PyProof.Rows L2

/-! ### heaps: the ground Hb (what data lies on), the whole H -/
structure Gr (Hb H Hb' H' : Hp) : Prop where
  b : Same Hb Hb'
  h : Same H H'
  s : Same Hb' H'
  n : ∀ a, Hb a = none → H a ≠ none → Hb' a = none
theorem Gr.refl {Hb H : Hp} (s : Same Hb H) : Gr Hb H Hb H := ⟨Same.refl _, Same.refl _, s, fun _ h _ => h⟩
theorem Gr.trans {Hb H Hb1 H1 Hb2 H2 : Hp} (x : Gr Hb H Hb1 H1) (y : Gr Hb1 H1 Hb2 H2) : Gr Hb H Hb2 H2 :=
  ⟨x.b.trans y.b, x.h.trans y.h, y.s, fun a h1 h2 => y.n a (x.n a h1 h2) fun z => h2 (x.h.free z)⟩
theorem Gr.lay {Hb H : Hp} {p : Addr} {o : HO} (s : Same Hb H) (h : H p = none) : Gr Hb H (upd Hb p o) (upd H p o) := by
  have hb : Hb p = none := s.free h
  have nw : ∀ {G : Hp}, G p = none → Same G (upd G p o) := fun {G} z b x e => by
    rw [upd_ne (ne_of_none e z)]
    exact e
  refine ⟨nw hb, nw h, fun b x e => ?_, fun a h1 h2 => ?_⟩
  · by_cases q : b = p
    · subst q
      rw [upd_same] at e ⊢
      exact e
    · rw [upd_ne q] at e ⊢
      exact s b x e
  · have q : a ≠ p := fun z => h2 (by rw [z]; exact h)
    rw [upd_ne q]
    exact h1
/-- a new object that the ground does not hold -/
theorem Gr.hid {Hb H : Hp} {p : Addr} {o : HO} (s : Same Hb H) (h : H p = none) : Gr Hb H Hb (upd H p o) := by
  have nw : Same H (upd H p o) := fun b x e => by
    rw [upd_ne (ne_of_none e h)]
    exact e
  exact ⟨Same.refl _, nw, s.trans nw, fun _ z _ => z⟩
/-- an object, as data: where it lies -/
def ptD (p : Addr) : D := .dict [(.int ((p : Nat) : Int), .none)]
/-- the script, as data -/
def scrD (ns : List Int) : D := .dict [(.list (ns.map .int), .none)]
mutual
/-- the value v lies on H as the data d -/
inductive Rp (K : PySem.W.Frag) (H : Hp) : V → D → Prop
  | non : Rp K H .non .none
  | bl (b : Bool) : Rp K H (.bl b) (.bool b)
  | int (i : Int) : Rp K H (.int i) (.int i)
  | str (x : Str) : Rp K H (.str x) (.str x)
  | lst {a : Addr} {xs : List V} {ds : List D} : H a = some (.lst xs) → RpAll K H xs ds → Rp K H (.ref a) (.list ds)
  | tup {a : Addr} {xs : List V} {ds : List D} : H a = some (.tup xs) → RpAll K H xs ds → Rp K H (.ref a) (.tuple ds)
  | scr {a : Addr} {ns : List Int} : SqL K H a (ns.map V.int) → Rp K H (.ref a) (scrD ns)
  | ptr (p : Addr) : Rp K H (.ref p) (ptD p)
inductive RpAll (K : PySem.W.Frag) (H : Hp) : List V → List D → Prop
  | nil : RpAll K H [] []
  | cons {v : V} {vs : List V} {d : D} {ds : List D} : Rp K H v d → RpAll K H vs ds → RpAll K H (v :: vs) (d :: ds)
end
section
variable {K : PySem.W.Frag} {H H' : Hp}
mutual
theorem Rp.mono (e : Same H H') : ∀ {v : V} {d : D}, Rp K H v d → Rp K H' v d
  | _, _, .non => .non
  | _, _, .bl b => .bl b
  | _, _, .int i => .int i
  | _, _, .str x => .str x
  | _, _, .lst h a => .lst (e _ _ h) (RpAll.mono e a)
  | _, _, .tup h a => .tup (e _ _ h) (RpAll.mono e a)
  | _, _, .scr h => .scr (e.seq h)
  | _, _, .ptr p => .ptr p
theorem RpAll.mono (e : Same H H') : ∀ {vs : List V} {ds : List D}, RpAll K H vs ds → RpAll K H' vs ds
  | _, _, .nil => .nil
  | _, _, .cons h r => .cons (Rp.mono e h) (RpAll.mono e r)
end
mutual
theorem Rp.dp : ∀ {v : V} {d : D}, Rp K H v d → d.canLay0 = true → Dp K H v d
  | _, _, .non, _ => .non
  | _, _, .bl b, _ => .bl b
  | _, _, .int i, _ => .int i
  | _, _, .str x, _ => .str x
  | _, .list ds, .lst h a, c => .lst (.of h) (RpAll.dp a (by simpa [PyData.canLay0] using c))
  | _, .tuple ds, .tup h a, c => .tup (.of h) (RpAll.dp a (by simpa [PyData.canLay0] using c))
  | _, _, .scr h, c => by simp [scrD, PyData.canLay0] at c
  | _, _, .ptr p, c => by simp [ptD, PyData.canLay0] at c
theorem RpAll.dp : ∀ {vs : List V} {ds : List D}, RpAll K H vs ds → PyData.canLayAll0 ds = true → DpAll K H vs ds
  | _, _, .nil, _ => .nil
  | _, d :: ds, .cons h r, c => by
    rw [PyData.canLayAll0, Bool.and_eq_true] at c
    exact .cons (Rp.dp h c.1) (RpAll.dp r c.2)
end
theorem RpAll.length : ∀ {vs : List V} {ds : List D}, RpAll K H vs ds → vs.length = ds.length
  | _, _, .nil => rfl
  | _, _, .cons _ r => congrArg (· + 1) (RpAll.length r)
theorem RpAll.get : ∀ {vs : List V} {ds : List D} {i : Nat} {d : D}, RpAll K H vs ds → ds[i]? = some d → ∃ v, vs[i]? = some v ∧ Rp K H v d
  | _, _, _, _, .nil, h => by simp at h
  | _, _, 0, _, .cons h _, e => by
    simp at e
    subst e
    exact ⟨_, rfl, h⟩
  | _, _, i + 1, d, .cons _ r, e => by
    obtain ⟨v, h1, h2⟩ := RpAll.get (i := i) (d := d) r (by simpa using e)
    exact ⟨v, by simpa using h1, h2⟩
theorem RpAll.getV : ∀ {vs : List V} {ds : List D} {i : Nat} {v : V}, RpAll K H vs ds → vs[i]? = some v → ∃ d, ds[i]? = some d ∧ Rp K H v d
  | _, _, _, _, .nil, h => by simp at h
  | _, _, 0, _, .cons h _, e => by
    simp at e
    subst e
    exact ⟨_, rfl, h⟩
  | _, _, i + 1, d, .cons _ r, e => by
    obtain ⟨v, h1, h2⟩ := RpAll.getV (i := i) (v := d) r (by simpa using e)
    exact ⟨v, by simpa using h1, h2⟩
theorem RpAll.append : ∀ {vs ws : List V} {ds es : List D}, RpAll K H vs ds → RpAll K H ws es → RpAll K H (vs ++ ws) (ds ++ es)
  | _, _, _, _, .nil, s => s
  | _, _, _, _, .cons h r, s => .cons h (RpAll.append r s)
theorem RpAll.take : ∀ {vs : List V} {ds : List D} (n : Nat), RpAll K H vs ds → RpAll K H (vs.take n) (ds.take n)
  | _, _, 0, _ => .nil
  | _, _, _ + 1, .nil => .nil
  | _, _, n + 1, .cons h r => .cons h (RpAll.take n r)
theorem RpAll.drop : ∀ {vs : List V} {ds : List D} (n : Nat), RpAll K H vs ds → RpAll K H (vs.drop n) (ds.drop n)
  | _, _, 0, r => r
  | _, _, _ + 1, .nil => .nil
  | _, _, n + 1, .cons _ r => RpAll.drop n r
theorem RpAll.rep {vs : List V} {ds : List D} (h : RpAll K H vs ds) : ∀ k : Nat, RpAll K H (List.replicate k vs).flatten (List.replicate k ds).flatten
  | 0 => .nil
  | k + 1 => h.append (RpAll.rep h k)
theorem RpAll.reverse : ∀ {vs : List V} {ds : List D}, RpAll K H vs ds → RpAll K H vs.reverse ds.reverse
  | _, _, .nil => .nil
  | _, _, .cons h r => by
    rw [List.reverse_cons, List.reverse_cons]
    exact (RpAll.reverse r).append (.cons h .nil)
theorem RpAll.set {v : V} {d : D} (h : Rp K H v d) : ∀ {vs : List V} {ds : List D} (i : Nat), RpAll K H vs ds → RpAll K H (vs.set i v) (ds.set i d)
  | _, _, _, .nil => .nil
  | _, _, 0, .cons _ t => .cons h t
  | _, _, i + 1, .cons q t => .cons q (RpAll.set h i t)
theorem RpAll.eraseIdx : ∀ {vs : List V} {ds : List D} (i : Nat), RpAll K H vs ds → RpAll K H (vs.eraseIdx i) (ds.eraseIdx i)
  | _, _, _, .nil => .nil
  | _, _, 0, .cons _ t => t
  | _, _, i + 1, .cons q t => .cons q (RpAll.eraseIdx i t)
theorem RpAll.cut {vs : List V} {ds : List D} (h : RpAll K H vs ds) (lo hi : Option Int) : RpAll K H (cutV vs lo hi) (cutL ds lo hi) := by
  unfold cutV cutL
  rw [h.length]
  exact (h.drop _).take _
theorem RpAll.intsOfV : ∀ {vs : List V} {ds : List D} {ns : List Int}, RpAll K H vs ds → intsOf ds = some ns → vs = ns.map V.int
  | _, _, ns, .nil, e => by
    cases e
    rfl
  | _, _, ns, .cons h r, e => by
    cases h with
    | int i =>
      unfold Ip.intsOf at e
      cases q : Ip.intsOf _ with
      | none =>
        rw [q] at e
        cases e
      | some ms =>
        rw [q] at e
        cases e
        rw [RpAll.intsOfV r q]
        rfl
    | non => cases e
    | bl _ => cases e
    | str _ => cases e
    | lst _ _ => cases e
    | tup _ _ => cases e
    | scr _ => cases e
    | ptr _ => cases e
theorem atI_dp {vs : List V} {ds : List D} {i : Int} {d : D} (h : RpAll K H vs ds) (e : atI ds i = some d) : ∃ v, atI vs i = some v ∧ Rp K H v d := by
  unfold atI at e ⊢
  rw [h.length]
  cases q : ixN ds.length i with
  | none =>
    rw [q] at e
    cases e
  | some j =>
    rw [q] at e
    exact h.get e
end
/-- read: on the ground, or a list of one's own whose items are -/
def DpR (K : PySem.W.Frag) (Hb H : Hp) (v : V) (d : D) : Prop := Rp K Hb v d ∨ ∃ p vs ds, v = .ref p ∧ d = .list ds ∧ H p = some (.lst vs) ∧ RpAll K Hb vs ds
section
variable {K : PySem.W.Frag} {Hb H Hb' H' : Hp} {v : V} {d : D}
theorem DpR.gr (h : DpR K Hb H v d) (x : Gr Hb H Hb' H') : DpR K Hb' H' v d := by
  rcases h with h | ⟨p, vs, ds, e1, e2, e3, e4⟩
  · exact .inl (h.mono x.b)
  · exact .inr ⟨p, vs, ds, e1, e2, x.h _ _ e3, e4.mono x.b⟩
theorem DpR.full (h : DpR K Hb H v d) (s : Same Hb H) : Rp K H v d := by
  rcases h with h | ⟨p, vs, ds, rfl, rfl, e3, e4⟩
  · exact h.mono s
  · exact .lst e3 (e4.mono s)
theorem DpR.lst {ds : List D} (h : DpR K Hb H v (.list ds)) (s : Same Hb H) : ∃ p vs, v = .ref p ∧ H p = some (.lst vs) ∧ RpAll K Hb vs ds := by
  rcases h with h | ⟨p, vs, ds', rfl, e2, e3, e4⟩
  · cases h with
    | lst hs ha => exact ⟨_, _, rfl, s _ _ hs, ha⟩
  · cases e2
    exact ⟨p, vs, rfl, e3, e4⟩
theorem DpR.tup {ds : List D} (h : DpR K Hb H v (.tuple ds)) (s : Same Hb H) : ∃ p vs, v = .ref p ∧ H p = some (.tup vs) ∧ RpAll K Hb vs ds := by
  rcases h with h | ⟨p, vs, ds', rfl, e2, e3, e4⟩
  · cases h with
    | tup hs ha => exact ⟨_, _, rfl, s _ _ hs, ha⟩
  · cases e2
theorem DpR.int {i : Int} (h : DpR K Hb H v (.int i)) : v = .int i := by
  rcases h with h | ⟨_, _, _, _, e2, _⟩
  · cases h
    rfl
  · cases e2
theorem DpR.bl {b : Bool} (h : DpR K Hb H v (.bool b)) : v = .bl b := by
  rcases h with h | ⟨_, _, _, _, e2, _⟩
  · cases h
    rfl
  · cases e2
theorem DpR.str {x : Str} (h : DpR K Hb H v (.str x)) : v = .str x := by
  rcases h with h | ⟨_, _, _, _, e2, _⟩
  · cases h
    rfl
  · cases e2
theorem DpR.non (h : DpR K Hb H v .none) : v = .non := by
  rcases h with h | ⟨_, _, _, _, e2, _⟩
  · cases h
    rfl
  · cases e2
end

/-! ### what is wanted behind -/
/-- an exception: of the class with that number; from 1000 on: of class 999, with its line -/
def lineV (n : Nat) : V := if n = 1000 then .non else .int ((n : Int) - 1001)
def ExW (ca : Nat → Addr) (c : Nat) (E : XK) (H : Hp) : Prop := if c < 1000 then E (.ref (ca c)) none H else ∀ dx, H dx = none → E (.ref (ca 999)) (some dx) (upd H dx (.xd [("line", lineV c)]))
theorem exw_low {ca : Nat → Addr} {c : Nat} {E : XK} {H : Hp} (h : c < 1000) : ExW ca c E H = E (.ref (ca c)) none H := if_pos h
theorem exw_high {ca : Nat → Addr} {c : Nat} {E : XK} {H : Hp} (h : ¬ c < 1000) : ExW ca c E H = ∀ dx, H dx = none → E (.ref (ca 999)) (some dx) (upd H dx (.xd [("line", lineV c)])) := if_neg h
section
variable {α β : Type}
def Po (ca : Nat → Addr) (Hb H : Hp) (R : α → β → Hp → Hp → Prop) (r : Rs α) (Q : β → Hp → Prop) (E : XK) : Prop := match r with
  | .ok a => ∀ v Hb' H', Gr Hb H Hb' H' → R a v Hb' H' → Q v H'
  | .ex c => ∀ Hb' H', Gr Hb H Hb' H' → ExW ca c E H'
  | .bad => False
end
def RV (K : PySem.W.Frag) : D → V → Hp → Hp → Prop := fun d v Hb _ => Rp K Hb v d
def RR (K : PySem.W.Frag) : D → V → Hp → Hp → Prop := fun d v Hb H => DpR K Hb H v d
def RB : Bool → Bool → Hp → Hp → Prop := fun a b _ _ => a = b
abbrev RAll (K : PySem.W.Frag) (Hb H : Hp) : List V → List D → Prop := Paired (DpR K Hb H)
/-- arguments: a tuple's items -/
def RVs (K : PySem.W.Frag) : D → List V → Hp → Hp → Prop := fun d vs Hb _ => ∃ ds, d = .tuple ds ∧ RpAll K Hb vs ds
def RRs (K : PySem.W.Frag) : D → List V → Hp → Hp → Prop := fun d vs Hb H => ∃ ds, d = .tuple ds ∧ RAll K Hb H vs ds
abbrev Post (K : PySem.W.Frag) (ca : Nat → Addr) (Hb H : Hp) (r : Rs D) (Q : VK) (E : XK) : Prop := Po ca Hb H (RV K) r Q E
section
variable {α β γ δ : Type} {ca : Nat → Addr} {Hb H Hb1 H1 : Hp} {R : α → γ → Hp → Hp → Prop} {R' : β → δ → Hp → Hp → Prop} {r : Rs α} {Q : δ → Hp → Prop} {Q1 : γ → Hp → Prop} {E : XK}
theorem Po.gr {r : Rs β} (x : Gr Hb H Hb1 H1) (h : Po ca Hb H R' r Q E) : Po ca Hb1 H1 R' r Q E := by
  cases r with
  | ok a => exact fun v Hb' H' g q => h v Hb' H' (x.trans g) q
  | ex c => exact fun Hb' H' g => h Hb' H' (x.trans g)
  | bad => exact h
/-- the first part of a bind -/
theorem Po.cut {f : α → Rs β} (h : Po ca Hb H R' (r.bind f) Q E) (k : ∀ a v Hb1 H1, r = .ok a → Gr Hb H Hb1 H1 → R a v Hb1 H1 → Po ca Hb1 H1 R' (f a) Q E → Q1 v H1) : Po ca Hb H R r Q1 E := by
  cases r with
  | ok a => exact fun v Hb' H' g q => k a v Hb' H' rfl g q (h.gr g)
  | ex c => exact fun Hb' H' g => h Hb' H' g
  | bad => exact h
theorem Po.done {a : β} {v : δ} (h : Po ca Hb H R' (.ok a) Q E) (x : Gr Hb H Hb1 H1) (q : R' a v Hb1 H1) : Q v H1 := h v Hb1 H1 x q
theorem Po.imp {r : Rs β} {Q' : δ → Hp → Prop} (h : Po ca Hb H R' r Q E) (k : ∀ v H', Q v H' → Q' v H') : Po ca Hb H R' r Q' E := by
  cases r with
  | ok a => exact fun v Hb' H' g q => k v H' (h v Hb' H' g q)
  | ex c => exact h
  | bad => exact h
end
end Ip

set_option maxHeartbeats 4000000
namespace Ip
open PySem PySem.Spec PyProof.Rows L2
/-! ### tuple * n that gives the tuple itself, or an empty one -/
theorem tuple_mulS (l : Addr) (items : Array Value) (n : Nat) (dd : Option Addr) (sl : Array (Option Value)) (x : Int) (u : Tok) (c0 : (decide (x < -(2 ^ 63)) || decide (x ≥ 2 ^ 63)) = false) (c1 : (items.isEmpty || x == 1) = true) :
    Meets (Builtin.«tuple.__mul__» ⟨[.ref l, .int x u], []⟩) (fun _ R s => s.heap.get? l = some { cls := .type "tuple", dict := dd, data := .seq items n, slots := sl } ∧ R (.ok (.ret (Value.ref l))) s) :=
  .of_wp fun prog w A R s h => by
    obtain ⟨hp, g, d, tk, os⟩ := s
    obtain ⟨hl, h⟩ := h
    have f1 := AutoSeq1.idx_int
    wp_walk using wpAny_loadPart' hl
    repeat (first
      | (refine wpAny_ite_false (decide_eq_false (by rw [c0]; exact Bool.false_ne_true)) ?_; wp_walk using wpAny_loadPart' hl)
      | (refine wpAny_ite_true (decide_eq_true c1) ?_; wp_walk using wpAny_loadPart' hl))
    exact ⟨_, rfl, h⟩
theorem tuple_mul0 (l : Addr) (items : Array Value) (n : Nat) (dd : Option Addr) (sl : Array (Option Value)) (x : Int) (u : Tok) (c0 : (decide (x < -(2 ^ 63)) || decide (x ≥ 2 ^ 63)) = false) (c1 : (items.isEmpty || x == 1) = false) (c2 : (decide (x ≤ 0) || items.isEmpty) = true) :
    Meets (Builtin.«tuple.__mul__» ⟨[.ref l, .int x u], []⟩) (fun _ R s => s.heap.get? l = some { cls := .type "tuple", dict := dd, data := .seq items n, slots := sl } ∧
      R (.ok (.ret (Value.ref s.heap.objs.size))) { s with heap := s.heap.push { cls := Value.type "tuple", data := Data.seq #[] }, toks := s.toks }) :=
  .of_wp fun prog w A R s h => by
    obtain ⟨hp, g, d, tk, os⟩ := s
    obtain ⟨hl, h⟩ := h
    have f1 := AutoSeq1.idx_int
    wp_walk using wpAny_loadPart' hl
    repeat (first
      | (refine wpAny_ite_false (decide_eq_false (by rw [c0]; exact Bool.false_ne_true)) ?_; wp_walk using wpAny_loadPart' hl)
      | (refine wpAny_ite_false (decide_eq_false (by rw [c1]; exact Bool.false_ne_true)) ?_; wp_walk using wpAny_loadPart' hl)
      | (refine wpAny_ite_true (decide_eq_true c2) ?_; wp_walk using wpAny_loadPart' hl))
    exact ⟨_, rfl, h⟩
section
variable {X : Cx}
def rRepS (K : PySem.W.Frag) : R2 := fun x y H Q => ∃ l k xs, x = .ref l ∧ y = .int k ∧ SqT K H l xs ∧ (xs = [] ∨ k = 1) ∧ -1000 ≤ k ∧ k ≤ 1000 ∧ Q (.ref l) H
def rRep0 (K : PySem.W.Frag) : R2 := fun x y H Q => ∃ l k xs, x = .ref l ∧ y = .int k ∧ SqT K H l xs ∧ xs ≠ [] ∧ -1000 ≤ k ∧ k ≤ 0 ∧ ∀ p, H p = none → Q (.ref p) (upd H p (.tup []))
theorem op_repS : OpR X (binaryOp .Mult) (rRepS X.K) := by
  intro pins s σ H x y v u Q I rx ry h
  obtain ⟨l, k, xs, rfl, rfl, hT, hne, h1, h2, q⟩ := h
  cases rx
  obtain ⟨t, rfl⟩ := ry
  obtain ⟨its, r, ⟨⟨cls, dd, data, sl⟩, ho, hc, n, hd⟩, hs⟩ := I.tuple hT
  simp only at hc hd
  subst hc hd
  have hle : its.length = xs.length := r.length.symm
  have c0 : (decide (k < -(2 ^ 63)) || decide (k ≥ 2 ^ 63)) = false := by
    rw [decide_eq_false (by omega), decide_eq_false (by omega)] <;> rfl
  have c1 : (its.toArray.isEmpty || k == 1) = true := by
    rcases hne with e | e
    · rw [e] at hle
      have : its = [] := List.eq_nil_of_length_eq_zero hle
      rw [this]
      rfl
    · rw [e, Bool.or_eq_true]
      exact .inr rfl
  exact wpAny_binaryOp_repeat_ref (T := "tuple") (U := "int") (by decide) ⟨_, ho, rfl⟩ (fun s' => typeIs_int s' k t) noFill_tuple_mul F.fills_int_mul F.slot_int_rmul repeat_tuple F.slot_int_index.lookup
    (call_meets F.slot_int_rmul (typeIs_int s k t) F.entry_int_rmul (F.args_int_rmul_2 _ _) (int_rmul_tuple k t l its.toArray n dd sl)
      ⟨ho, rfl, ⟨_, ho, rfl⟩, call_meets F.slot_tuple_mul ⟨_, ho, rfl⟩ F.entry_tuple_mul (F.args_tuple_mul_2 _ _) (tuple_mulS l its.toArray n dd sl k t c0 c1) ⟨ho, .ref l, H, I, rfl, q⟩⟩)
theorem op_rep0 : OpR X (binaryOp .Mult) (rRep0 X.K) := by
  intro pins s σ H x y v u Q I rx ry h
  obtain ⟨l, k, xs, rfl, rfl, hT, hne, h1, h2, q⟩ := h
  cases rx
  obtain ⟨t, rfl⟩ := ry
  obtain ⟨its, r, ⟨⟨cls, dd, data, sl⟩, ho, hc, n, hd⟩, hs⟩ := I.tuple hT
  simp only at hc hd
  subst hc hd
  have hle : its.length = xs.length := r.length.symm
  have hi : its.toArray.isEmpty = false := by
    cases its with
    | nil => exact absurd (List.eq_nil_of_length_eq_zero hle.symm) hne
    | cons a b => rfl
  have c0 : (decide (k < -(2 ^ 63)) || decide (k ≥ 2 ^ 63)) = false := by
    rw [decide_eq_false (by omega), decide_eq_false (by omega)] <;> rfl
  have c1 : (its.toArray.isEmpty || k == 1) = false := by
    rw [hi, Bool.false_or]
    exact beq_eq_false_iff_ne.mpr (by omega)
  have c2 : (decide (k ≤ 0) || its.toArray.isEmpty) = true := by
    rw [decide_eq_true h2]
    rfl
  refine wpAny_binaryOp_repeat_ref (T := "tuple") (U := "int") (by decide) ⟨_, ho, rfl⟩ (fun s' => typeIs_int s' k t) noFill_tuple_mul F.fills_int_mul F.slot_int_rmul repeat_tuple F.slot_int_index.lookup
    (call_meets F.slot_int_rmul (typeIs_int s k t) F.entry_int_rmul (F.args_int_rmul_2 _ _) (int_rmul_tuple k t l its.toArray n dd sl)
      ⟨ho, rfl, ⟨_, ho, rfl⟩, call_meets F.slot_tuple_mul ⟨_, ho, rfl⟩ F.entry_tuple_mul (F.args_tuple_mul_2 _ _) (tuple_mul0 l its.toArray n dd sl k t c0 c1 c2) ⟨ho, ?_⟩⟩)
  refine ⟨.ref s.heap.objs.size, _, I.laid (t' := s.toks) (o := .tup []) (fun b ob q => Heap.get?_push_of_some _ q) (Nat.le_refl _) ?_, rfl, q _ (I.hok.fresh (Nat.le_refl _))⟩
  exact ⟨Nat.zero_le _, [], .nil, IsTup.new _ _⟩
end
end Ip

set_option maxHeartbeats 4000000
namespace Ip
open PySem PySem.Spec PyProof.Rows L2
theorem limS {n : Nat} (h : n ≤ lim) : n ≤ sizeLine := Nat.le_trans h (by decide)
theorem limT {n : Nat} (h : n < lim) : n < sizeLine := Nat.lt_of_lt_of_le h (by decide)
/-- an operation on two values, told by data -/
def OpD (X : Cx) (ca : Nat → Addr) (f : Value → Value → Sem Value) (o : D → D → Rs D) : Prop :=
  ∀ (pins : List (Addr × Obj)) (s : Shared) (σ : L2.St) (Hb H : Hp) (x y : V) (v u : Value) (d e : D) (Q : VK) (E : XK), Inv X pins σ H s → RelV x v → RelV y u → Same Hb H → DpR X.K Hb H x d → DpR X.K Hb H y e →
    Post X.K ca Hb H (o d e) Q E → wpAny (model X.prog X.w) X.A (f v u) (EP X pins σ Q) X.xe s
def opB : Bop → Operator
  | .add => .Add | .sub => .Sub | .mul => .Mult | .fdiv => .FloorDiv | .mod => .Mod | .pow => .Pow
section
variable {X : Cx} {ca : Nat → Addr}
theorem post_if {c : Bool} {a : Rs D} {K : PySem.W.Frag} {Hb H : Hp} {Q : VK} {E : XK} (h : Post K ca Hb H (if c = true then a else .bad) Q E) : c = true ∧ Post K ca Hb H a Q E := by
  cases c with
  | true => exact ⟨rfl, h⟩
  | false => exact False.elim h
theorem post_ifP {c : Prop} [Decidable c] {a : Rs D} {K : PySem.W.Frag} {Hb H : Hp} {Q : VK} {E : XK} (h : Post K ca Hb H (if c then a else .bad) Q E) : c ∧ Post K ca Hb H a Q E := by
  by_cases q : c
  · rw [if_pos q] at h
    exact ⟨q, h⟩
  · rw [if_neg q] at h
    exact False.elim h
theorem flat_nil {α : Type} (n : Nat) : (List.replicate n ([] : List α)).flatten = [] := by
  induction n with
  | zero => rfl
  | succ n ih => rw [List.replicate_succ, List.flatten_cons, ih]; rfl
theorem bin_ok (o : Bop) : OpD X ca (binaryOp (opB o)) (binD o) := by
  intro pins s σ Hb H x y v u d e Q E I rx ry sm hx hy h
  unfold binD at h
  split at h
  · -- int + int
    have e1 := hx.int; have e2 := hy.int; subst e1 e2
    exact op_add pins s σ H _ _ v u Q I rx ry ⟨_, _, rfl, rfl, h.done (.refl sm) (.int _)⟩
  · -- list + list
    obtain ⟨hl, h⟩ := post_ifP h
    obtain ⟨p, vs, rfl, hp, hd⟩ := hx.lst sm
    obtain ⟨q, ws, rfl, hq, he⟩ := hy.lst sm
    refine op_cat pins s σ H _ _ v u Q I rx ry ⟨p, q, vs, ws, rfl, rfl, hp, hq, limS (by rw [hd.length, he.length]; exact hl), fun a ha => ?_⟩
    have g := Gr.lay (o := .lst (vs ++ ws)) sm ha
    exact h.done g (.lst upd_same ((hd.append he).mono g.b))
  · -- tuple + tuple
    obtain ⟨hl, h⟩ := post_ifP h
    obtain ⟨p, vs, rfl, hp, hd⟩ := hx.tup sm
    obtain ⟨q, ws, rfl, hq, he⟩ := hy.tup sm
    have hbx := hx
    refine op_catA pins s σ H _ _ v u Q I rx ry ⟨p, q, vs, ws, rfl, rfl, .of hp, .of hq, limS (by rw [hd.length, he.length]; exact hl), fun ev => ?_, fun nv ew => ?_, fun nv nw a ha => ?_⟩
    · subst ev
      cases hd
      rcases hy with hy | ⟨_, _, _, _, z, _⟩
      · exact h.done (.refl sm) hy
      · cases z
    · subst ew
      cases he
      rw [List.append_nil] at h
      rcases hx with hx | ⟨_, _, _, _, z, _⟩
      · exact h.done (.refl sm) hx
      · cases z
    · have g := Gr.lay (o := .tup (vs ++ ws)) sm ha
      exact h.done g (.tup upd_same ((hd.append he).mono g.b))
  · -- str + str
    obtain ⟨hl, h⟩ := post_ifP h
    have e1 := hx.str; have e2 := hy.str; subst e1 e2
    exact op_add_str pins s σ H _ _ v u Q I rx ry ⟨_, _, rfl, rfl, limS hl, h.done (.refl sm) (.str _)⟩
  · -- int - int
    have e1 := hx.int; have e2 := hy.int; subst e1 e2
    exact op_sub pins s σ H _ _ v u Q I rx ry ⟨_, _, rfl, rfl, h.done (.refl sm) (.int _)⟩
  · -- int * int
    obtain ⟨hl, h⟩ := post_if h
    have e1 := hx.int; have e2 := hy.int; subst e1 e2
    refine op_mul pins s σ H _ _ v u Q I rx ry ⟨_, _, rfl, rfl, ?_, h.done (.refl sm) (.int _)⟩
    unfold okMul at hl
    rw [Bool.or_eq_true, Bool.and_eq_true, Bool.and_eq_true] at hl
    rcases hl with ⟨a, b⟩ | ⟨a, b⟩
    · exact .inl ⟨of_decide_eq_true a, of_decide_eq_true b⟩
    · exact .inr ⟨of_decide_eq_true a, of_decide_eq_true b⟩
  · -- list * int
    obtain ⟨hl, h⟩ := post_if h
    rw [Bool.and_eq_true, Bool.and_eq_true] at hl
    obtain ⟨⟨h1, h2⟩, h3⟩ := hl
    have h1 := of_decide_eq_true h1
    have h2 := of_decide_eq_true h2
    have h3 := of_decide_eq_true h3
    obtain ⟨p, vs, rfl, hp, hd⟩ := hx.lst sm
    have e2 := hy.int; subst e2
    refine op_rep pins s σ H _ _ v u Q I rx ry ⟨p, _, vs, rfl, rfl, hp, by omega, by omega, limS (by rw [hd.length]; exact h3), fun a ha => ?_⟩
    exact h.done (Gr.lay sm ha) (.lst upd_same ((hd.rep _).mono (Gr.lay sm ha).b))
  · -- tuple * int
    rename_i xs j
    obtain ⟨hl, h⟩ := post_if h
    rw [Bool.and_eq_true, Bool.and_eq_true] at hl
    obtain ⟨⟨h1, h2⟩, h3⟩ := hl
    have h1 := of_decide_eq_true h1
    have h2 := of_decide_eq_true h2
    have h3 := of_decide_eq_true h3
    rcases id hx with hx' | ⟨_, _, _, _, z, _⟩
    · obtain ⟨p, vs, rfl, hp, hd⟩ := hx.tup sm
      have e2 := hy.int; subst e2
      have hlen := hd.length
      by_cases c : vs = [] ∨ j = 1
      · refine op_repS pins s σ H _ _ v u Q I rx ry ⟨p, _, vs, rfl, rfl, .of hp, c, h1, h2, ?_⟩
        have e : (List.replicate j.toNat xs).flatten = xs := by
          rcases c with c | c
          · subst c
            cases hd
            rw [List.flatten_replicate_nil]
          · subst c
            simp
        rw [e] at h
        exact h.done (.refl sm) hx'
      · have c1 : vs ≠ [] := fun z => c (.inl z)
        have c2 : j ≠ 1 := fun z => c (.inr z)
        by_cases c3 : j ≤ 0
        · refine op_rep0 pins s σ H _ _ v u Q I rx ry ⟨p, _, vs, rfl, rfl, .of hp, c1, h1, c3, fun a ha => ?_⟩
          have e : (List.replicate j.toNat xs).flatten = [] := by
            rw [show j.toNat = 0 by omega]
            rfl
          rw [e] at h
          exact h.done (Gr.lay sm ha) (.tup upd_same .nil)
        · exact op_repT pins s σ H _ _ v u Q I rx ry ⟨p, _, vs, rfl, rfl, .of hp, c1, by omega, h2, by omega, fun a ha => h.done (Gr.lay sm ha) (.tup upd_same ((hd.rep _).mono (Gr.lay sm ha).b))⟩
    · cases z
  · -- int // int
    obtain ⟨hl, h⟩ := post_if h
    rw [Bool.and_eq_true] at hl
    have e1 := hx.int; have e2 := hy.int; subst e1 e2
    exact op_fdiv pins s σ H _ _ v u Q I rx ry ⟨_, _, rfl, rfl, ⟨of_decide_eq_true hl.1, of_decide_eq_true hl.2⟩, h.done (.refl sm) (.int _)⟩
  · obtain ⟨hl, h⟩ := post_ifP h
    have e1 := hx.int; have e2 := hy.int; subst e1 e2
    exact op_mod pins s σ H _ _ v u Q I rx ry ⟨_, _, rfl, rfl, hl, h.done (.refl sm) (.int _)⟩
  · obtain ⟨hl, h⟩ := post_if h
    rw [Bool.and_eq_true, Bool.and_eq_true] at hl
    obtain ⟨⟨h1, h2⟩, h3⟩ := hl
    have h1 := of_decide_eq_true h1
    have h2 := of_decide_eq_true h2
    have e1 := hx.int; have e2 := hy.int; subst e1 e2
    exact op_pow pins s σ H _ _ v u Q I rx ry ⟨_, _, rfl, rfl, ⟨h1, by omega, of_decide_eq_true h3⟩, h.done (.refl sm) (.int _)⟩
  · exact False.elim h

/-! ### comparisons -/
def opC : Cop → CmpOp
  | .eq => .Eq | .ne => .NotEq | .lt => .Lt | .le => .LtE | .gt => .Gt | .ge => .GtE | .isN => .Is | .notN => .IsNot | .inn => .In | .nin => .NotIn
theorem shaped_lay {d : D} (h : SeqAt.shaped d = true) : d.canLay0 = true := SeqAt.canLay_of_shaped h
theorem flat_rp {Hb H : Hp} {v : V} {d : D} {K : PySem.W.Frag} (h : DpR K Hb H v d) (f : flatD d = true) : flatV v = true := by
  cases d with
  | none => rw [h.non]; rfl
  | bool b => rw [h.bl]; rfl
  | int i => rw [h.int]; rfl
  | str x => rw [h.str]; rfl
  | list _ => cases f
  | tuple _ => cases f
  | dict _ => cases f
theorem eqV_eqv {Hb H : Hp} {v w : V} {d e : D} {K : PySem.W.Frag} (h : DpR K Hb H v d) (h' : DpR K Hb H w e) (f : flatD d = true) (f' : flatD e = true) : eqV v w = PyData.eqv d e := by
  cases d with
  | none => rw [h.non]; cases e with
    | none => rw [h'.non]; rfl
    | bool b => rw [h'.bl]; rfl
    | int i => rw [h'.int]; rfl
    | str x => rw [h'.str]; rfl
    | _ => cases f'
  | bool b => rw [h.bl]; cases e with
    | none => rw [h'.non]; rfl
    | bool b => rw [h'.bl]; rfl
    | int i => rw [h'.int]; rfl
    | str x => rw [h'.str]; rfl
    | _ => cases f'
  | int i => rw [h.int]; cases e with
    | none => rw [h'.non]; rfl
    | bool b => rw [h'.bl]; rfl
    | int i => rw [h'.int]; rfl
    | str x => rw [h'.str]; rfl
    | _ => cases f'
  | str x => rw [h.str]; cases e with
    | none => rw [h'.non]; rfl
    | bool b => rw [h'.bl]; rfl
    | int i => rw [h'.int]; rfl
    | str x => rw [h'.str]; rfl
    | _ => cases f'
  | _ => cases f
theorem flat_all {Hb H : Hp} {K : PySem.W.Frag} : ∀ {vs : List V} {ds : List D}, RpAll K Hb vs ds → ds.all flatD = true → vs.all flatV = true
  | _, _, .nil, _ => rfl
  | _, _, .cons h r, f => by
    rw [List.all_cons, Bool.and_eq_true] at f ⊢
    exact ⟨flat_rp (H := H) (.inl h) f.1, flat_all (H := H) r f.2⟩
theorem any_eqv {Hb H : Hp} {K : PySem.W.Frag} {x : V} {d : D} (hx : DpR K Hb H x d) (fx : flatD d = true) : ∀ {vs : List V} {ds : List D}, RpAll K Hb vs ds → ds.all flatD = true → inV x vs = ds.any fun y => PyData.eqv y d
  | _, _, .nil, _ => rfl
  | _, _, .cons h r, f => by
    rw [List.all_cons, Bool.and_eq_true] at f
    have ih := any_eqv hx fx r f.2
    unfold inV at ih ⊢
    rw [List.any_cons, List.any_cons, ih, eqV_eqv (.inl h) hx f.1 fx]
theorem non_iff {Hb H : Hp} {v : V} {d : D} {K : PySem.W.Frag} (h : DpR K Hb H v d) (n : d ≠ .none) : decide (v = .non) = false := decide_eq_false fun e => by
  subst e
  rcases h with h | ⟨_, _, _, z, _⟩
  · cases h
    exact n rfl
  · cases z
theorem in_ok {k : Nat} (hr : Room k X.A) : OpD X ca (compareOp .In) (fun x y => (inD x y).bind boolD) := by
  intro pins s σ Hb H x y v u d e Q E I rx ry sm hx hy h
  dsimp only at h
  unfold inD at h
  split at h
  · rename_i ys
    cases hc : (SeqAt.shaped d && SeqAt.shaped (.list ys)) with
    | false =>
      rw [hc] at h
      exact False.elim h
    | true =>
      rw [hc] at h
      rw [Bool.and_eq_true] at hc
      exact op_inD (by have := hr.un; omega) pins s σ H x y v u Q I rx ry ⟨_, _, (hx.full sm).dp (shaped_lay hc.1), (hy.full sm).dp (shaped_lay hc.2), hc.1, hc.2, h.done (.refl sm) (.bl _)⟩
  · rename_i ys
    cases hc : (flatD d && ys.all flatD) with
    | false =>
      rw [hc] at h
      exact False.elim h
    | true =>
      rw [hc] at h
      rw [Bool.and_eq_true] at hc
      obtain ⟨p, vs, rfl, hp, ha⟩ := hy.tup sm
      refine op_in_seq pins s σ H x _ v u Q I rx ry ⟨p, vs, rfl, .inr (.of hp), flat_rp hx hc.1, flat_all (H := H) ha hc.2, ?_⟩
      show Q (.bl (inV x vs)) H
      rw [any_eqv hx hc.1 ha hc.2]
      exact h.done (.refl sm) (.bl _)
  · rename_i z
    split at h
    · rename_i y
      have e1 := hx.str; have e2 := hy.str; subst e1 e2
      exact op_in_str pins s σ H _ _ v u Q I rx ry ⟨y, z, rfl, rfl, h.done (.refl sm) (.bl _)⟩
    · exact False.elim h
  · exact False.elim h
theorem nin_ok {k : Nat} (hr : Room k X.A) : OpD X ca (compareOp .NotIn) (fun x y => ((inD x y).bind fun b => Rs.ok (!b)).bind boolD) := by
  intro pins s σ Hb H x y v u d e Q E I rx ry sm hx hy h
  dsimp only at h
  unfold inD at h
  split at h
  · rename_i ys
    cases hc : (SeqAt.shaped d && SeqAt.shaped (.list ys)) with
    | false =>
      rw [hc] at h
      exact False.elim h
    | true =>
      rw [hc] at h
      rw [Bool.and_eq_true] at hc
      exact op_notInD (by have := hr.un; omega) pins s σ H x y v u Q I rx ry ⟨_, _, (hx.full sm).dp (shaped_lay hc.1), (hy.full sm).dp (shaped_lay hc.2), hc.1, hc.2, h.done (.refl sm) (.bl _)⟩
  · rename_i ys
    cases hc : (flatD d && ys.all flatD) with
    | false =>
      rw [hc] at h
      exact False.elim h
    | true =>
      rw [hc] at h
      rw [Bool.and_eq_true] at hc
      obtain ⟨p, vs, rfl, hp, ha⟩ := hy.tup sm
      refine op_notIn_seq pins s σ H x _ v u Q I rx ry ⟨p, vs, rfl, .inr (.of hp), flat_rp hx hc.1, flat_all (H := H) ha hc.2, ?_⟩
      show Q (.bl (!inV x vs)) H
      rw [any_eqv hx hc.1 ha hc.2]
      exact h.done (.refl sm) (.bl _)
  · rename_i z
    split at h
    · rename_i y
      have e1 := hx.str; have e2 := hy.str; subst e1 e2
      exact op_notIn_str pins s σ H _ _ v u Q I rx ry ⟨y, z, rfl, rfl, h.done (.refl sm) (.bl _)⟩
    · exact False.elim h
  · exact False.elim h
theorem cmp_ok {k : Nat} (hr : Room k X.A) (o : Cop) : OpD X ca (compareOp (opC o)) (fun x y => (cmpD o x y).bind boolD) := by
  intro pins s σ Hb H x y v u d e Q E I rx ry sm hx hy h
  dsimp only at h
  unfold cmpD at h
  split at h
  · cases hc : (SeqAt.shaped d && SeqAt.shaped e) with
    | false =>
      rw [hc] at h
      exact False.elim h
    | true =>
      rw [hc] at h
      rw [Bool.and_eq_true] at hc
      exact op_eqD hr.units pins s σ H x y v u Q I rx ry ⟨_, _, (hx.full sm).dp (shaped_lay hc.1), (hy.full sm).dp (shaped_lay hc.2), hc.1, hc.2, h.done (.refl sm) (.bl _)⟩
  · cases hc : (SeqAt.shaped d && SeqAt.shaped e) with
    | false =>
      rw [hc] at h
      exact False.elim h
    | true =>
      rw [hc] at h
      rw [Bool.and_eq_true] at hc
      exact op_neD hr.units pins s σ H x y v u Q I rx ry ⟨_, _, (hx.full sm).dp (shaped_lay hc.1), (hy.full sm).dp (shaped_lay hc.2), hc.1, hc.2, h.done (.refl sm) (.bl _)⟩
  · have e1 := hx.int; have e2 := hy.int; subst e1 e2
    exact op_lt pins s σ H _ _ v u Q I rx ry ⟨_, _, rfl, rfl, h.done (.refl sm) (.bl _)⟩
  · have e1 := hx.int; have e2 := hy.int; subst e1 e2
    exact op_le pins s σ H _ _ v u Q I rx ry ⟨_, _, rfl, rfl, h.done (.refl sm) (.bl _)⟩
  · have e1 := hx.int; have e2 := hy.int; subst e1 e2
    exact op_gt pins s σ H _ _ v u Q I rx ry ⟨_, _, rfl, rfl, h.done (.refl sm) (.bl _)⟩
  · have e1 := hx.int; have e2 := hy.int; subst e1 e2
    exact op_ge pins s σ H _ _ v u Q I rx ry ⟨_, _, rfl, rfl, h.done (.refl sm) (.bl _)⟩
  · have e1 := hx.non; have e2 := hy.non; subst e1 e2
    exact op_isN pins s σ H _ _ v u Q I rx ry ⟨rfl, h.done (.refl sm) (.bl _)⟩
  · rename_i hn
    have e2 := hy.non; subst e2
    refine op_isN pins s σ H _ _ v u Q I rx ry ⟨rfl, ?_⟩
    rw [non_iff hx (hn)]
    exact h.done (.refl sm) (.bl _)
  · have e1 := hx.non; have e2 := hy.non; subst e1 e2
    exact op_notN pins s σ H _ _ v u Q I rx ry ⟨rfl, h.done (.refl sm) (.bl _)⟩
  · rename_i hn
    have e2 := hy.non; subst e2
    refine op_notN pins s σ H _ _ v u Q I rx ry ⟨rfl, ?_⟩
    rw [non_iff hx (hn)]
    exact h.done (.refl sm) (.bl _)
  · exact in_ok hr pins s σ Hb H x y v u d e Q E I rx ry sm hx hy h
  · exact nin_ok hr pins s σ Hb H x y v u d e Q E I rx ry sm hx hy h
  · exact False.elim h
end
end Ip

set_option maxHeartbeats 4000000
namespace Ip
open PySem PySem.Spec PyProof.Rows L2
/-- a call of values, told by data -/
def ClD (X : Cx) (ca : Nat → Addr) (f : Value) (o : List D → Rs D) : Prop :=
  ∀ (pins : List (Addr × Obj)) (s : Shared) (σ : L2.St) (Hb H : Hp) (vs : List V) (us : List Value) (ds : List D) (Q : VK) (E : XK), Inv X pins σ H s → Vals vs us → Same Hb H → RAll X.K Hb H vs ds →
    Post X.K ca Hb H (o ds) Q E → wpAny (model X.prog X.w) X.A (call f us) (EP X pins σ Q) X.xe s
section
variable {X : Cx} {ca : Nat → Addr}
theorem ra1 {K : PySem.W.Frag} {Hb H : Hp} {vs : List V} {d : D} (h : RAll K Hb H vs [d]) : ∃ v, vs = [v] ∧ DpR K Hb H v d := by
  cases h with
  | cons a b =>
    cases b
    exact ⟨_, rfl, a⟩
theorem ra2 {K : PySem.W.Frag} {Hb H : Hp} {vs : List V} {d e : D} (h : RAll K Hb H vs [d, e]) : ∃ v w, vs = [v, w] ∧ DpR K Hb H v d ∧ DpR K Hb H w e := by
  cases h with
  | cons a b =>
    cases b with
    | cons b c =>
      cases c
      exact ⟨_, _, rfl, a, b⟩
/-- a scalar answer, no heap -/
theorem sc {K : PySem.W.Frag} {Hb H : Hp} {Q : VK} {E : XK} {d : D} {v : V} (sm : Same Hb H) (h : Post K ca Hb H (.ok d) Q E) (r : Rp K Hb v d) : Q v H := h.done (.refl sm) r
theorem log_lt {n : Nat} (h : n < 2 ^ 64) : n.log2 < 1920 := by
  by_cases z : n = 0
  · rw [z]; decide
  · have := (Nat.log2_lt z).mpr h
    omega
theorem len_ok : ClD X ca (.builtin "len") lenF := by
  intro pins s σ Hb H vs us ds Q E I r sm ra h
  unfold lenF at h
  split at h
  · rename_i xs
    obtain ⟨v, rfl, hv⟩ := ra1 ra
    rcases hv with hv | ⟨_, _, _, _, z, _⟩
    · obtain ⟨a, ns, rfl, ez, hq⟩ : ∃ (a : Addr) (ns : List Int), v = .ref a ∧ xs = ns.map PyData.int ∧ SqL X.K Hb a (ns.map V.int) := by
        generalize hd : (PyData.dict [(.list xs, .none)]) = d at hv
        cases hv with
        | scr q =>
          unfold scrD at hd
          injection hd with hd
          injection hd with hd _
          injection hd with hd _
          injection hd with hd
          exact ⟨_, _, rfl, hd, q⟩
        | _ => cases hd
      subst ez
      refine call_len_seq pins s σ H _ us Q I r ⟨a, _, rfl, .inl (sm.seq hq), ?_⟩
      have := sc sm h (.int _)
      rw [List.length_map] at this ⊢
      exact this
    · cases z
  · obtain ⟨v, rfl, hv⟩ := ra1 ra
    obtain ⟨p, ws, rfl, hp, ha⟩ := hv.lst sm
    refine call_len_seq pins s σ H _ us Q I r ⟨p, ws, rfl, .inl (.of hp), ?_⟩
    rw [ha.length]
    exact sc sm h (.int _)
  · obtain ⟨v, rfl, hv⟩ := ra1 ra
    obtain ⟨p, ws, rfl, hp, ha⟩ := hv.tup sm
    refine call_len_seq pins s σ H _ us Q I r ⟨p, ws, rfl, .inr (.of hp), ?_⟩
    rw [ha.length]
    exact sc sm h (.int _)
  · obtain ⟨hl, h⟩ := post_ifP h
    obtain ⟨v, rfl, hv⟩ := ra1 ra
    have e := hv.str; subst e
    exact call_len_str pins s σ H _ us Q I r ⟨_, rfl, limS hl, sc sm h (.int _)⟩
  · exact False.elim h
theorem int1_ok : ClD X ca (.type "int") int1F := by
  intro pins s σ Hb H vs us ds Q E I r sm ra h
  unfold int1F at h
  split at h
  · obtain ⟨v, rfl, hv⟩ := ra1 ra
    have e := hv.int; subst e
    exact call_int1 pins s σ H _ us Q I r (.inl ⟨_, rfl, sc sm h (.int _)⟩)
  · obtain ⟨v, rfl, hv⟩ := ra1 ra
    have e := hv.bl; subst e
    exact call_int1 pins s σ H _ us Q I r (.inr ⟨_, rfl, sc sm h (.int _)⟩)
  · exact False.elim h
theorem strI_ok : ClD X ca (.type "str") strIF := by
  intro pins s σ Hb H vs us ds Q E I r sm ra h
  unfold strIF at h
  split at h
  · rename_i i
    obtain ⟨v, rfl, hv⟩ := ra1 ra
    have e := hv.int; subst e
    split at h
    · rename_i hz
      exact call_str_int pins s σ H _ us Q I r ⟨i, rfl, log_lt hz, sc sm h (.str _)⟩
    · exact False.elim h
  · exact False.elim h
theorem show_ref {pins : List (Addr × Obj)} {s : Shared} {σ : L2.St} {H : Hp} {v : V} {u : Value} {d : D} {Q : VK} {k : Nat} (hr : Room k X.A) (hg : X.A.guards = some []) (I : Inv X pins σ H s) (rv : RelV v u) (hd : Rp X.K H v d) (hs : shwOk d = true) (hu : ∃ a, u = .ref a) (q : Q (.str d.shown) H) : wpAny (model X.prog X.w) X.A (call (.type "str") [u]) (EP X pins σ Q) X.xe s := by
  unfold shwOk at hs
  rw [Bool.and_eq_true, Bool.and_eq_true, Bool.and_eq_true] at hs
  obtain ⟨h1, h2, h3, h4⟩ := hs
  unfold SeqAt.shaped at h1
  rw [Bool.and_eq_true] at h1
  have hdp := hd.dp h1.1
  obtain ⟨as, rd⟩ := Dp.reads I d v u hdp rv
  obtain ⟨a, rfl⟩ := hu
  have hz := of_decide_eq_true h4
  have hdd := of_decide_eq_true h1.2
  have nd : d.hasDict = false := by cases z : d.hasDict <;> rw [z] at h3 <;> first | rfl | cases h3
  have hun := hr.un
  refine str_of_reads rd h2 (fun z => by rw [nd] at z; cases z) hg (by omega) (fun _ _ e => e) (fun h' u tk hk => ?_) (Nat.le_trans hz (by decide))
  exact ⟨.str d.shown, H, I.kept hk, ⟨u, rfl⟩, q⟩
theorem show_ok {k : Nat} (hr : Room k X.A) (hg : X.A.guards = some []) : ClD X ca (.type "str") showF := by
  intro pins s σ Hb H vs us ds Q E I r sm ra h
  unfold showF at h
  split at h
  · obtain ⟨v, rfl, hv⟩ := ra1 ra
    have e := hv.non; subst e
    obtain ⟨u, rfl, ru⟩ := r.one
    cases (show u = Value.none from ru)
    exact P.str_of_none ⟨.str "None", H, I.tok _, ⟨_, rfl⟩, sc sm h (.str _)⟩
  · rename_i i
    obtain ⟨v, rfl, hv⟩ := ra1 ra
    have e := hv.int; subst e
    split at h
    · rename_i hz
      exact call_str_int pins s σ H _ us Q I r ⟨i, rfl, log_lt hz, sc sm h (.str _)⟩
    · exact False.elim h
  · rename_i xs
    obtain ⟨v, rfl, hv⟩ := ra1 ra
    obtain ⟨u, rfl, ru⟩ := r.one
    split at h
    · rename_i hz
      obtain ⟨p, ws, rfl, hp, ha⟩ := hv.lst sm
      exact show_ref hr hg I ru (hv.full sm) hz ⟨p, ru⟩ (sc sm h (.str _))
    · exact False.elim h
  · rename_i xs
    obtain ⟨v, rfl, hv⟩ := ra1 ra
    obtain ⟨u, rfl, ru⟩ := r.one
    split at h
    · rename_i hz
      obtain ⟨p, ws, rfl, hp, ha⟩ := hv.tup sm
      exact show_ref hr hg I ru (hv.full sm) hz ⟨p, ru⟩ (sc sm h (.str _))
    · exact False.elim h
  · exact False.elim h
theorem min2_ok (hc : X.calm = true) : ClD X ca (.builtin "min") min2F := by
  intro pins s σ Hb H vs us ds Q E I r sm ra h
  unfold min2F at h
  split at h
  · obtain ⟨v, w, rfl, hv, hw⟩ := ra2 ra
    have e := hv.int; have e2 := hw.int; subst e e2
    exact call_min2 hc pins s σ H _ us Q I r ⟨_, _, rfl, sc sm h (.int _)⟩
  · exact False.elim h
theorem max2_ok (hc : X.calm = true) : ClD X ca (.builtin "max") max2F := by
  intro pins s σ Hb H vs us ds Q E I r sm ra h
  unfold max2F at h
  split at h
  · obtain ⟨v, w, rfl, hv, hw⟩ := ra2 ra
    have e := hv.int; have e2 := hw.int; subst e e2
    exact call_max2 hc pins s σ H _ us Q I r ⟨_, _, rfl, sc sm h (.int _)⟩
  · exact False.elim h
theorem sum_ok (hc : X.calm = true) : ClD X ca (.builtin "sum") sumF := by
  intro pins s σ Hb H vs us ds Q E I r sm ra h
  unfold sumF at h
  split at h
  · obtain ⟨v, rfl, hv⟩ := ra1 ra
    split at h
    · rename_i ns e
      obtain ⟨p, ws, rfl, hp, ha⟩ := hv.lst sm
      have ew := ha.intsOfV e
      subst ew
      exact cr_sum hc pins s σ H _ us Q I r ⟨p, ns, rfl, .of hp, sc sm h (.int _)⟩
    · exact False.elim h
  · exact False.elim h
theorem tuple_ok : ClD X ca (.type "tuple") tupleF := by
  intro pins s σ Hb H vs us ds Q E I r sm ra h
  unfold tupleF at h
  split at h
  · obtain ⟨v, rfl, hv⟩ := ra1 ra
    obtain ⟨p, ws, rfl, hp, ha⟩ := hv.lst sm
    exact call_tuple_of pins s σ H _ us Q I r ⟨p, ws, rfl, .inl ⟨.of hp, fun l hl => h.done (Gr.lay sm hl) (.tup upd_same (ha.mono (Gr.lay sm hl).b))⟩⟩
  · obtain ⟨v, rfl, hv⟩ := ra1 ra
    rcases id hv with hv' | ⟨_, _, _, _, z, _⟩
    · obtain ⟨p, ws, rfl, hp, ha⟩ := hv.tup sm
      exact call_tuple_of pins s σ H _ us Q I r ⟨p, ws, rfl, .inr ⟨.of hp, sc sm h hv'⟩⟩
    · cases z
  · exact False.elim h
theorem list_ok : ClD X ca (.type "list") listF := by
  intro pins s σ Hb H vs us ds Q E I r sm ra h
  unfold listF at h
  split at h
  · obtain ⟨v, rfl, hv⟩ := ra1 ra
    obtain ⟨p, ws, rfl, hp, ha⟩ := hv.lst sm
    exact call_list_of pins s σ H _ us Q I r ⟨p, ws, rfl, .inl (.of hp), fun l hl => h.done (Gr.lay sm hl) (.lst upd_same (ha.mono (Gr.lay sm hl).b))⟩
  · obtain ⟨v, rfl, hv⟩ := ra1 ra
    obtain ⟨p, ws, rfl, hp, ha⟩ := hv.tup sm
    exact call_list_of pins s σ H _ us Q I r ⟨p, ws, rfl, .inr (.of hp), fun l hl => h.done (Gr.lay sm hl) (.lst upd_same (ha.mono (Gr.lay sm hl).b))⟩
  · exact False.elim h
/-! sorted -/
theorem each_of {K : PySem.W.Frag} {Hb : Hp} {R : Value → D → Prop} : ∀ {vs : List V} {us : List Value} {ds : List D}, Vals vs us → RpAll K Hb vs ds → (∀ v u d, RelV v u → Rp K Hb v d → R u d) → PySem.W.EachIs R us ds
  | _, _, _, .nil, .nil, _ => .nil
  | _, _, _, .cons r rr, .cons h hr, f => .cons (f _ _ _ r h) (each_of rr hr f)
theorem of_each {K : PySem.W.Frag} {Hb : Hp} : ∀ {us : List Value} {ds : List D}, PySem.W.EachIs (fun u d => ∃ v, RelV v u ∧ Rp K Hb v d) us ds → ∃ vs, Vals vs us ∧ RpAll K Hb vs ds
  | _, _, .nil => ⟨[], .nil, .nil⟩
  | _, _, .cons h r => by
    obtain ⟨v, h1, h2⟩ := h
    obtain ⟨vs, h3, h4⟩ := of_each r
    exact ⟨v :: vs, .cons h1 h3, .cons h2 h4⟩
theorem all_mem {p : D → Bool} {ds : List D} (h : ds.all p = true) {d : D} (m : d ∈ ds) : p d = true := List.all_eq_true.mp h d m
theorem lay_mem : ∀ {ds : List D} {d : D}, PyData.canLayAll0 ds = true → d ∈ ds → d.canLay0 = true
  | [], _, _, m => by cases m
  | e :: r, d, h, m => by
    rw [PyData.canLayAll0, Bool.and_eq_true] at h
    rcases List.mem_cons.mp m with z | z
    · rw [z]
      exact h.1
    · exact lay_mem h.2 z
theorem depth_mem : ∀ {ds : List D} {d : D}, d ∈ ds → d.depth ≤ PyData.depthAll ds
  | e :: r, d, m => by
    rw [PyData.depthAll]
    rcases List.mem_cons.mp m with z | z
    · rw [z]
      exact Nat.le_max_left _ _
    · exact Nat.le_trans (depth_mem z) (Nat.le_max_right _ _)
theorem rp_mem {K : PySem.W.Frag} {Hb : Hp} : ∀ {vs : List V} {us : List Value} {ds : List D}, Vals vs us → RpAll K Hb vs ds → PySem.W.EachIs (fun u d => d ∈ ds ∧ ∃ v, RelV v u ∧ Rp K Hb v d) us ds
  | _, _, _, .nil, .nil => .nil
  | _, _, _, .cons r rr, .cons h hr => .cons ⟨List.mem_cons_self, _, r, h⟩ ((rp_mem rr hr).mono fun _ _ z => ⟨List.mem_cons_of_mem _ z.1, z.2⟩)
theorem sort_ok {k : Nat} (hr : Room k X.A) : ClD X ca (.builtin "sorted") sortF := by
  intro pins s σ Hb H vs us ds Q E I r sm ra h
  unfold sortF at h
  split at h
  · rename_i xs
    obtain ⟨hc, h⟩ := post_if h
    unfold sortOk at hc
    rw [Bool.and_eq_true, Bool.and_eq_true, Bool.and_eq_true, Bool.or_eq_true] at hc
    obtain ⟨⟨⟨h1, h2⟩, h3⟩, h4⟩ := hc
    have h3 := of_decide_eq_true h3
    obtain ⟨v, rfl, hv⟩ := ra1 ra
    obtain ⟨p, ws, rfl, hp, ha⟩ := hv.lst sm
    obtain ⟨its, rv, pl, hz⟩ := I.list (.of hp)
    rw [Vals.ref1 r]
    have lay : PyData.canLayAll0 xs = true := by
      have := SeqAt.canLay_of_shaped h4
      rw [PyData.canLay0] at this
      exact this
    have dep : PyData.depthAll xs + 1 ≤ 64 := by
      have := SeqAt.depth_of_shaped h4
      rw [PyData.depth] at this
      exact this
    refine PySem.W.sorted_data (enc := id) (bs := xs) (R := fun u d => ∃ v, RelV v u ∧ Rp X.K Hb v d) pl.isList (each_of rv ha fun v u d q z => ⟨v, q, z⟩) ((rp_mem rv ha).mono fun u d z => ?_) ?_ ?_ (limS h3) (fun d m => ?_) fun out ho eo => ?_
    · obtain ⟨m, v, q, z⟩ := z
      exact Dp.reads I d v u ((z.mono sm).dp (lay_mem lay m)) q
    · rw [List.map_id]
      exact fun d m d' m' => all_mem (all_mem h1 m) m'
    · rw [List.map_id]
      rcases h2 with h2 | h2
      · refine .inl fun d m => ?_
        have := all_mem h2 m
        cases d with
        | tuple ys =>
          cases ys with
          | nil => cases this
          | cons y r => exact ⟨y, r, rfl⟩
        | _ => cases this
      · refine .inr fun d m => ?_
        have := all_mem h2 m
        cases d with
        | none => cases this
        | tuple ys => cases this
        | _ => exact ⟨(fun z => by cases z), (fun _ z => by cases z)⟩
    · have := depth_mem m
      have := hr.un
      show X.A.units + 2 + d.depth < cLine
      omega
    · obtain ⟨ws', rv', ha'⟩ := of_each eo
      obtain ⟨ep, he'⟩ := PyProof.Rows.sortedAll_at s.heap its (List.toArray out)
      have fr : H (s.heap.objs.size + 1) = none := I.hok.fresh (Nat.le_succ _)
      have hlen : ws'.length ≤ sizeLine := by
        rw [ha'.length, List.length_mergeSort]
        exact limS h3
      exact ⟨.ref _, upd H (s.heap.objs.size + 1) (.lst ws'), I.laid (t' := s.toks) (fun _ _ => PyProof.Rows.sortedAll_old) (Nat.le_succ _) ⟨hlen, out, ep, rv', he'⟩, rfl, h.done (Gr.lay sm fr) (.lst upd_same (ha'.mono (Gr.lay sm fr).b))⟩
  · exact False.elim h
end
end Ip

set_option maxHeartbeats 4000000
namespace Ip
open PySem PySem.Spec PyProof.Rows L2
/-! ### t[::-1] of a tuple -/
section
variable {prog : Program} {w : World} {A : Around} {E : Value → Shared → Prop} {s : Shared}
theorem rev_places (n : Nat) : Builtin.Slice.sliceAdjust none none (-1) (n : Int) = ((n : Int) - 1, -1) ∧ Builtin.Slice.slicePlaces ((n : Int) - 1) (-1) (-1) = n := by
  constructor
  · rfl
  · unfold Builtin.Slice.slicePlaces
    rw [if_neg (by decide), show (-(-1 : Int)) = 1 from rfl, Int.ediv_one]
    split <;> omega
theorem rev_pick (xs : Array Value) : ((List.range xs.size).filterMap fun (m : Nat) => xs[((xs.size : Int) - 1 + (m : Int) * (-1)).toNat]?).toArray = xs.toList.reverse.toArray := by
  congr 1
  have e : ∀ m ∈ List.range xs.size, xs[((xs.size : Int) - 1 + (m : Int) * (-1)).toNat]? = some (xs.toList.reverse.getD m Value.none) := fun m hm => by
    have hm := List.mem_range.mp hm
    rw [show ((xs.size : Int) - 1 + (m : Int) * (-1)).toNat = xs.size - 1 - m by omega, List.getD_eq_getElem?_getD, List.getElem?_reverse (by rw [Array.length_toList]; exact hm), Array.length_toList, Array.getElem?_toList, Array.getElem?_eq_getElem (by omega)]
    rfl
  have fc : ∀ {l : List Nat} {f g : Nat → Option Value}, (∀ m ∈ l, f m = g m) → l.filterMap f = l.filterMap g := fun {l f g} hfg => by
    induction l with
    | nil => rfl
    | cons m r ih => rw [List.filterMap_cons, List.filterMap_cons, hfg m List.mem_cons_self, ih fun y hy => hfg y (List.mem_cons_of_mem _ hy)]
  rw [fc e]
  apply List.ext_getElem?
  intro i
  rw [show (fun m => some (xs.toList.reverse.getD m Value.none)) = some ∘ (fun m => xs.toList.reverse.getD m Value.none) from rfl, List.filterMap_eq_map, List.getElem?_map]
  by_cases hi : i < xs.size
  · rw [List.getElem?_range hi, Option.map_some, List.getD_eq_getElem?_getD, List.getElem?_eq_getElem (by rw [List.length_reverse, Array.length_toList]; exact hi)]
    rfl
  · rw [List.getElem?_eq_none (by rw [List.length_range]; omega), List.getElem?_eq_none (by rw [List.length_reverse, Array.length_toList]; omega)]
    rfl
theorem slice_rev {sl : Addr} {vl vu vs : Value} {n : Nat} {Q : Int × Int × Nat → Shared → Prop} (hs : s.heap.IsSliceOf sl vl vu vs) (pl : IsPart vl none) (pu : IsPart vu none) (pv : IsPart vs (some (-1))) (h : Q ((n : Int) - 1, -1, n) s) :
    wpAny (model prog w) A (Builtin.Slice.sliceApplied (.ref sl) (pure (n : Int))) Q E s := by
  obtain ⟨os, e1, e2, e3⟩ := id hs
  unfold Builtin.Slice.sliceApplied Builtin.Slice.sliceFields
  refine wpAny_bind (wpAny_bind (wpAny_field e1 e3 (x := vl) rfl (wpAny_bind (wpAny_field e1 e3 (x := vu) rfl (wpAny_bind (wpAny_field e1 e3 (x := vs) rfl (wpAny_pure ?_)))))))
  refine wpAny_bind (HT.slicePart_ pv ?_)
  show wpAny _ _ (if ((-1 : Int) == 0) = true then _ else _) _ _ s
  rw [if_neg (by decide)]
  refine wpAny_bind (HT.slicePart_ pl (wpAny_bind (HT.slicePart_ pu (wpAny_bind (wpAny_pure ?_)))))
  show wpAny _ _ (match Builtin.Slice.sliceAdjust none none (-1) (n : Int) with | (lo, hi) => pure (lo, (-1 : Int), Builtin.Slice.slicePlaces lo hi (-1))) _ _ s
  rw [(rev_places n).1]
  show wpAny _ _ (pure ((n : Int) - 1, (-1 : Int), Builtin.Slice.slicePlaces ((n : Int) - 1) (-1) (-1))) _ _ s
  rw [(rev_places n).2]
  exact wpAny_pure h
theorem tuple_rev {t sl : Addr} {items : Array Value} {vl vu vs : Value} {Q : Value → Shared → Prop} (ht : IsTup s.heap t items) (hs : s.heap.IsSliceOf sl vl vu vs) (pl : IsPart vl none) (pu : IsPart vu none) (pv : IsPart vs (some (-1)))
    (h : Q (.ref s.heap.objs.size) { s with heap := s.heap.push { cls := .type "tuple", data := .seq items.toList.reverse.toArray } }) (hsz : items.size ≤ sizeLine) : wpAny (model prog w) A (getItem (.ref t) (.ref sl)) Q E s := by
  have fit : sizeOk (.seq items.toList.reverse.toArray) := by
    show items.toList.reverse.toArray.size ≤ sizeLine
    rw [List.size_toArray, List.length_reverse, Array.length_toList]
    exact hsz
  obtain ⟨os, e1, e2, e3⟩ := id hs
  have hTs : s.TypeIs (.ref sl) "slice" := ⟨os, e1, e2⟩
  unfold getItem
  try with_reducible refine wpAny_holding ?_
  first | refine wpAny_bind (wpAny_pure ?_) | skip
  refine wpAny_bind (wpAny_sequenceKey ht.typeIs (by decide) ?_)
  refine wpAny_bind (wpAny_callSpecial?_slot (name := Str.ofString "__getitem__") ht.typeIs PyProof.Rows.slot_tuple_getitem (wpAny_call_entry PyProof.Rows.slot_tuple_getitem ht.typeIs entry_tuple_getitem ?_ (args_tuple_getitem _ _)))
  show wpAny _ _ (Builtin.Tuple.tupleItemsOf (.ref t) >>= _) _ _ s
  refine wpAny_bind (tupleItemsOf_ ht (wpAny_bind (wpAny_typeOf hTs ?_)))
  rw [if_pos (by decide)]
  refine wpAny_bind (slice_rev hs pl pu pv ?_)
  have hno : ¬ (((items.size : Int) - 1 == 0 && (-1 : Int) == 1 && items.size == items.size) = true) := by
    rw [show ((-1 : Int) == 1) = false from rfl, Bool.and_false, Bool.false_and]
    exact Bool.false_ne_true
  show wpAny _ _ (if (((items.size : Int) - 1 == 0 && (-1 : Int) == 1 && items.size == items.size)) = true then _ else _) _ _ s
  rw [if_neg hno, rev_pick]
  first
    | exact wpAny_bind (m := Builtin.Tuple.tupleExact _) (wpAny_newObj_type (wpAny_pure ⟨_, rfl, wpAny_pure h⟩) fit)
    | exact wpAny_bind (m := Builtin.Tuple.tupleExact _) (wpAny_newObj_type (wpAny_bind (wpAny_pure (wpAny_pure ⟨_, rfl, wpAny_pure h⟩))) fit)
    | exact wpAny_bind (wpAny_bind (m := Builtin.Tuple.tupleExact _) (wpAny_newObj_type (wpAny_pure (wpAny_pure ⟨_, rfl, wpAny_pure h⟩)) fit))
    | exact wpAny_bind (wpAny_bind (m := Builtin.Tuple.tupleExact _) (wpAny_newObj_type (wpAny_pure ⟨_, rfl, wpAny_pure h⟩) fit))
end
section
variable {X : Cx} {ca : Nat → Addr}
def tRevS (K : PySem.W.Frag) (te : TE) : TE := fun σ H Q => te σ H fun x H1 => ∃ a xs, x = .ref a ∧ ((SqL K H1 a xs ∧ ∀ p, H1 p = none → Q (.ref p) (upd H1 p (.lst xs.reverse))) ∨ (SqT K H1 a xs ∧ ∀ p, H1 p = none → Q (.ref p) (upd H1 p (.tup xs.reverse))))
theorem pe_revS {e : Expr} {te : TE} {k : Nat} {p1 p2 p3 pos : Pos} (he : PE X e te) : PE X (.Subscript e (.Slice none none (some (.UnaryOp .USub (.Constant (.int 1) k p1) p2)) p3) pos) (tRevS X.K te) := by
  refine ⟨fun pins s σ H Q I h => ?_⟩
  refine Subscript_ (thn (he.run pins s σ H _ I h) fun v s1 ⟨x, H1, I1, r1, q1⟩ => ?_)
  obtain ⟨a, xs, rfl, q⟩ := q1
  cases r1
  have hst : PO X (some (.UnaryOp .USub (.Constant (.int 1) k p1) p2)) (tPart (tUn (rU fun i => .int (-i)) (tC (.int 1)))) := po_some (pe_un un_neg pe_int)
  refine wpAny_Slice (thn (po_none.run pins s1 σ H1 (fun o G => o = none ∧ G = H1) I1 ⟨rfl, rfl⟩) fun vl s2 ⟨l, H2, I2, pl, el, e2⟩ => ?_)
  subst el e2
  refine thn (po_none.run pins s2 σ H2 (fun o G => o = none ∧ G = H2) I2 ⟨rfl, rfl⟩) fun vu s3 ⟨u, H3, I3, pu, eu, e3⟩ => ?_
  subst eu e3
  refine thn (hst.run pins s3 σ H3 (fun o G => o = some (-1) ∧ G = H3) I3 ⟨1, rfl, -1, rfl, rfl, rfl⟩) fun vs s4 ⟨o, H4, I4, ps, eo, e4⟩ => ?_
  subst eo e4
  have I5 : Inv X pins σ H4 { s4 with heap := s4.heap.push { cls := .type "slice", data := .fields #[vl, vu, vs] } } := I4.kept (t' := s4.toks) fun b ob q => Heap.get?_push_of_some _ q
  rcases q with ⟨hx, q⟩ | ⟨hx, q⟩
  · obtain ⟨its, r, ht, hz⟩ := I5.list hx
    show wpAny (model X.prog X.w) X.A (subscriptTail e (.Slice none none (some (.UnaryOp .USub (.Constant (.int 1) k p1) p2)) p3) (.ref a) (.ref s4.heap.objs.size)) (EP X pins σ Q) X.xe _
    refine tail_any (ops := [.ref a, .ref s4.heap.objs.size]) ht.isList.typeIs PySem.slot_list_getitem.lookup (wpAny_getItem_list_slice ht.isList (Heap.IsSliceOf.new _ vl vu vs) pl pu ps (by decide) ?_ (by rw [List.size_toArray, ← r.length]; exact hz)) (by with_unfolding_all rfl)
    rw [PySem.W.krv_pick]
    exact ⟨.ref _, _, I5.laid (t' := s4.toks) (o := .lst xs.reverse) (fun b ob q => Heap.get?_push_of_some _ q) (Nat.le_refl _) ⟨by rw [List.length_reverse]; exact hz, _, 0, r.reverse, Heap.get?_push_size _ rfl⟩, rfl, q _ (I5.hok.fresh (Nat.le_refl _))⟩
  · obtain ⟨its, r, ht, hz⟩ := I5.tuple hx
    show wpAny (model X.prog X.w) X.A (subscriptTail e (.Slice none none (some (.UnaryOp .USub (.Constant (.int 1) k p1) p2)) p3) (.ref a) (.ref s4.heap.objs.size)) (EP X pins σ Q) X.xe _
    refine tail_any (ops := [.ref a, .ref s4.heap.objs.size]) ht.typeIs PyProof.Rows.slot_tuple_getitem.lookup (tuple_rev ht (Heap.IsSliceOf.new _ vl vu vs) pl pu ps ?_ (by rw [List.size_toArray, ← r.length]; exact hz)) (by with_unfolding_all rfl)
    exact ⟨.ref _, _, I5.laid (t' := s4.toks) (o := .tup xs.reverse) (fun b ob q => Heap.get?_push_of_some _ q) (Nat.le_refl _) ⟨by rw [List.length_reverse]; exact hz, _, r.reverse, IsTup.new _ _⟩, rfl, q _ (I5.hok.fresh (Nat.le_refl _))⟩
/-! ### min, max of one list or tuple -/
theorem reads_ints {h : Heap} : ∀ {ns : List Int} {us : List Value}, Vals (ns.map V.int) us → ∃ as, ReadsAll h us (ns.map .int) as
  | [], us, r => by
    cases r
    exact ⟨_, .nil⟩
  | n :: r, us, rv => by
    cases rv with
    | cons h1 h2 =>
      obtain ⟨t, rfl⟩ := h1
      obtain ⟨as, h3⟩ := reads_ints h2
      exact ⟨_, .cons (.int n t) h3⟩
theorem alike_ints' {ns : List Int} : PySem.W.AlikeAll (ns.map .int) := by
  refine ⟨fun x hx y hy => ?_, fun x hx => ?_⟩
  · obtain ⟨i, _, rfl⟩ := List.mem_map.mp hx
    obtain ⟨j, _, rfl⟩ := List.mem_map.mp hy
    rfl
  · obtain ⟨i, _, rfl⟩ := List.mem_map.mp hx
    intro z
    cases z
theorem depth_ints : ∀ ns : List Int, PyData.depthAll (ns.map .int) = 0
  | [] => by rw [List.map_nil, PyData.depthAll]
  | n :: r => by rw [List.map_cons, PyData.depthAll, depth_ints r, PyData.depth]; rfl
theorem items_v {K : PySem.W.Frag} {Hb H : Hp} {v : V} {d : D} {xs : List D} {ns : List Int} (sm : Same Hb H) (hv : DpR K Hb H v d) (hi : items d = some xs) (e : intsOf xs = some ns) : ∃ p, v = .ref p ∧ (H p = some (.lst (ns.map V.int)) ∨ H p = some (.tup (ns.map V.int))) := by
  cases d with
  | list ys =>
    cases hi
    obtain ⟨p, ws, rfl, hp, ha⟩ := hv.lst sm
    rw [ha.intsOfV e] at hp
    exact ⟨p, rfl, .inl hp⟩
  | tuple ys =>
    cases hi
    obtain ⟨p, ws, rfl, hp, ha⟩ := hv.tup sm
    rw [ha.intsOfV e] at hp
    exact ⟨p, rfl, .inr hp⟩
  | _ => cases hi
theorem minS_ok {k : Nat} (hc : X.calm = true) (hr : Room k X.A) : ClD X ca (.builtin "min") minSF := by
  intro pins s σ Hb H vs us ds Q E I r sm ra h
  unfold minSF at h
  split at h
  · split at h
    · rename_i xs hi
      split at h
      · rename_i n ns e
        obtain ⟨v, rfl, hv⟩ := ra1 ra
        obtain ⟨p, rfl, hp⟩ := items_v sm hv hi e
        have hu := hr.un
        have fin : ∀ (v : Value) (h' : Heap) (tk : Nat) (bs : List Addr), Reads h' v (PySem.W.minD (.int n) (ns.map .int)) bs → (∀ b o, s.heap.get? b = some o → h'.get? b = some o) → EP X pins σ Q v { s with heap := h', toks := tk } := fun v h' tk bs hrd hk => by
          rw [PySem.W.minD_ints] at hrd
          cases hrd
          exact ⟨.int _, H, I.kept hk, ⟨_, rfl⟩, sc sm h (.int _)⟩
        rw [Vals.ref1 r]
        rcases hp with hp | hp
        · obtain ⟨its, rv, pl, hz⟩ := I.list (.of hp)
          obtain ⟨as, hrd⟩ := reads_ints (h := s.heap) rv
          exact PySem.W.min_list_data (I.ok.hd hc) pl.isList hrd (alike_ints' (ns := n :: ns)) (by have := depth_ints (n :: ns); rw [List.map_cons] at this; rw [this]; omega) fun i v h' tk bs _ a b => fin v h' tk bs a b
        · obtain ⟨its, rv, pl, hz⟩ := I.tuple (.of hp)
          obtain ⟨as, hrd⟩ := reads_ints (h := s.heap) rv
          exact PySem.W.min_tuple_data (I.ok.hd hc) pl hrd (alike_ints' (ns := n :: ns)) (by have := depth_ints (n :: ns); rw [List.map_cons] at this; rw [this]; omega) fun i v h' tk bs _ a b => fin v h' tk bs a b
      · exact False.elim h
    · exact False.elim h
  · exact False.elim h
theorem maxS_ok {k : Nat} (hc : X.calm = true) (hr : Room k X.A) : ClD X ca (.builtin "max") maxSF := by
  intro pins s σ Hb H vs us ds Q E I r sm ra h
  unfold maxSF at h
  split at h
  · split at h
    · rename_i xs hi
      split at h
      · rename_i n ns e
        obtain ⟨v, rfl, hv⟩ := ra1 ra
        obtain ⟨p, rfl, hp⟩ := items_v sm hv hi e
        have hu := hr.un
        have fin : ∀ (v : Value) (h' : Heap) (tk : Nat) (bs : List Addr), Reads h' v (PySem.W.maxD (.int n) (ns.map .int)) bs → (∀ b o, s.heap.get? b = some o → h'.get? b = some o) → EP X pins σ Q v { s with heap := h', toks := tk } := fun v h' tk bs hrd hk => by
          rw [PySem.W.maxD_ints] at hrd
          cases hrd
          exact ⟨.int _, H, I.kept hk, ⟨_, rfl⟩, sc sm h (.int _)⟩
        rw [Vals.ref1 r]
        rcases hp with hp | hp
        · obtain ⟨its, rv, pl, hz⟩ := I.list (.of hp)
          obtain ⟨as, hrd⟩ := reads_ints (h := s.heap) rv
          exact PySem.W.max_list_data (I.ok.hd hc) pl.isList hrd (alike_ints' (ns := n :: ns)) (by have := depth_ints (n :: ns); rw [List.map_cons] at this; rw [this]; omega) fun i v h' tk bs _ a b => fin v h' tk bs a b
        · obtain ⟨its, rv, pl, hz⟩ := I.tuple (.of hp)
          obtain ⟨as, hrd⟩ := reads_ints (h := s.heap) rv
          exact PySem.W.max_tuple_data (I.ok.hd hc) pl hrd (alike_ints' (ns := n :: ns)) (by have := depth_ints (n :: ns); rw [List.map_cons] at this; rw [this]; omega) fun i v h' tk bs _ a b => fin v h' tk bs a b
      · exact False.elim h
    · exact False.elim h
  · exact False.elim h
end
end Ip

set_option maxHeartbeats 4000000
namespace Ip
open PySem PySem.Spec PyProof.Rows L2
open AutoSeq1 (wpAny_loadPart')
/-! ### enumerate(tuple) -/
def tupIt (t : Addr) : Obj := { cls := .type "tuple_iterator", data := .fields #[.ref t, .int 0 0] }
def enumOb (it : Addr) : Obj := { cls := .type "enumerate", data := .fields #[.none, .bool false, .ref it, rawInt 0, .none, .none] }
theorem meets_enumT (t : Addr) (items : Array Value) (n : Nat) (dct : Option Addr) (sl : Array (Option Value)) :
    Meets (Builtin.«enumerate.__new__» ⟨[.type "enumerate", .ref t], []⟩) (fun _ R s => s.heap.get? t = some { cls := .type "tuple", dict := dct, data := .seq items n, slots := sl } ∧
      R (.ok (.ret (.ref (s.heap.push (tupIt t)).objs.size))) { s with heap := (s.heap.push (tupIt t)).push (enumOb s.heap.objs.size) }) :=
  .of_wp fun prog w A R s h => by
    obtain ⟨hp, g, d, tk, os⟩ := s
    obtain ⟨ht, h⟩ := h
    have hsub := sub_enumerate
    have hT : Heap.IsTuple (Shared.heap ⟨hp, g, d, tk, os⟩) t items := ⟨_, ht, rfl, n, rfl⟩
    wp_walk using wpAny_loadPart' ht
    refine wpAny_stack_any fun st => wpAny_pure ?_
    split
    · rename_i c _ _ _ _ _
      cases (c == Value.type "enumerate")
      · wp_walk using wpAny_loadPart' ht, wpAny_pyIter_tuple hT
        exact ⟨_, rfl, h⟩
      · wp_walk using wpAny_loadPart' ht, wpAny_pyIter_tuple hT
        exact ⟨_, rfl, h⟩
    · wp_walk using wpAny_loadPart' ht, wpAny_pyIter_tuple hT
      exact ⟨_, rfl, h⟩
section
variable {prog : Program} {w : World} {A : Around} {E : Value → Shared → Prop} {s : Shared}
theorem call_enumT {t : Addr} {items : Array Value} {Q : Value → Shared → Prop} (hT : s.heap.IsTuple t items)
    (h : ∀ h', IsEnum h' (s.heap.objs.size + 1) s.heap.objs.size 0 .none → h'.IsTupleIter s.heap.objs.size t 0 → (∀ b o, s.heap.get? b = some o → h'.get? b = some o) → Q (.ref (s.heap.objs.size + 1)) { s with heap := h' }) :
    wpAny (model prog w) A (call (.type "enumerate") [.ref t]) Q E s := by
  obtain ⟨⟨c, dct, dt, sl⟩, ht, hc, n, hd⟩ := hT
  replace hc : c = .type "tuple" := hc
  replace hd : dt = .seq items n := hd
  subst hc hd
  refine callType_new F.called_enumerate (by decide) (F.typeCall_enumerate_1 _) (F.newCall_enumerate_1 _) (fun obj => F.args_object_init_2 obj _) F.entry_enumerate_new (meets_enumT t items n dct sl) ⟨ht, ?_⟩
  have hz : (s.heap.push (tupIt t)).objs.size = s.heap.objs.size + 1 := Heap.size_push ..
  show _ ∧ _
  rw [hz]
  have he : IsEnum ((s.heap.push (tupIt t)).push (enumOb s.heap.objs.size)) (s.heap.objs.size + 1) s.heap.objs.size 0 .none := by
    have := Heap.get?_push_size (s.heap.push (tupIt t)) (o := enumOb s.heap.objs.size) rfl
    rw [hz] at this
    exact this
  exact ⟨⟨_, he, rfl⟩, h _ he ⟨_, Heap.get?_push_of_some _ (Heap.get?_push_size _ rfl), rfl, rfl⟩ fun b o x => Heap.get?_push_of_some _ (Heap.get?_push_of_some _ x)⟩
end
/-- the tuple at a, each item in a new pair -/
def ItT (K : PySem.W.Frag) (a : Addr) : It :=
  ⟨fun i H => ∃ (xs : List V) (x : V), SqT K H a xs ∧ xs[i]? = some x, fun i H v H' => ∃ T x, v = .ref T ∧ H T = none ∧ H' = upd H T (.tup [.int (i : Nat), x]) ∧ ∀ xs, SqT K H a xs → xs[i]? = some x, fun i H => ∃ xs : List V, SqT K H a xs ∧ xs.length = i⟩
theorem turn_enumT {P : Program} {w : World} {K : PySem.W.Frag} {elts : List Expr} {kk : Nat} {tpos : Pos} (a e it : Addr) (hai : a ≠ it) (hae : a ≠ e) :
    Turn P w K (.Tuple elts kk tpos) (ItT K a) [e, it] e (fun i h => (∃ old, IsEnum h e it ((i : Nat) : Int) old) ∧ h.IsTupleIter it a i ∧ e ≠ it) where
  mem := by simp
  obj := fun i h st b hb => by
    obtain ⟨⟨old, he⟩, ⟨o, ho, hc, hd⟩, _⟩ := st
    rcases (show b = e ∨ b = it by simpa using hb) with z | z
    · rw [z]; exact ⟨_, he, fun v q => nomatch q⟩
    · rw [z]; exact ⟨o, ho, fun v q => by rw [hd] at q; cases q⟩
  keep := fun i h h' st k => let ⟨⟨old, he⟩, hi, hne⟩ := st; ⟨⟨old, k e (by simp) _ he⟩, hi.at fun o q => k it (by simp) o q, hne⟩
  item := by
    intro X hP hw hK hc i pins s σ H E I hf st hg
    subst hP hw hK
    obtain ⟨⟨old, he⟩, hit, hne⟩ := st
    obtain ⟨xs, x, hq, hx⟩ := hg
    obtain ⟨its, rv, p, hz⟩ := I.tuple hq
    obtain ⟨u, hu, ru⟩ := rv.get hx
    have hel : e < s.heap.objs.size := Heap.lt_size he
    have hil : it < s.heap.objs.size := by obtain ⟨_, q, _⟩ := hit; exact Heap.lt_size q
    have hlt : i < its.toArray.size := by rw [List.size_toArray]; exact (List.getElem?_eq_some_iff.mp hu).1
    refine wpAny_pyNext_enum_itemD (Draws.tuple (A := X.A.in1) (I.ok.hd hc) it a hai its.toArray) he ⟨hit, p⟩ hlt hne (by simp [hne, Ne.symm hae]) fun u' h' tk hP ho hst hT hsz hk => ?_
    have hP : its.toArray[i]? = some u' := hP
    have e' : u' = u := by
      rw [List.getElem?_toArray, hu] at hP
      exact (Option.some.inj hP).symm
    subst e'
    refine ⟨_, rfl, wpAny_letOwnedTupleGo_enum (s := { s with heap := h', toks := tk + 1 }) ho fun h'' he' sb => ?_⟩
    have hT2 : h''.get? s.heap.objs.size = some { cls := .type "tuple", data := .seq #[.int i tk, u'] } := (sb.2 _ (Nat.ne_of_gt hel)).trans hT
    have new : ObjOk X.prog X.w (upd H s.heap.objs.size (.tup [.int (i : Nat), x])) h'' s.heap.objs.size (.tup [.int (i : Nat), x]) :=
      ⟨by show 2 ≤ sizeLine; decide, [.int i tk, u'], .cons ⟨_, rfl⟩ (.cons ru .nil), ⟨_, hT2, rfl, _, rfl⟩⟩
    have I1 : Inv X pins σ (upd H s.heap.objs.size (.tup [.int (i : Nat), x])) { s with heap := h'', toks := tk + 1 } :=
      I.turnedNew (ch := [e, it]) (fun b ob hb q => (sb.2 b (fun z => hb (by simp [z]))).trans (hk b ob (fun z => hb (by simp [z])) (fun z => hb (by simp [z])) q)) hf (Nat.le_refl _) new
    refine ⟨.ref s.heap.objs.size, _, I1, rfl, ⟨_, x, rfl, I.hok.fresh (Nat.le_refl _), rfl, fun ys hy => by rw [I.tuple_inj hy hq]; exact hx⟩, ⟨⟨u', ?_⟩, hst.1.at fun o q => (sb.2 it (Ne.symm hne)).trans q, hne⟩, fun b hb => ?_⟩
    · have e1 : ((i + 1 : Nat) : Int) = (i : Int) + 1 := by omega
      rw [e1]; exact he'
    · have hb' : b < s.heap.objs.size := by
        rcases (show b = e ∨ b = it by simpa using hb) with z | z
        · rw [z]; exact hel
        · rw [z]; exact hil
      rw [upd_ne (Nat.ne_of_lt hb')]
      exact (hf b hb).1
  done := by
    intro X hP hw hK hc i pins s σ H E I hf st hg
    subst hP hw hK
    obtain ⟨⟨old, he⟩, hit, hne⟩ := st
    obtain ⟨xs, hq, hx⟩ := hg
    obtain ⟨its, rv, p, hz⟩ := I.tuple hq
    obtain ⟨f0, f1, f2, f3, f4, f5⟩ := hf it (by simp)
    have hl : its.toArray.size = i := by rw [List.size_toArray, ← rv.length]; exact hx
    exact wpAny_pyNext_enum_endD (Draws.tuple (A := X.A.in1) (I.ok.hd hc) it a hai its.toArray) he (by rw [hl]; exact ⟨hit, p⟩) fun h' eb => ⟨rfl, I.turned (t' := s.toks) (fun b o hb q => eb b o hb q) f0 f1 f3 f4 f5⟩
  self := fun A i s Q E st h => let ⟨⟨_, he⟩, _⟩ := st; wpAny_pyIter_enum he h
/-- enumerate of a list or a tuple -/
def iEnumA (K : PySem.W.Frag) (ta : TA) : TI := fun σ H R => ta σ H fun vs H1 => ∃ a xs, vs = [.ref a] ∧ ((SqL K H1 a xs ∧ R (Ite K a) H1) ∨ (SqT K H1 a xs ∧ R (ItT K a) H1))
theorem pi_enumA {X : Cx} {e : Expr} {ta : TA} {p pos tpos : Pos} {elts : List Expr} {kk : Nat} (hg : Gl X "enumerate") (hm : X.mg "enumerate" = none) (ha : PA X [e] ta) (hs : starEach [e] X.env = [(false, eval e X.env)] := by rfl) :
    PI X (.Tuple elts kk tpos) (.Call (.Name "enumerate" p) [e] [] pos) (iEnumA X.K ta) := by
  refine ⟨fun pins s σ H R I h => ?_⟩
  refine Call_ (ld_blt I hg hm boot_enumerate (PyProof.Rows.callWith_type1 (thn (ha.run pos pins s σ H _ I h) fun us s1 ⟨vs, H1, I1, r1, q1⟩ => ?_) hs rfl))
  obtain ⟨a, xs, rfl, q⟩ := q1
  cases r1 with
  | cons r rr =>
    cases rr
    cases r
    have lo : ∀ b, b ∈ [s1.heap.objs.size + 1, s1.heap.objs.size] → s1.heap.objs.size ≤ b := fun b hb => by
      rcases (show b = s1.heap.objs.size + 1 ∨ b = s1.heap.objs.size by simpa using hb) with z | z <;> omega
    rcases q with ⟨hq, q⟩ | ⟨hq, q⟩
    · obtain ⟨its, rv, p', hz⟩ := I1.list hq
      refine call_enumerate_list p'.isList fun h' he hit hsz hk => wpAny_pyIter_enum he ?_
      have I2 : Inv X pins σ H1 { s1 with heap := h' } := I1.kept (t' := s1.toks) hk
      exact ⟨s1.heap.objs.size + 1, [s1.heap.objs.size + 1, s1.heap.objs.size], _, _, H1, rfl, I2, turn_enum a (s1.heap.objs.size + 1) s1.heap.objs.size, ⟨⟨.none, he⟩, hit, Nat.succ_ne_self _⟩, fun b hb => I1.fpOk (lo b hb) (I1.hok.fresh (lo b hb)), q⟩
    · obtain ⟨its, rv, p', hz⟩ := I1.tuple hq
      have hal : a < s1.heap.objs.size := by obtain ⟨_, q, _⟩ := id p'; exact Heap.lt_size q
      refine call_enumT p' fun h' he hit hk => wpAny_pyIter_enum he ?_
      have I2 : Inv X pins σ H1 { s1 with heap := h' } := I1.kept (t' := s1.toks) hk
      exact ⟨s1.heap.objs.size + 1, [s1.heap.objs.size + 1, s1.heap.objs.size], _, _, H1, rfl, I2, turn_enumT a (s1.heap.objs.size + 1) s1.heap.objs.size (Nat.ne_of_lt hal) (Nat.ne_of_lt (Nat.lt_succ_of_lt hal)), ⟨⟨.none, he⟩, hit, Nat.succ_ne_self _⟩, fun b hb => I1.fpOk (lo b hb) (I1.hok.fresh (lo b hb)), q⟩
end Ip

set_option maxHeartbeats 4000000
namespace Ip
open PySem PySem.Spec PyProof.Rows L2
/-! ### zip(tuple, list) -/
def ItzM (K : PySem.W.Frag) (a b : Addr) : It :=
  ⟨fun i H => ∃ (xs ys : List V) (x y : V), SqT K H a xs ∧ SqL K H b ys ∧ xs[i]? = some x ∧ ys[i]? = some y,
   fun i H v H' => ∃ T x y, v = .ref T ∧ H T = none ∧ H' = upd H T (.tup [x, y]) ∧ (∀ xs, SqT K H a xs → xs[i]? = some x) ∧ ∀ ys, SqL K H b ys → ys[i]? = some y,
   fun i H => ∃ xs ys : List V, SqT K H a xs ∧ SqL K H b ys ∧ i = min xs.length ys.length⟩
theorem turn_zipM {P : Program} {w : World} {K : PySem.W.Frag} {elts : List Expr} {kk : Nat} {tpos : Pos} {a b z TI TO i1 i2 : Addr} (ap : ZipApart z TI TO i1 i2 a b) :
    Turn P w K (.Tuple elts kk tpos) (ItzM K a b) [z, TI, TO, i1, i2] z (fun i h => IsZip h z TI TO .none ∧ IsPair h TI (.ref i1) (.ref i2) ∧ (∃ x y, IsPair h TO x y) ∧ h.IsTupleIter i1 a i ∧ h.IsListIter i2 b i) where
  mem := by simp
  obj := fun i h st c hc => by
    obtain ⟨hz, hI, ⟨x, y, hO⟩, ⟨o1, g1, _, d1⟩, ⟨o2, g2, _, d2⟩⟩ := st
    rcases (show c = z ∨ c = TI ∨ c = TO ∨ c = i1 ∨ c = i2 by simpa using hc) with e | e | e | e | e <;> rw [e]
    · exact ⟨_, hz, fun v q => nomatch q⟩
    · exact ⟨_, hI, fun v q => nomatch q⟩
    · exact ⟨_, hO, fun v q => nomatch q⟩
    · exact ⟨o1, g1, fun v q => by rw [d1] at q; cases q⟩
    · exact ⟨o2, g2, fun v q => by rw [d2] at q; cases q⟩
  keep := fun i h h' st k => by
    obtain ⟨hz, hI, ⟨x, y, hO⟩, h1, h2⟩ := st
    exact ⟨k z (by simp) _ hz, k TI (by simp) _ hI, ⟨x, y, k TO (by simp) _ hO⟩, h1.at fun o q => k i1 (by simp) o q, h2.at fun o q => k i2 (by simp) o q⟩
  item := by
    intro X hP hw hK hc i pins s σ H E I hf st hg
    subst hP hw hK
    obtain ⟨hz, hI, ⟨x0, y0, hO⟩, h1, h2⟩ := st
    obtain ⟨xs, ys, x, y, hq1, hq2, hx, hy⟩ := hg
    obtain ⟨its, rv, p, hzz⟩ := I.tuple hq1
    obtain ⟨jts, rw', p', hzz'⟩ := I.list hq2
    obtain ⟨u, hu, ru⟩ := rv.get hx
    obtain ⟨u2, hu2, ru2⟩ := rw'.get hy
    have hzl : z < s.heap.objs.size := Heap.lt_size hz
    have hTl : TI < s.heap.objs.size := Heap.lt_size hI
    have hOl : TO < s.heap.objs.size := Heap.lt_size hO
    have h1l : i1 < s.heap.objs.size := by obtain ⟨_, q, _⟩ := id h1; exact Heap.lt_size q
    have h2l : i2 < s.heap.objs.size := by obtain ⟨_, q, _⟩ := id h2; exact Heap.lt_size q
    have hlt : i < its.toArray.size := by rw [List.size_toArray]; exact (List.getElem?_eq_some_iff.mp hu).1
    have hlt2 : i < jts.toArray.size := by rw [List.size_toArray]; exact (List.getElem?_eq_some_iff.mp hu2).1
    have sep : ZipSep2 z TI TO i1 i2 [i1, a] [i2, b] := ⟨ap.TIz, ap.TOz, ap.TITO, ap.TIi1, by simp, by simp [ap.i1z.symm, ap.l1z.symm], by simp [ap.TOi1, ap.l1TO.symm], ap.TIi2, by simp, by simp [ap.i2z.symm, ap.l2z.symm], by simp [ap.TOi2, ap.l2TO.symm], by simp [ap.i12, ap.l2i1.symm], by simp [ap.i12.symm, ap.l1i2.symm]⟩
    refine wpAny_pyNext_zipD2_item sep (Draws.tuple (A := X.A.in1) (I.ok.hd hc) i1 a ap.l1i1 its.toArray) (Draws.list (A := X.A.in1) (I.ok.hd hc) i2 b ap.l2i2 jts.toArray) hz hI hO ⟨h1, p⟩ ⟨h2, p'.isList⟩ hlt hlt2 fun v1 v2 h' tk hP1 hP2 hz' hO' hs1 hs2 hT hsz hk => ?_
    have hP1 : its.toArray[i]? = some v1 := hP1
    have hP2 : jts.toArray[i]? = some v2 := hP2
    have e1 : v1 = u := by rw [List.getElem?_toArray, hu] at hP1; exact (Option.some.inj hP1).symm
    have e2 : v2 = u2 := by rw [List.getElem?_toArray, hu2] at hP2; exact (Option.some.inj hP2).symm
    subst e1 e2
    refine ⟨_, rfl, wpAny_letOwnedTupleGo_zip (s := { s with heap := h', toks := tk }) hz' fun h'' hz2 sb => ?_⟩
    have hT2 : h''.get? s.heap.objs.size = some { cls := .type "tuple", data := .seq #[v1, v2] } := (sb.2 _ (Nat.ne_of_gt hzl)).trans hT
    have new : ObjOk X.prog X.w (upd H s.heap.objs.size (.tup [x, y])) h'' s.heap.objs.size (.tup [x, y]) :=
      ⟨by show 2 ≤ sizeLine; decide, [v1, v2], .cons ru (.cons ru2 .nil), ⟨_, hT2, rfl, _, rfl⟩⟩
    have kp : ∀ (c : Addr) (ob : Obj), ¬ c ∈ [z, TI, TO, i1, i2] → s.heap.get? c = some ob → h''.get? c = some ob := fun c ob hb q =>
      (sb.2 c (fun e => hb (by simp [e]))).trans (hk c ob (fun e => hb (by simp [e])) (fun e => hb (by simp [e])) (fun e => hb (by simp [e])) (fun e => hb (by simp [e])) q)
    have I1 : Inv X pins σ (upd H s.heap.objs.size (.tup [x, y])) { s with heap := h'', toks := tk } :=
      I.turnedNew (ch := [z, TI, TO, i1, i2]) kp hf (Nat.le_refl _) new
    refine ⟨.ref s.heap.objs.size, _, I1, rfl, ⟨_, x, y, rfl, I.hok.fresh (Nat.le_refl _), rfl, fun zs hz => by rw [I.tuple_inj hz hq1]; exact hx, fun zs hz => by rw [I.list_inj hz hq2]; exact hy⟩, ⟨hz2, (sb.2 TI ap.TIz).trans (hk TI _ ap.TIz ap.TITO ap.TIi1 ap.TIi2 hI), ⟨v1, v2, (sb.2 TO ap.TOz).trans hO'⟩, hs1.1.at fun o q => (sb.2 i1 ap.i1z).trans q, hs2.1.at fun o q => (sb.2 i2 ap.i2z).trans q⟩, fun c hb => ?_⟩
    have hb' : c < s.heap.objs.size := by
      rcases (show c = z ∨ c = TI ∨ c = TO ∨ c = i1 ∨ c = i2 by simpa using hb) with e | e | e | e | e <;> rw [e] <;> assumption
    rw [upd_ne (Nat.ne_of_lt hb')]
    exact (hf c hb).1
  done := by
    intro X hP hw hK hc i pins s σ H E I hf st hg
    subst hP hw hK
    obtain ⟨hz, hI, ⟨x0, y0, hO⟩, h1, h2⟩ := st
    obtain ⟨xs, ys, hq1, hq2, hx⟩ := hg
    obtain ⟨its, rv, p, hzz⟩ := I.tuple hq1
    obtain ⟨jts, rw', p', hzz'⟩ := I.list hq2
    have l1 : its.toArray.size = xs.length := by rw [List.size_toArray, ← rv.length]
    have l2 : jts.toArray.size = ys.length := by rw [List.size_toArray, ← rw'.length]
    have sep : ZipSep2 z TI TO i1 i2 [i1, a] [i2, b] := ⟨ap.TIz, ap.TOz, ap.TITO, ap.TIi1, by simp, by simp [ap.i1z.symm, ap.l1z.symm], by simp [ap.TOi1, ap.l1TO.symm], ap.TIi2, by simp, by simp [ap.i2z.symm, ap.l2z.symm], by simp [ap.TOi2, ap.l2TO.symm], by simp [ap.i12, ap.l2i1.symm], by simp [ap.i12.symm, ap.l1i2.symm]⟩
    refine wpAny_pyNext_zipD2_end sep (Draws.tuple (A := X.A.in1) (I.ok.hd hc) i1 a ap.l1i1 its.toArray) (Draws.list (A := X.A.in1) (I.ok.hd hc) i2 b ap.l2i2 jts.toArray) hz hI hO ⟨h1, p⟩ ⟨h2, p'.isList⟩ (by omega) (by omega) (by omega) fun h' tk hk => ⟨rfl, I.turnedL (ch := [z, TI, TO, i1, i2]) (fun c o hb q => hk c o (fun e => hb (by simp [e])) (fun e => hb (by simp [e])) (fun e => hb (by simp [e])) (fun e => hb (by simp [e])) q) hf⟩
  self := fun A i s Q E st h => wpAny_pyIter_zip st.1 h
/-- zip of two lists, two tuples, or a tuple and a list -/
def iZipM (K : PySem.W.Frag) (ta : TA) : TI := fun σ H R => ta σ H fun vs H1 => ∃ a b xs ys, vs = [.ref a, .ref b] ∧ (SqL K H1 a xs ∧ SqL K H1 b ys ∧ R (Itz K a b) H1 ∨ SqT K H1 a xs ∧ SqT K H1 b ys ∧ R (RZ.ItzT K a b) H1 ∨ SqT K H1 a xs ∧ SqL K H1 b ys ∧ R (ItzM K a b) H1)
theorem pi_zipM {X : Cx} {e e2 : Expr} {ta : TA} {p pos tpos : Pos} {elts : List Expr} {kk : Nat} (hg : Gl X "zip") (hm : X.mg "zip" = none) (ha : PA X [e, e2] ta) (hs : starEach [e, e2] X.env = (false, eval e X.env) :: starEach [e2] X.env := by rfl) (hb : ((backTo pos (starEach [e2] X.env)).any fun x => x.fst) = false := by rfl) :
    PI X (.Tuple elts kk tpos) (.Call (.Name "zip" p) [e, e2] [] pos) (iZipM X.K ta) := by
  refine ⟨fun pins s σ H R I h => ?_⟩
  refine Call_ (ld_blt I hg hm PyProof.Rows.boot_zip (PyProof.Rows.callWith_type1 (thn (ha.run pos pins s σ H _ I h) fun us s1 ⟨vs, H1, I1, r1, q1⟩ => ?_) hs hb))
  obtain ⟨a, b, xs, ys, rfl, q⟩ := q1
  cases r1 with
  | cons r rr =>
    cases rr with
    | cons r2 rr =>
      cases rr
      cases r
      cases r2
      have lo : ∀ c, c ∈ [s1.heap.objs.size + 4, s1.heap.objs.size + 2, s1.heap.objs.size + 3, s1.heap.objs.size, s1.heap.objs.size + 1] → s1.heap.objs.size ≤ c := fun c hc => by
        rcases (show c = s1.heap.objs.size + 4 ∨ c = s1.heap.objs.size + 2 ∨ c = s1.heap.objs.size + 3 ∨ c = s1.heap.objs.size ∨ c = s1.heap.objs.size + 1 by simpa using hc) with z | z | z | z | z <;> omega
      rcases q with ⟨hq, hq2, q⟩ | ⟨hq, hq2, q⟩ | ⟨hq, hq2, q⟩
      · obtain ⟨its, rv, p', hz⟩ := I1.list hq
        obtain ⟨jts, rv2, p2, hz2⟩ := I1.list hq2
        have hal : a < s1.heap.objs.size := by obtain ⟨_, q, _⟩ := id p'.isList; exact Heap.lt_size q
        have hbl : b < s1.heap.objs.size := by obtain ⟨_, q, _⟩ := id p2.isList; exact Heap.lt_size q
        refine call_zip_2 p'.isList p2.isList fun h' hz hI hO h1 h2 hsz hk => wpAny_pyIter_zip hz ?_
        have I2 : Inv X pins σ H1 { s1 with heap := h' } := I1.kept (t' := s1.toks) hk
        exact ⟨_, [s1.heap.objs.size + 4, s1.heap.objs.size + 2, s1.heap.objs.size + 3, s1.heap.objs.size, s1.heap.objs.size + 1], _, _, H1, rfl, I2, turn_zip (zipApart_new hal hbl), ⟨hz, hI, ⟨_, _, hO⟩, h1, h2⟩, fun c hc => I1.fpOk (lo c hc) (I1.hok.fresh (lo c hc)), q⟩
      · obtain ⟨its, rv, p', hz⟩ := I1.tuple hq
        obtain ⟨jts, rv2, p2, hz2⟩ := I1.tuple hq2
        have hal : a < s1.heap.objs.size := by obtain ⟨_, q, _⟩ := id p'; exact Heap.lt_size q
        have hbl : b < s1.heap.objs.size := by obtain ⟨_, q, _⟩ := id p2; exact Heap.lt_size q
        refine RZ.call_zipT p' p2 fun h' hz hI hO h1 h2 hsz hk => wpAny_pyIter_zip hz ?_
        have I2 : Inv X pins σ H1 { s1 with heap := h' } := I1.kept (t' := s1.toks) hk
        exact ⟨_, [s1.heap.objs.size + 4, s1.heap.objs.size + 2, s1.heap.objs.size + 3, s1.heap.objs.size, s1.heap.objs.size + 1], _, _, H1, rfl, I2, RZ.turn_zipT (zipApart_new hal hbl), ⟨hz, hI, ⟨_, _, hO⟩, h1, h2⟩, fun c hc => I1.fpOk (lo c hc) (I1.hok.fresh (lo c hc)), q⟩
      · obtain ⟨its, rv, p', hz⟩ := I1.tuple hq
        obtain ⟨jts, rv2, p2, hz2⟩ := I1.list hq2
        have hal : a < s1.heap.objs.size := by obtain ⟨_, q, _⟩ := id p'; exact Heap.lt_size q
        have hbl : b < s1.heap.objs.size := by obtain ⟨_, q, _⟩ := id p2.isList; exact Heap.lt_size q
        refine zip_begins2 (begins_tuple a its.toArray) (begins_list b jts.toArray) p' p2.isList fun h' hz hI hO h1 h2 hsz hk => wpAny_pyIter_zip hz ?_
        have I2 : Inv X pins σ H1 { s1 with heap := h' } := I1.kept (t' := s1.toks) hk
        exact ⟨_, [s1.heap.objs.size + 4, s1.heap.objs.size + 2, s1.heap.objs.size + 3, s1.heap.objs.size, s1.heap.objs.size + 1], _, _, H1, rfl, I2, turn_zipM (zipApart_new hal hbl), ⟨hz, hI, ⟨_, _, hO⟩, ⟨_, h1, rfl, rfl⟩, ⟨_, h2, rfl, rfl⟩⟩, fun c hc => I1.fpOk (lo c hc) (I1.hok.fresh (lo c hc)), q⟩
end Ip

set_option maxHeartbeats 4000000
namespace Ip
open PySem PySem.Spec PyProof.Rows L2
/-! ### the slots -/
def Sl.own : Sl → Bool
  | .v _ => false
  | _ => true
def KvAll (K : PySem.W.Frag) (H : Hp) : List (Key × V) → List (Int × D) → Prop := Paired fun p q => p.1 = Sum.inl q.1 ∧ Rp K H p.2 q.2
structure Sat (K : PySem.W.Frag) (ps : List Addr) (Hb0 H0 : Hp) (g : Ga) (σ : L2.St) (Hb H : Hp) : Prop where
  gr : Gr Hb0 H0 Hb H
  len : σ.length = g.length
  v : ∀ (i : Nat) (d : D), g[i]? = some (some (Sl.v d)) → ∃ v : V, σ[i]? = some (some v) ∧ Rp K Hb v d
  l : ∀ (i : Nat) (b : Option Nat) (ds : List D), g[i]? = some (some (Sl.l b ds)) → ∃ (p : Addr) (vs : List V), σ[i]? = some (some (V.ref p)) ∧ H0 p = none ∧ Hb p = none ∧ H p = some (.lst vs) ∧ RpAll K Hb vs ds ∧ ∀ j, b = some j → ps[j]? = some p
  m : ∀ (i : Nat) (b : Option Nat) (kvs : List (Int × D)), g[i]? = some (some (Sl.m b kvs)) → ∃ (p : Addr) (vs : List (Key × V)), σ[i]? = some (some (V.ref p)) ∧ H0 p = none ∧ Hb p = none ∧ H p = some (.dK vs) ∧ KvAll K Hb vs kvs ∧ ∀ j, b = some j → ps[j]? = some p
  d : ∀ (i j : Nat) (s t : Sl) (p : Addr), g[i]? = some (some s) → g[j]? = some (some t) → s.own = true → t.own = true → σ[i]? = some (some (V.ref p)) → σ[j]? = some (some (V.ref p)) → i = j
theorem KvAll.mono {K : PySem.W.Frag} {H H' : Hp} (e : Same H H') : ∀ {ps : List (Key × V)} {qs : List (Int × D)}, KvAll K H ps qs → KvAll K H' ps qs := fun h => Paired.mapP h fun _ _ z => ⟨z.1, z.2.mono e⟩
section
variable {K : PySem.W.Frag} {ps : List Addr} {Hb0 H0 Hb H Hb' H' : Hp} {g : Ga} {σ : L2.St}
theorem Sat.same (s : Sat K ps Hb0 H0 g σ Hb H) : Same Hb H := s.gr.s
theorem Sat.go (s : Sat K ps Hb0 H0 g σ Hb H) (x : Gr Hb H Hb' H') : Sat K ps Hb0 H0 g σ Hb' H' := by
  refine ⟨s.gr.trans x, s.len, fun i d e => ?_, fun i b ds e => ?_, fun i b kvs e => ?_, s.d⟩
  · obtain ⟨v, h1, h2⟩ := s.v i d e
    exact ⟨v, h1, h2.mono x.b⟩
  · obtain ⟨p, vs, h1, h2, h3, h4, h5, h6⟩ := s.l i b ds e
    exact ⟨p, vs, h1, h2, x.n p h3 (by rw [h4]; exact fun z => nomatch z), x.h _ _ h4, h5.mono x.b, h6⟩
  · obtain ⟨p, vs, h1, h2, h3, h4, h5, h6⟩ := s.m i b kvs e
    exact ⟨p, vs, h1, h2, x.n p h3 (by rw [h4]; exact fun z => nomatch z), x.h _ _ h4, h5.mono x.b, h6⟩
end
/-! ### readings that say all -/
section
variable {X : Cx}
def tE (X : Cx) (e : Expr) : TE := fun σ H Q => ∀ pins s, Inv X pins σ H s → wpAny (model X.prog X.w) X.A (eval e X.env) (EP X pins σ Q) X.xe s
theorem pe_tE {e : Expr} : PE X e (tE X e) := ⟨fun pins s σ H Q I h => h pins s I⟩
def tT (X : Cx) (e : Expr) : TT := fun σ H Q => ∀ pins s, Inv X pins σ H s → wpAny (model X.prog X.w) X.A (isTrue e X.env (eval e X.env)) (TP X pins σ Q) X.xe s
theorem pt_tT {e : Expr} : PT X e (tT X e) := ⟨fun pins s σ H Q I h => h pins s I⟩
def tW (X : Cx) (e : Expr) : TT := fun σ H Q => ∀ whole pins s, Inv X pins σ H s → wpAny (model X.prog X.w) X.A (isTrue e X.env whole) (TP X pins σ Q) X.xe s
theorem pw_tW {e : Expr} : PW X e (tW X e) := ⟨fun w pins s σ H Q I h => h w pins s I⟩
def tAr (X : Cx) (es : List Expr) : TA := fun σ H Q => ∀ pos pins s, Inv X pins σ H s → wpAny (model X.prog X.w) X.A (spliced (backTo pos (starEach es X.env))) (AP X pins σ Q) X.xe s
theorem pa_tA {es : List Expr} : PA X es (tAr X es) := ⟨fun pos pins s σ H Q I h => h pos pins s I⟩
theorem tE_of {e : Expr} {t : TE} {σ : L2.St} {H : Hp} {Q : VK} (h : PE X e t) (q : t σ H Q) : tE X e σ H Q := fun pins s I => h.run pins s σ H Q I q
theorem tT_of {e : Expr} {t : TT} {σ : L2.St} {H : Hp} {Q : Bool → Hp → Prop} (h : PT X e t) (q : t σ H Q) : tT X e σ H Q := fun pins s I => h.run pins s σ H Q I q
theorem tW_of {e : Expr} {t : TT} {σ : L2.St} {H : Hp} {Q : Bool → Hp → Prop} (h : PW X e t) (q : t σ H Q) : tW X e σ H Q := fun w pins s I => h.run w pins s σ H Q I q
theorem tA_of {es : List Expr} {t : TA} {σ : L2.St} {H : Hp} {Q : List V → Hp → Prop} (h : PA X es t) (q : t σ H Q) : tAr X es σ H Q := fun pos pins s I => h.run pos pins s σ H Q I q
end
/-! ### judgements -/
section
variable (X : Cx) (ca : Nat → Addr)
def JG {α β : Type} (t : L2.St → Hp → (β → Hp → Prop) → Prop) (R : α → β → Hp → Hp → Prop) (f : Ga → Rs α) : Prop :=
  ∀ (ps : List Addr) (Hb0 H0 : Hp) (g : Ga) (σ : L2.St) (Hb H : Hp) (Q : β → Hp → Prop) (W : WX), Takes X W → Sat X.K ps Hb0 H0 g σ Hb H → Po ca Hb H R (f g) Q (fun c d H' => W c d σ H') → t σ H Q
abbrev JV (e : Expr) (f : Ga → Rs D) : Prop := JG X ca (tE X e) (RV X.K) f
abbrev JR (e : Expr) (f : Ga → Rs D) : Prop := JG X ca (tE X e) (RR X.K) f
abbrev JT (e : Expr) (f : Ga → Rs Bool) : Prop := JG X ca (tT X e) RB f
abbrev JW (e : Expr) (f : Ga → Rs Bool) : Prop := JG X ca (tW X e) RB f
abbrev JA (es : List Expr) (f : Ga → Rs D) : Prop := JG X ca (tAr X es) (RVs X.K) f
abbrev JB (es : List Expr) (f : Ga → Rs D) : Prop := JG X ca (tAr X es) (RRs X.K) f
end
section
variable {X : Cx} {ca : Nat → Addr} {e a b c : Expr} {es : List Expr} {pos : Pos} {fa fb fc : Ga → Rs D} {ta tb : Ga → Rs Bool}
theorem JV.r (h : JV X ca e fa) : JR X ca e fa := fun ps Hb0 H0 g σ Hb H Q W tk sat po => h ps Hb0 H0 g σ Hb H Q W tk sat (by
  generalize fa g = r at po
  cases r with
  | ok d => exact fun v Hb' H' x q => po v Hb' H' x (.inl q)
  | ex c => exact po
  | bad => exact po)
theorem JG.run {α β γ δ : Type} {t : L2.St → Hp → (β → Hp → Prop) → Prop} {R : α → β → Hp → Hp → Prop} {f : Ga → Rs α} (h : JG X ca t R f) {R' : γ → δ → Hp → Hp → Prop} {k : α → Rs γ} {ps : List Addr} {Hb0 H0 : Hp} {g : Ga} {σ : L2.St} {Hb H : Hp} {Q1 : δ → Hp → Prop} {W : WX} {Q : β → Hp → Prop}
    (tk : Takes X W) (sat : Sat X.K ps Hb0 H0 g σ Hb H) (po : Po ca Hb H R' ((f g).bind k) Q1 (fun c d H' => W c d σ H'))
    (go : ∀ d v Hb1 H1, f g = .ok d → Gr Hb H Hb1 H1 → R d v Hb1 H1 → Sat X.K ps Hb0 H0 g σ Hb1 H1 → Po ca Hb1 H1 R' (k d) Q1 (fun c d H' => W c d σ H') → Q v H1) : t σ H Q :=
  h ps Hb0 H0 g σ Hb H Q W tk sat (po.cut fun d v Hb1 H1 e g1 r p => go d v Hb1 H1 e g1 r (sat.go g1) p)
/-- OpD as the layer's OpR -/
def rD (K : PySem.W.Frag) (ca : Nat → Addr) (o : D → D → Rs D) : R2 := fun x y H Q => ∃ Hb d e E, Same Hb H ∧ DpR K Hb H x d ∧ DpR K Hb H y e ∧ Post K ca Hb H (o d e) Q E
theorem OpD.r {f : Value → Value → Sem Value} {o : D → D → Rs D} (h : OpD X ca f o) : OpR X f (rD X.K ca o) := by
  intro pins s σ H x y v u Q I rx ry ⟨Hb, d, e, E, sm, hx, hy, po⟩
  exact h pins s σ Hb H x y v u d e Q E I rx ry sm hx hy po
theorem two {o : D → D → Rs D} (ha : JR X ca a fa) (hb : JR X ca b fb) {ps : List Addr} {Hb0 H0 : Hp} {g : Ga} {σ : L2.St} {Hb H : Hp} {Q : VK} {W : WX} (tk : Takes X W) (sat : Sat X.K ps Hb0 H0 g σ Hb H)
    (po : Post X.K ca Hb H ((fa g).bind fun x => (fb g).bind fun y => o x y) Q (fun c d H' => W c d σ H')) : tOp (rD X.K ca o) (tE X a) (tE X b) σ H Q :=
  ha.run tk sat po fun d x Hb1 H1 e1 g1 r1 s1 p1 => hb.run tk s1 p1 fun e y Hb2 H2 e2 g2 r2 s2 p2 => ⟨Hb2, d, e, _, s2.same, r1.gr g2, r2, p2⟩
theorem j_bin (o : Bop) (ha : JR X ca a fa) (hb : JR X ca b fb) : JV X ca (.BinOp a (opB o) b pos) (fun g => (fa g).bind fun x => (fb g).bind fun y => binD o x y) :=
  fun ps Hb0 H0 g σ Hb H Q W tk sat po => tE_of (pe_op (bin_ok o).r pe_tE pe_tE) (two ha hb tk sat po)
theorem j_cmp {k : Nat} (hr : Room k X.A) (o : Cop) (hm : behindInMarks (opC o) b = false) (ha : JR X ca a fa) (hb : JR X ca b fb) : JV X ca (.Compare a [opC o] [b] pos) (fun g => (fa g).bind fun x => (fb g).bind fun y => (cmpD o x y).bind boolD) :=
  fun ps Hb0 H0 g σ Hb H Q W tk sat po => tE_of (pe_cmpR (cmp_ok hr o).r pe_tE pe_tE hm) (two ha hb tk sat po)
/-- a bool's truth -/
theorem truth_bool {K : PySem.W.Frag} {Hb H : Hp} {r : Rs Bool} {Q : Bool → Hp → Prop} {E : XK} (po : Po ca Hb H RB ((r.bind boolD).bind truth) Q E) : Post K ca Hb H (r.bind boolD) (fun x H' => ∃ k, x = V.bl k ∧ Q k H') E := by
  cases r with
  | ok b =>
    intro v Hb' H' x q
    have q' : Rp K Hb' v (.bool b) := q
    cases q'
    exact ⟨b, rfl, po b Hb' H' x rfl⟩
  | ex c => exact po
  | bad => exact po
theorem j_cmpT {k : Nat} (hr : Room k X.A) (o : Cop) (hm : behindInMarks (opC o) b = false) (ha : JR X ca a fa) (hb : JR X ca b fb) : JT X ca (.Compare a [opC o] [b] pos) (fun g => ((fa g).bind fun x => (fb g).bind fun y => (cmpD o x y).bind boolD).bind truth) :=
  fun ps Hb0 H0 g σ Hb H Q W tk sat po => tT_of (pt_cmpR (cmp_ok hr o).r pe_tE pe_tE hm) (two ha hb tk sat (by
    dsimp only at po
    cases h1 : fa g with
    | ok x =>
      cases h2 : fb g with
      | ok y =>
        rw [h1, h2] at po
        exact truth_bool po
      | ex c => rw [h1, h2] at po; exact po
      | bad => rw [h1, h2] at po; exact po
    | ex c => rw [h1] at po; exact po
    | bad => rw [h1] at po; exact po))
/-- a new list: its items on the ground, itself not; it was not there before -/
def RF (K : PySem.W.Frag) (H : Hp) : D → V → Hp → Hp → Prop := fun d v Hb1 H1 => ∃ p vs ds, v = .ref p ∧ d = .list ds ∧ H p = none ∧ Hb1 p = none ∧ H1 p = some (.lst vs) ∧ RpAll K Hb1 vs ds
def JF (X : Cx) (ca : Nat → Addr) (t : TE) (f : Ga → Rs D) : Prop :=
  ∀ (ps : List Addr) (Hb0 H0 : Hp) (g : Ga) (σ : L2.St) (Hb H : Hp) (Q : VK) (W : WX), Takes X W → Sat X.K ps Hb0 H0 g σ Hb H → Po ca Hb H (RF X.K H) (f g) Q (fun c d H' => W c d σ H') → t σ H Q
/-- names, constants -/
theorem j_var {i : Nat} {x : Str} (hN : X.N[i]? = some x) (hv : Vis X.env.scope x) (hd : (x == ("__debug__" : Str)) = false) (hcd : (x == ("__classdict__" : Str)) = false) : JV X ca (.Name x pos) (fun g => slotD g[i]?) := by
  intro ps Hb0 H0 g σ Hb H Q W tk sat po
  refine tE_of (pe_var hN hv hd hcd) ?_
  dsimp only at po
  unfold slotD at po
  split at po
  · rename_i d h
    obtain ⟨v, h1, h2⟩ := sat.v i d h
    exact ⟨v, h1, po.done (.refl sat.same) h2⟩
  · exact False.elim po
theorem j_varR {i : Nat} {x : Str} (hN : X.N[i]? = some x) (hv : Vis X.env.scope x) (hd : (x == ("__debug__" : Str)) = false) (hcd : (x == ("__classdict__" : Str)) = false) : JR X ca (.Name x pos) (fun g => readD g[i]?) := by
  intro ps Hb0 H0 g σ Hb H Q W tk sat po
  refine tE_of (pe_var hN hv hd hcd) ?_
  dsimp only at po
  unfold readD at po
  split at po
  · rename_i d h
    obtain ⟨v, h1, h2⟩ := sat.v i d h
    exact ⟨v, h1, po.done (.refl sat.same) (.inl h2)⟩
  · rename_i b ds h
    obtain ⟨p, vs, h1, h2, h3, h4, h5, _⟩ := sat.l i b ds h
    exact ⟨_, h1, po.done (.refl sat.same) (.inr ⟨p, vs, ds, rfl, rfl, h4, h5⟩)⟩
  · exact False.elim po
theorem j_c {v : V} {d : D} (h : PE X e (tC v)) (r : ∀ H, Rp X.K H v d) : JV X ca e (fun _ => .ok d) := fun ps Hb0 H0 g σ Hb H Q W tk sat po => tE_of h (po.done (.refl sat.same) (r _))
/-- arguments -/
theorem j_nil : JA X ca [] (fun _ => .ok (.tuple [])) := fun ps Hb0 H0 g σ Hb H Q W tk sat po => tA_of pa_nil (po.done (.refl sat.same) ⟨[], rfl, .nil⟩)
theorem j_nilR : JB X ca [] (fun _ => .ok (.tuple [])) := fun ps Hb0 H0 g σ Hb H Q W tk sat po => tA_of pa_nil (po.done (.refl sat.same) ⟨[], rfl, .nil⟩)
def notStar : Expr → Bool
  | .Starred _ _ => false
  | _ => true
theorem star_of {env : Env} (h : notStar e = true) : starEach (e :: es) env = (false, eval e env) :: starEach es env := by
  cases e <;> first | rfl | cases h
theorem j_cons {fs : Ga → Rs D} (hs : notStar e = true) (h : JV X ca e fa) (hr : JA X ca es fs) : JA X ca (e :: es) (fun g => (fa g).bind fun x => (fs g).bind (consD x)) :=
  fun ps Hb0 H0 g σ Hb H Q W tk sat po => tA_of (pa_cons pe_tE pa_tA (star_of hs)) (h.run tk sat po fun d v Hb1 H1 e1 g1 r1 s1 p1 => hr.run tk s1 p1 fun t vs Hb2 H2 e2 g2 r2 s2 p2 => by
    obtain ⟨ds, rfl, ra⟩ := r2
    exact p2.done (.refl s2.same) ⟨_, rfl, .cons (Rp.mono g2.b r1) ra⟩)
theorem j_consR {fs : Ga → Rs D} (hs : notStar e = true) (h : JR X ca e fa) (hr : JB X ca es fs) : JB X ca (e :: es) (fun g => (fa g).bind fun x => (fs g).bind (consD x)) :=
  fun ps Hb0 H0 g σ Hb H Q W tk sat po => tA_of (pa_cons pe_tE pa_tA (star_of hs)) (h.run tk sat po fun d v Hb1 H1 e1 g1 r1 s1 p1 => hr.run tk s1 p1 fun t vs Hb2 H2 e2 g2 r2 s2 p2 => by
    obtain ⟨ds, rfl, ra⟩ := r2
    exact p2.done (.refl s2.same) ⟨_, rfl, .cons (r1.gr g2) ra⟩)
theorem JA.len {fs : Ga → Rs D} : True := trivial
theorem j_tup {fs : Ga → Rs D} {k : Nat} (h : JA X ca es fs) (hl : ∀ g ds, fs g = .ok (.tuple ds) → ds.length ≤ lim) : JV X ca (.Tuple es k pos) fs := by
  intro ps Hb0 H0 g σ Hb H Q W tk sat po
  refine tE_of (pe_tup pa_tA) ?_
  have po' : Post X.K ca Hb H ((fs g).bind fun d => .ok d) Q (fun c d H' => W c d σ H') := by
    generalize fs g = r at po
    cases r <;> exact po
  refine h.run tk sat po' fun d vs Hb1 H1 e1 g1 r1 s1 p1 => ?_
  obtain ⟨ds, rfl, ra⟩ := r1
  exact ⟨limS (by rw [ra.length]; exact hl _ _ e1), fun p hp => p1.done (Gr.lay s1.same hp) (.tup upd_same (ra.mono (Gr.lay s1.same hp).b))⟩
theorem j_lst {fs : Ga → Rs D} (h : JA X ca es fs) (hl : ∀ g ds, fs g = .ok (.tuple ds) → ds.length ≤ lim) : JV X ca (.List es pos) (fun g => (fs g).bind toL) := by
  intro ps Hb0 H0 g σ Hb H Q W tk sat po
  refine tE_of (pe_lst pa_tA) (h.run tk sat po fun d vs Hb1 H1 e1 g1 r1 s1 p1 => ?_)
  obtain ⟨ds, rfl, ra⟩ := r1
  exact ⟨limS (by rw [ra.length]; exact hl _ _ e1), fun p hp => p1.done (Gr.lay s1.same hp) (.lst upd_same (ra.mono (Gr.lay s1.same hp).b))⟩
/-- -a -/
theorem j_neg (h : JV X ca a fa) : JV X ca (.UnaryOp .USub a pos) (fun g => (fa g).bind negD) := fun ps Hb0 H0 g σ Hb H Q W tk sat po => tE_of (pe_un un_neg pe_tE) (h.run tk sat po fun d v Hb1 H1 e1 g1 r1 s1 p1 => by
  unfold negD at p1
  split at p1
  · have q : Rp X.K Hb1 v (.int _) := r1
    cases q
    exact ⟨_, rfl, p1.done (.refl s1.same) (.int _)⟩
  · exact False.elim p1)
/-- a if c else b -/
theorem j_ife (hc : JT X ca c ta) (ha : JV X ca a fa) (hb : JV X ca b fb) : JV X ca (.IfExp c a b pos) (fun g => (ta g).bind fun t => if t then fa g else fb g) :=
  fun ps Hb0 H0 g σ Hb H Q W tk sat po => tE_of (pe_ifExp pt_tT pe_tE pe_tE) (hc.run tk sat po fun t u Hb1 H1 e1 g1 r1 s1 p1 => by
    have r1 : t = u := r1
    subst r1
    cases t with
    | true => exact ha _ _ _ g σ Hb1 H1 Q W tk s1 p1
    | false => exact hb _ _ _ g σ Hb1 H1 Q W tk s1 p1)
/-- x[i] -/
def plainIx : Expr → Bool
  | .Slice _ _ _ _ => false
  | _ => true
theorem plain_of (h : plainIx b = true) : PlainIx b := by
  intro o i
  cases b <;> first | rfl | cases h
theorem j_idx (hp : plainIx b = true) (ha : JR X ca a fa) (hb : JV X ca b fb) : JV X ca (.Subscript a b pos) (fun g => (fa g).bind fun x => (fb g).bind fun y => idxD x y) :=
  fun ps Hb0 H0 g σ Hb H Q W tk sat po => tE_of (pe_ix ix_seq pe_tE pe_tE (plain_of hp)) (ha.run tk sat po fun d x Hb1 H1 e1 g1 r1 s1 p1 => hb.run tk s1 p1 fun e y Hb2 H2 e2 g2 r2 s2 p2 => by
    replace r1 : DpR X.K Hb2 H2 x d := DpR.gr r1 g2
    replace r2 : Rp X.K Hb2 y e := r2
    unfold idxD at p2
    split at p2
    · rename_i xs i
      cases r2
      split at p2
      · rename_i d hd
        rcases r1 with r1 | ⟨_, _, _, _, z, _⟩
        · generalize hdd : (PyData.dict [(.list xs, .none)]) = dd at r1
          cases r1 with
          | scr q =>
            rename_i a ns
            unfold scrD at hdd
            injection hdd with hdd
            injection hdd with hdd _
            injection hdd with hdd _
            injection hdd with hdd
            subst hdd
            obtain ⟨n, hn, hm⟩ : ∃ n : Int, atI ns i = some n ∧ d = .int n := by
              unfold atI at hd ⊢
              rw [List.length_map] at hd
              cases hx : ixN ns.length i with
              | none => rw [hx] at hd; cases hd
              | some j =>
                rw [hx] at hd
                have hd : (ns.map PyData.int)[j]? = some d := hd
                rw [List.getElem?_map] at hd
                cases hj : ns[j]? with
                | none => rw [hj] at hd; cases hd
                | some n => rw [hj] at hd; cases hd; exact ⟨n, hj, rfl⟩
            subst hm
            refine .inl ⟨a, _, i, .int n, rfl, rfl, s2.same.seq q, ?_, p2.done (.refl s2.same) (.int n)⟩
            unfold atI at hn ⊢
            rw [List.length_map]
            cases hx : ixN ns.length i with
            | none => rw [hx] at hn; cases hn
            | some j =>
              rw [hx] at hn
              have hn : ns[j]? = some n := hn
              show (ns.map V.int)[j]? = _
              rw [List.getElem?_map, hn]
              rfl
          | _ => cases hdd
        · cases z
      · exact False.elim p2
    · cases r2
      split at p2
      · rename_i d hd
        obtain ⟨p, ws, rfl, hp, ha⟩ := r1.lst s2.same
        obtain ⟨v, h1, h2⟩ := atI_dp ha hd
        exact .inl ⟨p, ws, _, v, rfl, rfl, .of hp, h1, p2.done (.refl s2.same) h2⟩
      · exact False.elim p2
    · cases r2
      split at p2
      · rename_i d hd
        obtain ⟨p, ws, rfl, hp, ha⟩ := r1.tup s2.same
        obtain ⟨v, h1, h2⟩ := atI_dp ha hd
        exact .inr (.inl ⟨p, ws, _, v, rfl, rfl, .of hp, h1, p2.done (.refl s2.same) h2⟩)
      · exact False.elim p2
    · exact False.elim p2)
end
end Ip

set_option maxHeartbeats 4000000
namespace Ip
open PySem PySem.Spec PyProof.Rows L2
section
variable {X : Cx} {ca : Nat → Addr} {e a b c : Expr} {es rest : List Expr} {pos : Pos} {fa fb fc : Ga → Rs D} {ta tb : Ga → Rs Bool}
/-! ### truth -/
def plainT : Expr → Bool
  | .UnaryOp .Not _ _ => false
  | .BoolOp _ _ _ => false
  | .IfExp _ _ _ _ => false
  | .Compare _ _ _ _ => false
  | _ => true
theorem plainT_of (h : plainT e = true) : ∀ whole, isTrue e X.env whole = (do let v ← whole; standAt e.pos; holding [v] (truthy v)) := by
  intro whole
  cases e with
  | UnaryOp op _ _ => cases op <;> first | rfl | cases h
  | BoolOp _ _ _ => cases h
  | IfExp _ _ _ _ => cases h
  | Compare _ _ _ _ => cases h
  | _ => rfl
theorem isEmpty_len {α β : Type} {xs : List α} {ys : List β} (h : xs.length = ys.length) : (!xs.isEmpty) = !ys.isEmpty := by
  cases xs with
  | nil => cases ys with
    | nil => rfl
    | cons _ _ => cases h
  | cons _ _ => cases ys with
    | nil => cases h
    | cons _ _ => rfl
theorem tru_rp {K : PySem.W.Frag} {Hb H : Hp} {v : V} {d : D} {t : Bool} (sm : Same Hb H) (h : DpR K Hb H v d) (e : truth d = .ok t) : TruV K v H t := by
  cases d with
  | none =>
    rw [h.non]
    cases e
    rfl
  | bool b =>
    rw [h.bl]
    cases e
    rfl
  | int i =>
    rw [h.int]
    cases e
    rfl
  | str x =>
    rw [h.str]
    change (if x.length ≤ lim then Rs.ok ((x.length : Int) != 0) else .bad) = _ at e
    by_cases q : x.length ≤ lim
    · rw [if_pos q] at e
      cases e
      exact ⟨limS q, rfl⟩
    · rw [if_neg q] at e
      cases e
  | list xs =>
    obtain ⟨p, vs, rfl, hp, ha⟩ := h.lst sm
    cases e
    exact .inl ⟨vs, .of hp, (isEmpty_len ha.length).symm⟩
  | tuple xs =>
    obtain ⟨p, vs, rfl, hp, ha⟩ := h.tup sm
    cases e
    exact .inr (.inl ⟨vs, .of hp, (isEmpty_len ha.length).symm⟩)
  | dict _ => cases e
theorem truth_noex {d : D} {c : Nat} : truth d ≠ .ex c := by
  intro z
  cases d with
  | str x =>
    change (if x.length ≤ lim then Rs.ok ((x.length : Int) != 0) else .bad) = _ at z
    split at z <;> cases z
  | _ => cases z
theorem po_truth {Hb H : Hp} {d : D} {Q : Bool → Hp → Prop} {E : XK} (sm : Same Hb H) (po : Po ca Hb H RB (truth d) Q E) : ∃ t, truth d = .ok t ∧ Q t H := by
  cases h : truth d with
  | ok t =>
    rw [h] at po
    exact ⟨t, rfl, po.done (.refl sm) rfl⟩
  | ex c => exact absurd h truth_noex
  | bad =>
    rw [h] at po
    exact False.elim po
theorem j_truth (hp : plainT e = true) (h : JR X ca e fa) : JT X ca e (fun g => (fa g).bind truth) :=
  fun ps Hb0 H0 g σ Hb H Q W tk sat po => tT_of (pt_truth pe_tE (plainT_of hp)) (h.run tk sat po fun d v Hb1 H1 e1 g1 r1 s1 p1 => by
    obtain ⟨t, h1, h2⟩ := po_truth s1.same p1
    exact ⟨t, tru_rp s1.same r1 h1, h2⟩)
theorem j_notV (h : JR X ca a fa) : JV X ca (.UnaryOp .Not a pos) (fun g => ((fa g).bind truth).bind fun b => boolD (!b)) :=
  fun ps Hb0 H0 g σ Hb H Q W tk sat po => tE_of (pe_notT pe_tE) (h.run (R' := RV X.K) (Q1 := Q) (k := fun d => (truth d).bind fun b => boolD (!b)) tk sat (by
    dsimp only at po
    cases hr : fa g <;> rw [hr] at po <;> exact po) fun d v Hb1 H1 e1 g1 r1 s1 p1 => by
    cases ht : truth d with
    | ok t =>
      rw [ht] at p1
      exact ⟨t, tru_rp s1.same r1 ht, p1.done (.refl s1.same) (.bl _)⟩
    | ex c => exact absurd ht truth_noex
    | bad =>
      rw [ht] at p1
      exact False.elim p1)
theorem j_notT (h : JT X ca a ta) : JT X ca (.UnaryOp .Not a pos) (fun g => (ta g).bind fun b => .ok (!b)) :=
  fun ps Hb0 H0 g σ Hb H Q W tk sat po => tT_of (pt_not pt_tT) (h.run tk sat po fun t u Hb1 H1 e1 g1 r1 s1 p1 => by
    have r1 : t = u := r1
    subst r1
    exact p1.done (.refl s1.same) rfl)
/-! ### and, or -/
theorem j_one {op : BoolOp} (h : JV X ca a fa) : JV X ca (.BoolOp op [a] pos) fa := fun ps Hb0 H0 g σ Hb H Q W tk sat po => tE_of (pe_one pe_tE) (h ps Hb0 H0 g σ Hb H Q W tk sat po)
theorem j_andV (h : JV X ca a fa) (hb : JV X ca (.BoolOp .And (b :: rest) pos) fb) : JV X ca (.BoolOp .And (a :: b :: rest) pos) (fun g => (fa g).bind fun x => andD x (fb g)) :=
  fun ps Hb0 H0 g σ Hb H Q W tk sat po => tE_of (pe_and pe_tE pe_tE) (h.run tk sat po fun d v Hb1 H1 e1 g1 r1 s1 p1 => by
    have r1 : Rp X.K Hb1 v d := r1
    unfold andD at p1
    split at p1
    · cases r1
      exact ⟨true, rfl, hb ps Hb0 H0 g σ Hb1 H1 Q W tk s1 p1⟩
    · cases r1
      exact ⟨false, rfl, p1.done (.refl s1.same) (.bl _)⟩
    · exact False.elim p1)
theorem j_orV (h : JV X ca a fa) (hb : JV X ca (.BoolOp .Or (b :: rest) pos) fb) : JV X ca (.BoolOp .Or (a :: b :: rest) pos) (fun g => (fa g).bind fun x => orD x (fb g)) :=
  fun ps Hb0 H0 g σ Hb H Q W tk sat po => tE_of (pe_or pe_tE pe_tE) (h.run tk sat po fun d v Hb1 H1 e1 g1 r1 s1 p1 => by
    have r1 : Rp X.K Hb1 v d := r1
    unfold orD at p1
    split at p1
    · cases r1
      exact ⟨true, rfl, p1.done (.refl s1.same) (.bl _)⟩
    · cases r1
      exact ⟨false, rfl, hb ps Hb0 H0 g σ Hb1 H1 Q W tk s1 p1⟩
    · exact False.elim p1)
theorem j_wt (h : JW X ca e ta) : JT X ca e ta := fun ps Hb0 H0 g σ Hb H Q W tk sat po => tT_of (PW.pt pw_tW) (h ps Hb0 H0 g σ Hb H Q W tk sat po)
theorem j_and1 (h : JT X ca a ta) : JW X ca (.BoolOp .And [a] pos) ta := fun ps Hb0 H0 g σ Hb H Q W tk sat po => tW_of (pw_and1 pt_tT) (h ps Hb0 H0 g σ Hb H Q W tk sat po)
theorem j_or1 (h : JT X ca a ta) : JW X ca (.BoolOp .Or [a] pos) ta := fun ps Hb0 H0 g σ Hb H Q W tk sat po => tW_of (pw_or1 pt_tT) (h ps Hb0 H0 g σ Hb H Q W tk sat po)
theorem j_andW (h : JT X ca a ta) (hb : JW X ca (.BoolOp .And (b :: rest) pos) tb) : JW X ca (.BoolOp .And (a :: b :: rest) pos) (fun g => (ta g).bind fun c => if c then tb g else .ok false) :=
  fun ps Hb0 H0 g σ Hb H Q W tk sat po => tW_of (pw_and pt_tT pw_tW) (h.run tk sat po fun t u Hb1 H1 e1 g1 r1 s1 p1 => by
    have r1 : t = u := r1
    subst r1
    cases t with
    | true => exact hb ps Hb0 H0 g σ Hb1 H1 Q W tk s1 p1
    | false => exact p1.done (.refl s1.same) rfl)
theorem j_orW (h : JT X ca a ta) (hb : JW X ca (.BoolOp .Or (b :: rest) pos) tb) : JW X ca (.BoolOp .Or (a :: b :: rest) pos) (fun g => (ta g).bind fun c => if c then .ok true else tb g) :=
  fun ps Hb0 H0 g σ Hb H Q W tk sat po => tW_of (pw_or pt_tT pw_tW) (h.run tk sat po fun t u Hb1 H1 e1 g1 r1 s1 p1 => by
    have r1 : t = u := r1
    subst r1
    cases t with
    | true => exact p1.done (.refl s1.same) rfl
    | false => exact hb ps Hb0 H0 g σ Hb1 H1 Q W tk s1 p1)
/-! ### a < b < c -/
theorem chain_po {k : Nat} (hr : Room k X.A) (o p : Cop) (ha : JR X ca a fa) (hb : JR X ca b fb) (hc : JR X ca c fc) {ps : List Addr} {Hb0 H0 : Hp} {g : Ga} {σ : L2.St} {Hb H : Hp} {Q : VK} {W : WX} (tk : Takes X W) (sat : Sat X.K ps Hb0 H0 g σ Hb H)
    (po : Post X.K ca Hb H ((fa g).bind fun x => (fb g).bind fun y => (cmpD o x y).bind fun t => if t then (fc g).bind fun z => (cmpD p y z).bind boolD else .ok (.bool false)) Q (fun c d H' => W c d σ H')) :
    tChain (rD X.K ca fun x y => (cmpD o x y).bind boolD) (rD X.K ca fun x y => (cmpD p x y).bind boolD) (tE X a) (tE X b) (tE X c) σ H Q :=
  ha.run tk sat po fun d x Hb1 H1 e1 g1 r1 s1 p1 => hb.run tk s1 p1 fun e y Hb2 H2 e2 g2 r2 s2 p2 => by
    refine ⟨Hb2, d, e, fun c d H' => W c d σ H', s2.same, r1.gr g2, r2, ?_⟩
    dsimp only
    cases hq : cmpD o d e with
    | ok t =>
      rw [hq] at p2
      intro v Hb3 H3 g3 r3
      have r3 : Rp X.K Hb3 v (.bool t) := r3
      cases r3
      refine ⟨t, rfl, ?_⟩
      cases t with
      | true =>
        have p3 := p2.gr g3
        exact hc.run tk (s2.go g3) p3 fun z w Hb4 H4 e4 g4 r4 s4 p4 => ⟨Hb4, e, z, _, s4.same, (DpR.gr r2 g3).gr g4, r4, p4⟩
      | false => exact p2.done g3 (.bl _)
    | ex c =>
      rw [hq] at p2
      exact p2
    | bad =>
      rw [hq] at p2
      exact p2
theorem j_chain {k : Nat} (hr : Room k X.A) (o p : Cop) (hm : lastMarks [opC o, opC p] [b, c] = false) (ha : JR X ca a fa) (hb : JR X ca b fb) (hc : JR X ca c fc) :
    JV X ca (.Compare a [opC o, opC p] [b, c] pos) (fun g => (fa g).bind fun x => (fb g).bind fun y => (cmpD o x y).bind fun t => if t then (fc g).bind fun z => (cmpD p y z).bind boolD else .ok (.bool false)) :=
  fun ps Hb0 H0 g σ Hb H Q W tk sat po => tE_of (pe_chain (cmp_ok hr o).r (cmp_ok hr p).r pe_tE pe_tE pe_tE hm) (chain_po hr o p ha hb hc tk sat po)
/-- a value that is a bool at every turn, as a test -/
theorem po_boolT {K : PySem.W.Frag} {Hb H : Hp} {r : Rs D} {Q : Bool → Hp → Prop} {E : XK} (hb : ∀ d, r = .ok d → ∃ t, d = .bool t) (po : Po ca Hb H RB (r.bind truth) Q E) : Post K ca Hb H r (fun x H' => ∃ k, x = V.bl k ∧ Q k H') E := by
  cases r with
  | ok d =>
    obtain ⟨t, rfl⟩ := hb d rfl
    intro v Hb' H' x q
    have q' : Rp K Hb' v (.bool t) := q
    cases q'
    exact ⟨t, rfl, po t Hb' H' x rfl⟩
  | ex c => exact po
  | bad => exact po
theorem j_chainT {k : Nat} (hr : Room k X.A) (o p : Cop) (hm : lastMarks [opC o, opC p] [b, c] = false) (ha : JR X ca a fa) (hb : JR X ca b fb) (hc : JR X ca c fc) :
    JT X ca (.Compare a [opC o, opC p] [b, c] pos) (fun g => ((fa g).bind fun x => (fb g).bind fun y => (cmpD o x y).bind fun t => if t then (fc g).bind fun z => (cmpD p y z).bind boolD else .ok (.bool false)).bind truth) :=
  fun ps Hb0 H0 g σ Hb H Q W tk sat po => tT_of (pt_chain (cmp_ok hr o).r (cmp_ok hr p).r pe_tE pe_tE pe_tE hm) (chain_po hr o p ha hb hc tk sat (po_boolT (by
    intro d hd
    cases h1 : fa g with
    | ok x =>
      rw [h1] at hd
      cases h2 : fb g with
      | ok y =>
        rw [h2] at hd
        change ((cmpD o x y).bind _) = _ at hd
        cases h3 : cmpD o x y with
        | ok t =>
          rw [h3] at hd
          cases t with
          | false =>
            cases hd
            exact ⟨_, rfl⟩
          | true =>
            change ((fc g).bind _) = _ at hd
            cases h4 : fc g with
            | ok z =>
              rw [h4] at hd
              change ((cmpD p y z).bind _) = _ at hd
              cases h5 : cmpD p y z with
              | ok u =>
                rw [h5] at hd
                cases hd
                exact ⟨_, rfl⟩
              | ex _ => rw [h5] at hd; cases hd
              | bad => rw [h5] at hd; cases hd
            | ex _ => rw [h4] at hd; cases hd
            | bad => rw [h4] at hd; cases hd
        | ex _ => rw [h3] at hd; cases hd
        | bad => rw [h3] at hd; cases hd
      | ex _ => rw [h2] at hd; cases hd
      | bad => rw [h2] at hd; cases hd
    | ex _ => rw [h1] at hd; cases hd
    | bad => rw [h1] at hd; cases hd) po))
end
end Ip

set_option maxHeartbeats 4000000
namespace Ip
open PySem PySem.Spec PyProof.Rows L2
section
variable {X : Cx} {ca : Nat → Addr} {e a b c : Expr} {es rest : List Expr} {pos p2 : Pos} {fa fb fc fs : Ga → Rs D} {ta tb : Ga → Rs Bool}
/-! ### a[lo:hi] -/
def RO : Option Int → Option Int → Hp → Hp → Prop := fun a b _ _ => a = b
def tOo (X : Cx) (e : Option Expr) : TO := fun σ H Q => ∀ pins s, Inv X pins σ H s → ∀ (t : TO), PO X e t → t σ H Q → True
abbrev JO (X : Cx) (ca : Nat → Addr) (e : Option Expr) (f : Ga → Rs (Option Int)) : Prop := ∃ t : TO, PO X e t ∧ JG X ca t RO f
theorem jo_none : JO X ca none (fun _ => .ok none) := ⟨tNoPart, po_none, fun ps Hb0 H0 g σ Hb H Q W tk sat po => po.done (.refl sat.same) rfl⟩
def isNoP : E → Bool
  | .noP => true
  | _ => false
theorem jo_some {i : E} (hi : isNoP i = false) (h : JV X ca e fa) : JO X ca (some e) (fun g => part i (fa g)) := by
  refine ⟨tPart (tE X e), po_some pe_tE, fun ps Hb0 H0 g σ Hb H Q W tk sat po => ?_⟩
  have po' : Po ca Hb H RO ((fa g).bind fun d => part i (.ok d)) Q (fun c d H' => W c d σ H') := by
    dsimp only at po
    cases hr : fa g with
    | ok d => rw [hr] at po; exact po
    | ex c => rw [hr] at po; cases i <;> first | exact po | cases hi
    | bad => rw [hr] at po; cases i <;> first | exact po | cases hi
  refine h.run tk sat po' fun d v Hb1 H1 e1 g1 r1 s1 p1 => ?_
  have r1 : Rp X.K Hb1 v d := r1
  cases r1 with
  | int n => exact ⟨n, rfl, by cases i <;> first | exact p1.done (.refl s1.same) rfl | cases hi⟩
  | _ => cases i <;> first | exact False.elim p1 | cases hi
theorem cut_all {α β : Type} {ws : List β} {xs : List α} {l u : Option Int} (hl : ws.length = xs.length) (h1 : HT.sIx ws.length 0 l = 0) (h2 : HT.sIx ws.length ws.length u = ws.length) : cutL xs l u = xs := by
  unfold cutL
  rw [← hl, h1, h2, List.drop_zero, Nat.sub_zero, hl, List.take_length]
theorem j_slc {fl fh : Ga → Rs (Option Int)} {lo hi : Option Expr} (h : JR X ca a fa) (hl : JO X ca lo fl) (hh : JO X ca hi fh) : JV X ca (.Subscript a (.Slice lo hi none p2) pos) (fun g => (fa g).bind fun x => (fl g).bind fun l => (fh g).bind fun u => slcD x l u) := by
  obtain ⟨tl, pl, jl⟩ := hl
  obtain ⟨th, ph, jh⟩ := hh
  refine fun ps Hb0 H0 g σ Hb H Q W tk sat po => tE_of (pe_slice (SlR.or sl_list (SlR.or sl_tupA sl_str)) pe_tE pl ph) (h.run tk sat po fun d x Hb1 H1 e1 g1 r1 s1 p1 => jl.run tk s1 p1 fun l l' Hb2 H2 e2 g2 r2 s2 p2 => jh.run tk s2 p2 fun u u' Hb3 H3 e3 g3 r3 s3 p3 => ?_)
  have r2 : l = l' := r2
  have r3 : u = u' := r3
  subst r2 r3
  replace r1 : DpR X.K Hb3 H3 x d := (DpR.gr r1 g2).gr g3
  unfold slcD at p3
  split at p3
  · obtain ⟨p, ws, rfl, hp, ha⟩ := r1.lst s3.same
    exact .inl ⟨p, ws, rfl, .of hp, fun q hq => p3.done (Gr.lay s3.same hq) (.lst upd_same ((ha.cut l u).mono (Gr.lay s3.same hq).b))⟩
  · rcases id r1 with r1' | ⟨_, _, _, _, z, _⟩
    · obtain ⟨p, ws, rfl, hp, ha⟩ := r1.tup s3.same
      refine .inr (.inl ⟨p, ws, rfl, .of hp, fun hw => ?_, fun _ q hq => p3.done (Gr.lay s3.same hq) (.tup upd_same ((ha.cut l u).mono (Gr.lay s3.same hq).b))⟩)
      rw [cut_all ha.length hw.1 hw.2] at p3
      exact p3.done (.refl s3.same) r1'
    · cases z
  · rename_i z
    split at p3
    · rename_i hz
      have e := DpR.str r1
      subst e
      exact .inr (.inr ⟨z, rfl, Nat.le_trans hz (by decide), p3.done (.refl s3.same) (.str _)⟩)
    · exact False.elim p3
  · exact False.elim p3
/-! ### a[::-1] of a list -/
theorem j_rev {k : Nat} {p1 q2 p3 : Pos} (h : JR X ca a fa) : JV X ca (.Subscript a (.Slice none none (some (.UnaryOp .USub (.Constant (.int 1) k p1) q2)) p3) pos) (fun g => (fa g).bind revD) :=
  fun ps Hb0 H0 g σ Hb H Q W tk sat po => tE_of (pe_revS pe_tE) (h.run tk sat po fun d x Hb1 H1 e1 g1 r1 s1 p1 => by
    unfold revD at p1
    split at p1
    · obtain ⟨p, ws, rfl, hp, ha⟩ := DpR.lst r1 s1.same
      exact ⟨p, ws, rfl, .inl ⟨.of hp, fun q hq => p1.done (Gr.lay s1.same hq) (.lst upd_same (ha.reverse.mono (Gr.lay s1.same hq).b))⟩⟩
    · obtain ⟨p, ws, rfl, hp, ha⟩ := DpR.tup r1 s1.same
      exact ⟨p, ws, rfl, .inr ⟨.of hp, fun q hq => p1.done (Gr.lay s1.same hq) (.tup upd_same (ha.reverse.mono (Gr.lay s1.same hq).b))⟩⟩
    · exact False.elim p1)
/-! ### calls -/
def noStars (es : List Expr) : Bool := es.all notStar
theorem back_of {env : Env} : ∀ {es : List Expr}, noStars es = true → (backTo pos (starEach es env)).any (·.1) = false
  | [], _ => rfl
  | e :: r, h => by
    unfold noStars at h
    rw [List.all_cons, Bool.and_eq_true] at h
    rw [star_of h.1]
    show (false || (backTo pos (starEach r env)).any (·.1)) = false
    rw [back_of h.2]
    rfl
theorem star1 {env : Env} (h : notStar e = true) : starEach [e] env = [(false, eval e env)] := star_of h
/-- a def's promise by data -/
def spD (K : PySem.W.Frag) (ca : Nat → Addr) (n : Nat) (f : List D → Rs D) : Sp := fun vs H Q E => vs.length = n ∧ ∃ Hb ds, Same Hb H ∧ RpAll K Hb vs ds ∧ Post K ca Hb H (f ds) Q E
structure FOk (X : Cx) (ca : Nat → Addr) (k : Nat) (x : Str) (f : List D → Rs D) : Prop where
  ex : ∃ fa fd ps, X.mg x = some (.ref fa) ∧ PySem.W.keepIn X.K (.ref fa) = true ∧ Binds X.K fd ps [] ∧ FnOk X.prog X.w X.K X.mg X.base (L2.CX X.prog X.w) k fa fd ps (spD X.K ca ps.length f) ∧ ∀ ds, f ds ≠ .bad → ds.length = ps.length
  dbg : (x == ("__debug__" : Str)) = false
theorem po_nb {α β : Type} {Hb H : Hp} {R : α → β → Hp → Hp → Prop} {r : Rs α} {Q : β → Hp → Prop} {E : XK} (h : Po ca Hb H R r Q E) : r ≠ .bad := by
  intro z
  subst z
  exact h
theorem j_call {k : Nat} {x : Str} {p : Pos} {f : List D → Rs D} (hr : Room k X.A) (hg : Gl X x) (F : FOk X ca k x f) (hs : notStar e = true) (hns : noStars es = true) (h : JA X ca (e :: es) fs) : JV X ca (.Call (.Name x p) (e :: es) [] pos) (fun g => (fs g).bind (argsD f)) := by
  obtain ⟨fa, fd, ps, hm, hk, hb, fo, hl⟩ := F.ex
  refine fun ps Hb0 H0 g σ Hb H Q W tk sat po => tE_of (pe_callS (E := WE W) fo hr hg hm hk hb (fun σ => passAt tk σ) pa_tA F.dbg (star_of hs) (back_of hns)) (h.run tk sat po fun d vs Hb1 H1 e1 g1 r1 s1 p1 => ?_)
  obtain ⟨ds, rfl, ra⟩ := r1
  exact ⟨by rw [ra.length]; exact hl ds (po_nb p1), Hb1, ds, s1.same, ra, p1⟩
/-- ClD as the layer's CallR -/
def rC (K : PySem.W.Frag) (ca : Nat → Addr) (o : List D → Rs D) : List V → Hp → VK → Prop := fun vs H Q => ∃ Hb ds E, Same Hb H ∧ RAll K Hb H vs ds ∧ Post K ca Hb H (o ds) Q E
theorem ClD.r {f : Value} {o : List D → Rs D} (h : ClD X ca f o) : CallR X f (rC X.K ca o) := by
  intro pins s σ H vs us Q I r ⟨Hb, ds, E, sm, ra, po⟩
  exact h pins s σ Hb H vs us ds Q E I r sm ra po
theorem bl_po {o : List D → Rs D} (h : JB X ca es fs) {ps : List Addr} {Hb0 H0 : Hp} {g : Ga} {σ : L2.St} {Hb H : Hp} {Q : VK} {W : WX} (tk : Takes X W) (sat : Sat X.K ps Hb0 H0 g σ Hb H)
    (po : Post X.K ca Hb H ((fs g).bind (argsD o)) Q (fun c d H' => W c d σ H')) : tCB (rC X.K ca o) (tAr X es) σ H Q :=
  h.run tk sat po fun d vs Hb1 H1 e1 g1 r1 s1 p1 => by
    obtain ⟨ds, rfl, ra⟩ := r1
    exact ⟨Hb1, ds, _, s1.same, ra, p1⟩
theorem j_blB {x : Str} {p : Pos} {id : String} {o : List D → Rs D} (hc : ClD X ca (.builtin id) o) (hg : Gl X x) (hm : X.mg x = none) (hv : bootBuiltins x = some (.builtin id)) (hn : x ≠ "__name__") (hdb : (x == ("__debug__" : Str)) = false)
    (hs : notStar e = true) (hns : noStars es = true) (h : JB X ca (e :: es) fs) : JV X ca (.Call (.Name x p) (e :: es) [] pos) (fun g => (fs g).bind (argsD o)) :=
  fun ps Hb0 H0 g σ Hb H Q W tk sat po => tE_of (pe_callB hc.r hg hm hv pa_tA hn hdb (star_of hs) (back_of hns)) (bl_po h tk sat po)
theorem j_blT {x : Str} {p : Pos} {T : String} {o : List D → Rs D} (hc : ClD X ca (.type T) o) (hg : Gl X x) (hm : X.mg x = none) (hv : bootBuiltins x = some (.type T)) (hn : x ≠ "__name__") (hdb : (x == ("__debug__" : Str)) = false)
    (hs : notStar e = true) (hns : noStars es = true) (h : JB X ca (e :: es) fs) : JV X ca (.Call (.Name x p) (e :: es) [] pos) (fun g => (fs g).bind (argsD o)) :=
  fun ps Hb0 H0 g σ Hb H Q W tk sat po => tE_of (pe_callTy hc.r hg hm hv pa_tA hn hdb (star_of hs) (back_of hns)) (bl_po h tk sat po)
/-! ### isinstance(a, T) -/
def tyS : Ty → String
  | .int => "int" | .bool => "bool" | .tup => "tuple" | .lst => "list" | .str => "str"
def tyOf : D → String
  | .none => "NoneType" | .bool _ => "bool" | .int _ => "int" | .str _ => "str" | .list _ => "list" | .tuple _ => "tuple" | .dict _ => "dict"
theorem kit_all (t : Ty) (d : D) (h : ∀ kvs, d ≠ .dict kvs) : kitB (tyOf d) (tyS t) = some (isiD t d) := by
  cases d with
  | dict kvs => exact absurd rfl (h kvs)
  | none => cases t with
    | int => exact (by decide +kernel : kitB "NoneType" "int" = some false)
    | bool => exact (by decide +kernel : kitB "NoneType" "bool" = some false)
    | tup => exact (by decide +kernel : kitB "NoneType" "tuple" = some false)
    | lst => exact (by decide +kernel : kitB "NoneType" "list" = some false)
    | str => exact (by decide +kernel : kitB "NoneType" "str" = some false)
  | bool b => cases t with
    | int => exact (by decide +kernel : kitB "bool" "int" = some true)
    | bool => exact (by decide +kernel : kitB "bool" "bool" = some true)
    | tup => exact (by decide +kernel : kitB "bool" "tuple" = some false)
    | lst => exact (by decide +kernel : kitB "bool" "list" = some false)
    | str => exact (by decide +kernel : kitB "bool" "str" = some false)
  | int i => cases t with
    | int => exact (by decide +kernel : kitB "int" "int" = some true)
    | bool => exact (by decide +kernel : kitB "int" "bool" = some false)
    | tup => exact (by decide +kernel : kitB "int" "tuple" = some false)
    | lst => exact (by decide +kernel : kitB "int" "list" = some false)
    | str => exact (by decide +kernel : kitB "int" "str" = some false)
  | str x => cases t with
    | int => exact (by decide +kernel : kitB "str" "int" = some false)
    | bool => exact (by decide +kernel : kitB "str" "bool" = some false)
    | tup => exact (by decide +kernel : kitB "str" "tuple" = some false)
    | lst => exact (by decide +kernel : kitB "str" "list" = some false)
    | str => exact (by decide +kernel : kitB "str" "str" = some true)
  | list xs => cases t with
    | int => exact (by decide +kernel : kitB "list" "int" = some false)
    | bool => exact (by decide +kernel : kitB "list" "bool" = some false)
    | tup => exact (by decide +kernel : kitB "list" "tuple" = some false)
    | lst => exact (by decide +kernel : kitB "list" "list" = some true)
    | str => exact (by decide +kernel : kitB "list" "str" = some false)
  | tuple xs => cases t with
    | int => exact (by decide +kernel : kitB "tuple" "int" = some false)
    | bool => exact (by decide +kernel : kitB "tuple" "bool" = some false)
    | tup => exact (by decide +kernel : kitB "tuple" "tuple" = some true)
    | lst => exact (by decide +kernel : kitB "tuple" "list" = some false)
    | str => exact (by decide +kernel : kitB "tuple" "str" = some false)
theorem tyx_of {K : PySem.W.Frag} {Hb H : Hp} {v : V} {d : D} (sm : Same Hb H) (h : DpR K Hb H v d) (hd : ∀ kvs, d ≠ .dict kvs) : TyX K H v (.type (tyOf d)) := by
  cases d with
  | dict kvs => exact absurd rfl (hd kvs)
  | none => rw [h.non]; exact .base .non
  | bool b => rw [h.bl]; exact .base (.bl _)
  | int i => rw [h.int]; exact .base (.int _)
  | str x => rw [h.str]; exact .base (.str _)
  | list xs =>
    obtain ⟨p, ws, rfl, hp, ha⟩ := h.lst sm
    exact .base (.lst hp)
  | tuple xs =>
    obtain ⟨p, ws, rfl, hp, ha⟩ := h.tup sm
    exact .base (.tup hp)
theorem j_isi {t : Ty} {p p3 : Pos} (hg : Gl X "isinstance") (hm : X.mg "isinstance" = none) (hg2 : Gl X (Str.ofString (tyS t))) (hm2 : X.mg (Str.ofString (tyS t)) = none) (hs : notStar a = true) (h : JR X ca a fa) :
    JV X ca (.Call (.Name "isinstance" p) [a, .Name (Str.ofString (tyS t)) p3] [] pos) (fun g => (fa g).bind (isiR t)) := by
  have hb : PE X (.Name (Str.ofString (tyS t)) p3) (tC (.ty (tyS t))) := pe_bltn hg2 hm2 (u := .type (tyS t)) (by cases t <;> decide +kernel) rfl (by cases t <;> decide +kernel) (by cases t <;> decide +kernel)
  refine fun ps Hb0 H0 g σ Hb H Q W tk sat po => tE_of (pe_callB call_isi hg hm (by decide +kernel) (pa_cons pe_tE (pa_cons hb pa_nil (star_of rfl)) (star_of hs)) (by decide) (by decide) (star_of hs) (back_of rfl)) (h.run tk sat po fun d v Hb1 H1 e1 g1 r1 s1 p1 => ?_)
  have nd : ∀ kvs, d ≠ .dict kvs := fun kvs z => by
    subst z
    exact False.elim p1
  have ep : isiR t d = .ok (.bool (isiD t d)) := by
    cases d with
    | dict kvs => exact absurd rfl (nd kvs)
    | _ => rfl
  rw [ep] at p1
  exact ⟨v, .ty (tyS t), .type (tyOf d), .type (tyS t), isiD t d, rfl, .ty _, tyx_of s1.same r1 nd, kit_ty (kit_all t d nd), p1.done (.refl s1.same) (.bl _)⟩
end
end Ip

set_option maxHeartbeats 4000000
namespace Ip
open PySem PySem.Spec PyProof.Rows L2
/-! ### stores -/
section
variable {K : PySem.W.Frag} {ps : List Addr} {Hb0 H0 Hb H Hb' H' : Hp} {g : Ga} {σ : L2.St}
theorem get_set {α : Type} {l : List α} {i j : Nat} {a : α} (h : i < l.length) : (l.set i a)[j]? = if j = i then some a else l[j]? := by
  by_cases e : j = i
  · subst e
    rw [if_pos rfl, List.getElem?_set_self h]
  · rw [if_neg e, List.getElem?_set_ne (Ne.symm e)]
theorem set_get {α : Type} {l : List α} {i j : Nat} {a b : α} (h : (l.set i a)[j]? = some b) : (j = i ∧ a = b) ∨ (j ≠ i ∧ l[j]? = some b) := by
  by_cases e : j = i
  · subst e
    left
    refine ⟨rfl, ?_⟩
    by_cases q : j < l.length
    · rw [List.getElem?_set_self q] at h
      exact Option.some.inj h
    · rw [List.getElem?_eq_none (by rw [List.length_set]; omega)] at h
      cases h
  · right
    rw [List.getElem?_set_ne (Ne.symm e)] at h
    exact ⟨e, h⟩
theorem Sat.clr (s : Sat K ps Hb0 H0 g σ Hb H) (i : Nat) (x : Option V) : Sat K ps Hb0 H0 (g.set i none) (σ.set i x) Hb H := by
  refine ⟨s.gr, by rw [List.length_set, List.length_set, s.len], fun j d e => ?_, fun j b ds e => ?_, fun j b kvs e => ?_, fun j l a c p e1 e2 o1 o2 f1 f2 => ?_⟩
  · rcases set_get e with ⟨_, z⟩ | ⟨h1, h2⟩
    · cases z
    · obtain ⟨v, h3, h4⟩ := s.v j d h2
      exact ⟨v, by rw [List.getElem?_set_ne (Ne.symm h1)]; exact h3, h4⟩
  · rcases set_get e with ⟨_, z⟩ | ⟨h1, h2⟩
    · cases z
    · obtain ⟨p, vs, h3, h4⟩ := s.l j b ds h2
      exact ⟨p, vs, by rw [List.getElem?_set_ne (Ne.symm h1)]; exact h3, h4⟩
  · rcases set_get e with ⟨_, z⟩ | ⟨h1, h2⟩
    · cases z
    · obtain ⟨p, vs, h3, h4⟩ := s.m j b kvs h2
      exact ⟨p, vs, by rw [List.getElem?_set_ne (Ne.symm h1)]; exact h3, h4⟩
  · rcases set_get e1 with ⟨_, z⟩ | ⟨h1, h2⟩
    · cases z
    · rcases set_get e2 with ⟨_, z⟩ | ⟨h3, h4⟩
      · cases z
      · rw [List.getElem?_set_ne (Ne.symm h1)] at f1
        rw [List.getElem?_set_ne (Ne.symm h3)] at f2
        exact s.d j l a c p h2 h4 o1 o2 f1 f2
theorem Sat.set (s : Sat K ps Hb0 H0 g σ Hb H) {i : Nat} {v : V} {d : D} (hi : i < g.length) (r : Rp K Hb v d) : Sat K ps Hb0 H0 (g.set i (some (.v d))) (σ.set i (some v)) Hb H := by
  have hσ : i < σ.length := by rw [s.len]; exact hi
  refine ⟨s.gr, by rw [List.length_set, List.length_set, s.len], fun j d' e => ?_, fun j b ds e => ?_, fun j b kvs e => ?_, fun j l a c p e1 e2 o1 o2 f1 f2 => ?_⟩
  · rcases set_get e with ⟨h1, z⟩ | ⟨h1, h2⟩
    · cases z
      subst h1
      exact ⟨v, List.getElem?_set_self hσ, r⟩
    · obtain ⟨v, h3, h4⟩ := s.v j d' h2
      exact ⟨v, by rw [List.getElem?_set_ne (Ne.symm h1)]; exact h3, h4⟩
  · rcases set_get e with ⟨_, z⟩ | ⟨h1, h2⟩
    · cases z
    · obtain ⟨p, vs, h3, h4⟩ := s.l j b ds h2
      exact ⟨p, vs, by rw [List.getElem?_set_ne (Ne.symm h1)]; exact h3, h4⟩
  · rcases set_get e with ⟨_, z⟩ | ⟨h1, h2⟩
    · cases z
    · obtain ⟨p, vs, h3, h4⟩ := s.m j b kvs h2
      exact ⟨p, vs, by rw [List.getElem?_set_ne (Ne.symm h1)]; exact h3, h4⟩
  · rcases set_get e1 with ⟨_, z⟩ | ⟨h1, h2⟩
    · cases z
      cases o1
    · rcases set_get e2 with ⟨_, z⟩ | ⟨h3, h4⟩
      · cases z
        cases o2
      · rw [List.getElem?_set_ne (Ne.symm h1)] at f1
        rw [List.getElem?_set_ne (Ne.symm h3)] at f2
        exact s.d j l a c p h2 h4 o1 o2 f1 f2
theorem Sat.wipe (s : Sat K ps Hb0 H0 g σ Hb H) : ∀ vs : List Nat, Sat K ps Hb0 H0 (wipeG g vs) (L2.wipe σ vs) Hb H
  | [] => s
  | v :: vs => (s.wipe vs).clr v none
/-- an unseen object of the ground changes -/
theorem Gr.mut {p : Addr} {o : HO} (x : Gr Hb H Hb' H') (h : H p = none) (hb : Hb' p = none) : Gr Hb H Hb' (upd H' p o) := by
  refine ⟨x.b, fun b u e => ?_, fun b u e => ?_, x.n⟩
  · rw [upd_ne (ne_of_none e h)]
    exact x.h b u e
  · rw [upd_ne (ne_of_none e hb)]
    exact x.s b u e
/-- an unseen object comes to the ground -/
theorem Gr.seen {p : Addr} {o : HO} (x : Gr Hb H Hb' H') (h : H p = none) (hp : H' p = some o) (hb : Hb' p = none) : Gr Hb H (upd Hb' p o) H' := by
  refine ⟨fun b u e => ?_, x.h, fun b u e => ?_, fun a h1 h2 => ?_⟩
  · have e' := x.b b u e
    rw [upd_ne (ne_of_none e' hb)]
    exact e'
  · by_cases q : b = p
    · subst q
      rw [upd_same] at e
      cases e
      exact hp
    · rw [upd_ne q] at e
      exact x.s b u e
  · rw [upd_ne (fun z => h2 (by rw [z]; exact h))]
    exact x.n a h1 h2
end
theorem JF.v {X : Cx} {ca : Nat → Addr} {t : TE} {f : Ga → Rs D} (h : JF X ca t f) : JG X ca t (RV X.K) f := fun ps Hb0 H0 g σ Hb H Q W tk sat po => h ps Hb0 H0 g σ Hb H Q W tk sat (by
  cases hf : f g with
  | ok d =>
    rw [hf] at po
    intro v Hb1 H1 g1 r1
    obtain ⟨p, vs, ds, rfl, rfl, h0, h1, h2, h3⟩ := r1
    exact po _ _ H1 (g1.seen h0 h2 h1) (.lst upd_same (h3.mono fun b u e => by rw [upd_ne (ne_of_none e h1)]; exact e))
  | ex c => rw [hf] at po; exact po
  | bad => rw [hf] at po; exact po)
/-- a new list by a rule that lays it last -/
theorem RF.lay {K : PySem.W.Frag} {Hb H Hb1 H1 : Hp} {p : Addr} {vs : List V} {ds : List D} {ca : Nat → Addr} {Q : VK} {E : XK} (x : Gr Hb H Hb1 H1) (hp : H1 p = none) (ha : RpAll K Hb1 vs ds) (po : Po ca Hb H (RF K H) (.ok (.list ds)) Q E) : Q (.ref p) (upd H1 p (.lst vs)) :=
  po.done (x.trans (Gr.hid x.s hp)) ⟨p, vs, ds, rfl, rfl, x.h.free hp, x.s.free hp, upd_same, ha⟩
/-! ### targets -/
def namesT : Tg → List Nat
  | .nm i => [i]
  | .t2 a b => namesT a ++ namesT b
  | .t3 a b c => namesT a ++ namesT b ++ namesT c
def tgG (K : PySem.W.Frag) : Tg → TG
  | .nm i => gName i
  | .t2 a b => gTup K 2 (gCons (tgG K a) (gCons (tgG K b) gNil))
  | .t3 a b c => gTup K 3 (gCons (tgG K a) (gCons (tgG K b) (gCons (tgG K c) gNil)))
theorem wipe_set {σ : L2.St} {i : Nat} {x : Option V} : ∀ {vs : List Nat}, i ∈ vs → L2.wipe (σ.set i x) vs = L2.wipe σ vs
  | v :: vs, h => by
    show (L2.wipe (σ.set i x) vs).set v none = (L2.wipe σ vs).set v none
    by_cases e : i ∈ vs
    · rw [wipe_set e]
    · have e2 : i = v := by
        rcases List.mem_cons.mp h with z | z
        · exact z
        · exact absurd z e
      subst e2
      have key : ∀ ws : List Nat, L2.wipe (σ.set i x) ws = if i ∈ ws then L2.wipe σ ws else (L2.wipe σ ws).set i x := by
        intro ws
        induction ws with
        | nil => rfl
        | cons w ws ih =>
          show (L2.wipe (σ.set i x) ws).set w none = _
          rw [ih]
          by_cases hw : i ∈ ws
          · rw [if_pos hw, if_pos (List.mem_cons_of_mem _ hw)]
            rfl
          · rw [if_neg hw]
            by_cases hiw : i = w
            · subst hiw
              rw [if_pos List.mem_cons_self, List.set_set]
              rfl
            · rw [if_neg (by rw [List.mem_cons]; exact fun z => z.elim hiw hw), List.set_comm _ _ hiw]
              rfl
      rw [key vs, if_neg e, List.set_set]
theorem tg_run {K : PySem.W.Frag} : ∀ (t : Tg) {d : D} {g g' : Ga} {ps : List Addr} {Hb0 H0 Hb H : Hp} {σ : L2.St} {v : V} {Q : L2.St → Hp → Prop}, bindT t d g = some g' → Sat K ps Hb0 H0 g σ Hb H → Rp K Hb v d →
    (∀ σ', Sat K ps Hb0 H0 g' σ' Hb H → (∀ vs : List Nat, (∀ i ∈ namesT t, i ∈ vs) → L2.wipe σ' vs = L2.wipe σ vs) → Q σ' H) → tgG K t v σ H Q
  | .nm i, d, g, g', ps, Hb0, H0, Hb, H, σ, v, Q, e, s, r, k => by
    unfold bindT at e
    split at e
    · rename_i hi
      rw [Bool.and_eq_true] at hi
      cases e
      exact k _ (s.set (of_decide_eq_true hi.1) r) fun vs hv => wipe_set (hv i (by simp [namesT]))
    · cases e
  | .t2 a b, d, g, g', ps, Hb0, H0, Hb, H, σ, v, Q, e, s, r, k => by
    cases d with
    | tuple xs =>
      cases xs with
      | nil => cases e
      | cons x xs => cases xs with
        | nil => cases e
        | cons y xs => cases xs with
          | cons _ _ => cases e
          | nil =>
            have e : (bindT a x g).bind (fun g => bindT b y g) = some g' := e
            cases ea : bindT a x g with
            | none => rw [ea] at e; cases e
            | some g1 =>
              rw [ea] at e
              have e : bindT b y g1 = some g' := e
              cases r with
              | tup hp ha =>
                cases ha with
                | cons h1 ha => cases ha with
                  | cons h2 ha =>
                    cases ha
                    refine ⟨_, _, rfl, .of (s.same _ _ hp), rfl, _, _, rfl, tg_run a ea s h1 fun σ1 s1 w1 => ⟨_, _, rfl, tg_run b e s1 h2 fun σ2 s2 w2 => ⟨rfl, k σ2 s2 fun vs hv => ?_⟩⟩⟩
                    rw [w2 vs fun i hi => hv i (by simp [namesT, hi]), w1 vs fun i hi => hv i (by simp [namesT, hi])]
    | _ => cases e
  | .t3 a b c, d, g, g', ps, Hb0, H0, Hb, H, σ, v, Q, e, s, r, k => by
    cases d with
    | tuple xs =>
      cases xs with
      | nil => cases e
      | cons x xs => cases xs with
        | nil => cases e
        | cons y xs => cases xs with
          | nil => cases e
          | cons z xs => cases xs with
            | cons _ _ => cases e
            | nil =>
              have e : (bindT a x g).bind (fun g => (bindT b y g).bind fun g => bindT c z g) = some g' := e
              cases ea : bindT a x g with
              | none => rw [ea] at e; cases e
              | some g1 =>
                rw [ea] at e
                have e : (bindT b y g1).bind (fun g => bindT c z g) = some g' := e
                cases eb : bindT b y g1 with
                | none => rw [eb] at e; cases e
                | some g2 =>
                  rw [eb] at e
                  have e : bindT c z g2 = some g' := e
                  cases r with
                  | tup hp ha =>
                    cases ha with
                    | cons h1 ha => cases ha with
                      | cons h2 ha => cases ha with
                        | cons h3 ha =>
                          cases ha
                          refine ⟨_, _, rfl, .of (s.same _ _ hp), rfl, _, _, rfl, tg_run a ea s h1 fun σ1 s1 w1 => ⟨_, _, rfl, tg_run b eb s1 h2 fun σ2 s2 w2 => ⟨_, _, rfl, tg_run c e s2 h3 fun σ3 s3 w3 => ⟨rfl, k σ3 s3 fun vs hv => ?_⟩⟩⟩⟩
                          rw [w3 vs fun i hi => hv i (by simp [namesT, hi]), w2 vs fun i hi => hv i (by simp [namesT, hi]), w1 vs fun i hi => hv i (by simp [namesT, hi])]
    | _ => cases e
/-! ### what is walked -/
def Walked (K : PySem.W.Frag) (Hb : Hp) (J : It) (xs : List D) : Prop :=
  xs.length ≤ sizeLine ∧ ∃ (G : Hp → Prop) (Y : Nat → Hp → V → Hp → Prop), Walk J xs.length G Y ∧ (∀ Hb2 H2, Same Hb Hb2 → Same Hb2 H2 → G H2) ∧
    ∀ (i : Nat) (d : D) Hb2 H2 x H3, xs[i]? = some d → Same Hb Hb2 → Same Hb2 H2 → Y i H2 x H3 → ∃ Hb3, Gr Hb2 H2 Hb3 H3 ∧ Rp K Hb3 x d
def RS (K : PySem.W.Frag) : List D → It → Hp → Hp → Prop := fun xs J Hb _ => Walked K Hb J xs
def tI (X : Cx) (tg e : Expr) : TI := fun σ H R => ∀ pins s, Inv X pins σ H s → wpAny (model X.prog X.w) X.A (eval e X.env) (fun v s1 => wpAny (model X.prog X.w) X.A (pyIter v) (PIE X pins σ tg R) X.xe s1) X.xe s
theorem pi_tI {X : Cx} {tg e : Expr} : PI X tg e (tI X tg e) := ⟨fun pins s σ H R I h => h pins s I⟩
def lenOk : HO → Prop
  | .lst xs => xs.length ≤ sizeLine
  | .tup xs => xs.length ≤ sizeLine
  | _ => True
theorem lenOk_of {P : Program} {w : World} {H : Hp} {h : Heap} {a : Addr} {o : HO} (x : ObjOk P w H h a o) : lenOk o := by
  cases o with
  | lst xs => exact x.1
  | tup xs => exact x.1
  | _ => trivial
/-- the lengths are within the line -/
theorem tI_len {X : Cx} {tg e : Expr} {wi : TI} {σ : L2.St} {H : Hp} {R : It → Hp → Prop} (h : PI X tg e wi) (q : wi σ H fun J H1 => (∀ a o, H1 a = some o → lenOk o) → R J H1) : tI X tg e σ H R := fun pins s I =>
  thn (h.run pins s σ H _ I q) fun v s1 z => thn z fun it s2 ⟨i, fp, tn, J, H', h1, h2, h3, h4, h5, h6⟩ => ⟨i, fp, tn, J, H', h1, h2, h3, h4, h5, h6 fun a o e => lenOk_of (h2.hok a o e)⟩
theorem tI_of {X : Cx} {tg e : Expr} {wi : TI} {σ : L2.St} {H : Hp} {R : It → Hp → Prop} (h : PI X tg e wi) (q : wi σ H R) : tI X tg e σ H R := fun pins s I => h.run pins s σ H R I q
abbrev JS (X : Cx) (ca : Nat → Addr) (tg e : Expr) (f : Ga → Rs (List D)) : Prop := JG X ca (tI X tg e) (RS X.K) f
section
variable {X : Cx} {ca : Nat → Addr} {e a b tg : Expr} {es : List Expr} {pos : Pos} {fa fb fs : Ga → Rs D}
theorem wd_list {K : PySem.W.Frag} {Hb : Hp} {p : Addr} {ws : List V} {xs : List D} (hz : ws.length ≤ sizeLine) (hp : Hb p = some (.lst ws)) (ha : RpAll K Hb ws xs) : Walked K Hb (Itl K p) xs := by
  refine ⟨by rw [← ha.length]; exact hz, fun H => SqL K H p ws, YAt ws, (by rw [← ha.length]; exact walk_list), fun Hb2 H2 s1 s2 => .of (s2 _ _ (s1 _ _ hp)), fun i d Hb2 H2 x H3 hd s1 s2 y => ?_⟩
  obtain ⟨rfl, hx⟩ := y
  obtain ⟨d', h1, h2⟩ := ha.getV hx
  rw [hd] at h1
  cases h1
  exact ⟨Hb2, .refl s2, h2.mono s1⟩
theorem wd_tup {K : PySem.W.Frag} {Hb : Hp} {p : Addr} {ws : List V} {xs : List D} (hz : ws.length ≤ sizeLine) (hp : Hb p = some (.tup ws)) (ha : RpAll K Hb ws xs) : Walked K Hb (Itt K p) xs := by
  refine ⟨by rw [← ha.length]; exact hz, fun H => SqT K H p ws, YAt ws, (by rw [← ha.length]; exact walk_tup), fun Hb2 H2 s1 s2 => .of (s2 _ _ (s1 _ _ hp)), fun i d Hb2 H2 x H3 hd s1 s2 y => ?_⟩
  obtain ⟨rfl, hx⟩ := y
  obtain ⟨d', h1, h2⟩ := ha.getV hx
  rw [hd] at h1
  cases h1
  exact ⟨Hb2, .refl s2, h2.mono s1⟩
theorem rngL_get {lo hi : Int} {i : Nat} {d : D} (h : (rngL lo hi)[i]? = some d) : d = .int (lo + (i : Nat)) := by
  unfold rngL at h
  rw [List.getElem?_map] at h
  cases q : (List.range (hi - lo).toNat)[i]? with
  | none => rw [q] at h; cases h
  | some j =>
    rw [q] at h
    rw [List.getElem?_range (by
      have := List.getElem?_eq_some_iff.mp q
      obtain ⟨h1, _⟩ := this
      rw [List.length_range] at h1
      exact h1)] at q
    cases q
    cases h
    rfl
theorem wd_range {K : PySem.W.Frag} {Hb : Hp} {lo hi : Int} (hz : hi - lo ≤ 2000000) : Walked K Hb (Itr lo (hi - lo).toNat) (rngL lo hi) := by
  have hl : (rngL lo hi).length = (hi - lo).toNat := by unfold rngL; rw [List.length_map, List.length_range]
  refine ⟨by rw [hl]; exact Nat.le_trans (by omega : (hi - lo).toNat ≤ 2000000) (by decide), fun _ => True, YFn fun i => .int (lo + i), (by rw [hl]; exact walk_range), fun _ _ _ _ => trivial, fun i d Hb2 H2 x H3 hd s1 s2 y => ?_⟩
  obtain ⟨rfl, rfl⟩ := y
  rw [rngL_get hd]
  exact ⟨Hb2, .refl s2, .int _⟩
theorem js_seq (h : JV X ca e fa) : JS X ca tg e (fun g => (fa g).bind walkD) := by
  intro ps Hb0 H0 g σ Hb H Q W tk sat po
  dsimp only at po
  cases hd : fa g with
  | ok d =>
    cases d with
    | list xs => exact tI_len (pi_list pe_tE) (h.run tk sat po fun d v Hb1 H1 e1 g1 r1 s1 p1 => by
        rw [hd] at e1
        cases e1
        have r1 : Rp X.K Hb1 v (.list xs) := r1
        cases r1 with
        | lst hp ha => exact ⟨_, rfl, ⟨_, .of (s1.same _ _ hp)⟩, fun hz => p1.done (.refl s1.same) (wd_list (hz _ _ (s1.same _ _ hp)) hp ha)⟩)
    | tuple xs => exact tI_len (pi_tup pe_tE) (h.run tk sat po fun d v Hb1 H1 e1 g1 r1 s1 p1 => by
        rw [hd] at e1
        cases e1
        have r1 : Rp X.K Hb1 v (.tuple xs) := r1
        cases r1 with
        | tup hp ha => exact ⟨_, rfl, ⟨_, .of (s1.same _ _ hp)⟩, fun hz => p1.done (.refl s1.same) (wd_tup (hz _ _ (s1.same _ _ hp)) hp ha)⟩)
    | _ => rw [hd] at po; exact False.elim po
  | ex c => exact tI_of (pi_list pe_tE) (h.run tk sat po fun d v Hb1 H1 e1 g1 r1 s1 p1 => by
      rw [hd] at e1
      cases e1)
  | bad => rw [hd] at po; exact False.elim po
theorem js_rng1 {p : Pos} (hg : Gl X "range") (hm : X.mg "range" = none) (hs : notStar a = true) (h : JV X ca a fa) : JS X ca tg (.Call (.Name "range" p) [a] [] pos) (fun g => (fa g).bind rng1D) :=
  fun ps Hb0 H0 g σ Hb H Q W tk sat po => tI_of (pi_range1 hg hm (pa_cons pe_tE pa_nil (star_of hs)) (star1 hs)) (h.run tk sat po fun d v Hb1 H1 e1 g1 r1 s1 p1 => by
    unfold rng1D at p1
    split at p1
    · rename_i n
      have r1 : Rp X.K Hb1 v (.int n) := r1
      cases r1
      split at p1
      · rename_i hc
        rw [Bool.and_eq_true] at hc
        have h1 := of_decide_eq_true hc.1
        have h2 := of_decide_eq_true hc.2
        refine ⟨n, rfl, by omega, by omega, p1.done (.refl s1.same) ?_⟩
        have := wd_range (K := X.K) (Hb := Hb1) (lo := 0) (hi := n) (by omega)
        rw [Int.sub_zero] at this
        exact this
      · exact False.elim p1
    · exact False.elim p1)
theorem js_rng2 {p : Pos} (hg : Gl X "range") (hm : X.mg "range" = none) (hs : notStar a = true) (hs2 : notStar b = true) (h : JV X ca a fa) (h2 : JV X ca b fb) : JS X ca tg (.Call (.Name "range" p) [a, b] [] pos) (fun g => (fa g).bind fun x => (fb g).bind fun y => rng2D x y) :=
  fun ps Hb0 H0 g σ Hb H Q W tk sat po => tI_of (pi_range2 hg hm (pa_cons pe_tE (pa_cons pe_tE pa_nil (star_of hs2)) (star_of hs)) (by rw [star_of hs, star1 hs2]) (star1 hs2)) (h.run tk sat po fun d v Hb1 H1 e1 g1 r1 s1 p1 => h2.run tk s1 p1 fun e w Hb2 H2 e2 g2 r2 s2 p2 => by
    unfold rng2D at p2
    split at p2
    · rename_i m n
      have r1 : Rp X.K Hb1 v (.int m) := r1
      have r2 : Rp X.K Hb2 w (.int n) := r2
      cases r1
      cases r2
      split at p2
      · rename_i hc
        rw [Bool.and_eq_true, Bool.and_eq_true, Bool.and_eq_true] at hc
        obtain ⟨⟨⟨h1, h2⟩, h3⟩, h4⟩ := hc
        have h1 := of_decide_eq_true h1
        have h2 := of_decide_eq_true h2
        have h3 := of_decide_eq_true h3
        have h4 := of_decide_eq_true h4
        exact ⟨m, n, rfl, by omega, p2.done (.refl s2.same) (wd_range (by omega))⟩
      · exact False.elim p2
    · exact False.elim p2)
theorem js_rngN {p : Pos} {c : Expr} (hg : Gl X "range") (hm : X.mg "range" = none) (hs : notStar a = true) (hs2 : notStar b = true) (hs3 : notStar c = true) (h : JV X ca a fa) (h2 : JV X ca b fb) (h3 : JV X ca c (fun _ => .ok (.int (-1)))) : JS X ca tg (.Call (.Name "range" p) [a, b, c] [] pos) (fun g => (fa g).bind fun x => (fb g).bind fun y => rngND x y) :=
  fun ps Hb0 H0 g σ Hb H Q W tk sat po => tI_of (pi_range3 hg hm (pa_cons pe_tE (pa_cons pe_tE (pa_cons pe_tE pa_nil (star_of hs3)) (star_of hs2)) (star_of hs)) (by rw [star_of hs]) (back_of (by rw [noStars, List.all_cons, hs2, List.all_cons, hs3]; rfl))) (h.run tk sat po fun d v Hb1 H1 e1 g1 r1 s1 p1 => h2.run tk s1 p1 fun e w Hb2 H2 e2 g2 r2 s2 p2 => by
    refine h3.run (k := fun _ => rngND d e) tk s2 p2 fun e3 w3 Hb3 H3 e4 g3 r3 s3 p3 => ?_
    cases e4
    have r3 : Rp X.K Hb3 w3 (.int (-1)) := r3
    cases r3
    unfold rngND at p3
    split at p3
    · rename_i m n
      have r1 : Rp X.K Hb1 v (.int m) := r1
      have r2 : Rp X.K Hb2 w (.int n) := r2
      cases r1
      cases r2
      split at p3
      · rename_i hc
        rw [Bool.and_eq_true, Bool.and_eq_true, Bool.and_eq_true] at hc
        obtain ⟨⟨⟨h1, h2⟩, h3⟩, h4⟩ := hc
        have h1 := of_decide_eq_true h1
        have h2 := of_decide_eq_true h2
        have h3 := of_decide_eq_true h3
        have h4 := of_decide_eq_true h4
        refine ⟨m, n, -1, (m - n).toNat, rfl, RgC.neg (by omega) (by omega) (by omega) (by omega), p3.done (.refl s3.same) ?_⟩
        have hl : ((List.range (m - n).toNat).map fun i => (.int (m - (i : Nat)) : D)).length = (m - n).toNat := by rw [List.length_map, List.length_range]
        refine ⟨by rw [hl]; exact Nat.le_trans (by omega : (m - n).toNat ≤ 2000000) (by decide), fun _ => True, YFn fun i => .int (m + (i : Nat) * (-1)), (by rw [hl]; exact walk_rangeC), fun _ _ _ _ => trivial, fun i d Hb2 H2 x H3 hd s1 s2 y => ?_⟩
        obtain ⟨rfl, rfl⟩ := y
        rw [List.getElem?_map] at hd
        obtain ⟨j, hj, rfl⟩ := Option.map_eq_some_iff.mp hd
        obtain ⟨hj1, hj2⟩ := List.getElem?_eq_some_iff.mp hj
        rw [List.getElem_range] at hj2
        subst hj2
        refine ⟨Hb2, .refl s2, ?_⟩
        show Rp X.K Hb2 (.int (m + ((i : Nat) : Int) * (-1))) (.int (m - ((i : Nat) : Int)))
        rw [show m + ((i : Nat) : Int) * (-1) = m - ((i : Nat) : Int) by omega]
        exact .int _
      · exact False.elim p3
    · exact False.elim p3)
end
end Ip

set_option maxHeartbeats 4000000
namespace Ip
open PySem PySem.Spec PyProof.Rows L2
/-! ### comprehensions -/
theorem compL_ok {f : D → Rs (Option D)} : ∀ {xs : List D} {ys : List D}, compL f xs = .ok ys → ∃ os : List (Option D), os.length = xs.length ∧ (∀ (i : Nat) (x : D), xs[i]? = some x → ∃ o, os[i]? = some o ∧ f x = .ok o) ∧ ys = os.filterMap id
  | [], ys, h => by
    cases h
    exact ⟨[], rfl, fun i x e => by simp at e, rfl⟩
  | x :: r, ys, h => by
    unfold compL at h
    cases hx : f x with
    | ok o =>
      rw [hx] at h
      change ((compL f r).bind _) = _ at h
      cases hr : compL f r with
      | ok zs =>
        rw [hr] at h
        obtain ⟨os, h1, h2, h3⟩ := compL_ok hr
        refine ⟨o :: os, by rw [List.length_cons, List.length_cons, h1], fun i y e => ?_, ?_⟩
        · cases i with
          | zero =>
            simp at e
            subst e
            exact ⟨o, rfl, hx⟩
          | succ i =>
            obtain ⟨o', h4, h5⟩ := h2 i y (by simpa using e)
            exact ⟨o', by simpa using h4, h5⟩
        · cases h
          cases o with
          | none => rw [List.filterMap_cons_none rfl, h3]
          | some y =>
            rw [List.filterMap_cons_some (f := id) (a := some y) (b := y) rfl, h3]
      | ex c => rw [hr] at h; cases h
      | bad => rw [hr] at h; cases h
    | ex c => rw [hx] at h; cases h
    | bad => rw [hx] at h; cases h
theorem compL_noex {f : D → Rs (Option D)} : ∀ {xs : List D} {c : Nat}, compL f xs ≠ .ex c
  | [], _ => fun z => nomatch z
  | x :: r, c => fun h => by
    unfold compL at h
    cases hx : f x with
    | ok o =>
      rw [hx] at h
      change ((compL f r).bind _) = _ at h
      cases hr : compL f r with
      | ok zs => rw [hr] at h; cases h
      | ex c => exact compL_noex hr
      | bad => rw [hr] at h; cases h
    | ex c => rw [hx] at h; cases h
    | bad => rw [hx] at h; cases h
section
variable {X : Cx} {ca : Nat → Addr} {e elt iter tg : Expr} {ifs : List Expr} {pos : Pos} {scope : Scope} {own : List (Str × Nat)} {fv : Ga → Rs D} {ft : Ga → Rs Bool} {fs : Ga → Rs (List D)} {T : Tg}
def compF (T : Tg) (ow : List Nat) (ft : Ga → Rs Bool) (fv : Ga → Rs D) (g : Ga) : D → Rs (Option D) := fun x => match bindT T x (wipeG g ow) with
  | some g' => (ft g').bind fun t => if t then (fv g').bind fun y => .ok (some y) else .ok none
  | none => .bad
/-- a block of this comprehension -/
abbrev Blk (X : Cx) (scope : Scope) (X' : Cx) : Prop := ∃ s H C cl fp, X' = X.blk s H scope (compEnvC scope cl C X.env) fp
def tTs (X : Cx) (ifs : List Expr) : TT := fun σ H Q => ∀ pins s, Inv X pins σ H s →
  wpAny (model X.prog X.w) X.A (forIn ifs true fun c r => if r = true then do let ok ← isTrue c X.env (eval c X.env); pure (ForInStep.yield ok) else pure (ForInStep.yield r)) (TP X pins σ Q) X.xe s
theorem pts_tTs {ifs : List Expr} : PTs X ifs (tTs X ifs) := ⟨fun pins s σ H Q I h => h pins s I⟩
theorem jts_nil : JG X ca (tTs X []) RB (fun _ => .ok true) := fun ps Hb0 H0 g σ Hb H Q W tk sat po pins s I => pts_nil.run pins s σ H Q I (po.done (.refl sat.same) rfl)
theorem jts_one {c : Expr} (h : JT X ca c ft) : JG X ca (tTs X [c]) RB ft := fun ps Hb0 H0 g σ Hb H Q W tk sat po pins s I => (pts_one pt_tT).run pins s σ H Q I (h ps Hb0 H0 g σ Hb H Q W tk sat po)
def tAllT (X : Cx) (scope : Scope) (ifs : List Expr) : TT := fun σ H Q => ∀ X', Blk X scope X' → tTs X' ifs σ H Q
def tAllE (X : Cx) (scope : Scope) (e : Expr) : TE := fun σ H Q => ∀ X', Blk X scope X' → tE X' e σ H Q
/-- what the comprehension's parts say, at every block of it -/
structure CompOk (X : Cx) (ca : Nat → Addr) (scope : Scope) (own : List (Str × Nat)) (tg iter elt : Expr) (ifs : List Expr) (T : Tg) (fs : Ga → Rs (List D)) (ft : Ga → Rs Bool) (fv : Ga → Rs D) : Prop where
  calm : X.calm = true
  nd : X.N.Nodup
  blk : BlkOk X.N X.env.scope scope own
  fold : ∀ x, foldedSetIterable iter X.env x = pure x
  src : JS X ca tg iter fs
  sub : ∀ i ∈ namesT T, i ∈ own.map (·.2)
  tg : ∀ X', Blk X scope X' → PG X' tg (tgG X.K T)
  tst : ∀ X', Blk X scope X' → JG X' ca (tTs X' ifs) RB ft
  elt : ∀ X', Blk X scope X' → JV X' ca elt fv
theorem take_snoc {α : Type} {l : List α} {i : Nat} {x : α} (h : l[i]? = some x) : l.take (i + 1) = l.take i ++ [x] := by
  rw [List.take_add_one, h]
  rfl
theorem comp_po (C : CompOk X ca scope own tg iter elt ifs T fs ft fv) {ps : List Addr} {Hb0 H0 : Hp} {g : Ga} {σ : L2.St} {Hb H : Hp} {Q : VK} {W : WX} (tk : Takes X W) (sat : Sat X.K ps Hb0 H0 g σ Hb H)
    (po : Po ca Hb H (RF X.K H) ((fs g).bind fun xs => (compL (compF T (own.map (·.2)) ft fv g) xs).bind fun ys => .ok (.list ys)) Q (fun c d H' => W c d σ H')) :
    tLc (tI X tg iter) (tgG X.K T) (tAllT X scope ifs) (tAllE X scope elt) (own.map (·.2)) σ H Q := by
  refine C.src.run tk sat po fun xs J Hb1 H1 e1 g1 wk s1 p1 Dl hD => ?_
  cases hc : compL (compF T (own.map (·.2)) ft fv g) xs with
  | ex c => exact absurd hc compL_noex
  | bad =>
    rw [hc] at p1
    exact False.elim p1
  | ok ys =>
    rw [hc] at p1
    obtain ⟨os, ol, oe, rfl⟩ := compL_ok hc
    obtain ⟨hz, G, Y, wkk, hG, hY⟩ := wk
    have hDb : Hb1 Dl = none := s1.same.free hD
    refine lc_it wkk (fun i H' => ∃ Hb' acc, Gr Hb1 H1 Hb' H' ∧ Hb' Dl = none ∧ H' Dl = some (.lst acc) ∧ acc.length ≤ i ∧ RpAll X.K Hb' acc ((os.take i).filterMap id)) ⟨Hb1, [], (Gr.refl s1.same).mut hD hDb, hDb, upd_same, Nat.zero_le _, .nil⟩
      (fun i H' hi hp => ?_) (fun i x H' H'' hi hp hy => ?_) (fun H' hp => ?_)
    · obtain ⟨Hb', acc, gg, _⟩ := hp
      exact hG Hb' H' gg.b gg.s
    · obtain ⟨Hb', acc, gg, h1, h2, h3, h4⟩ := hp
      have hx : xs[i]? = some xs[i] := List.getElem?_eq_getElem hi
      obtain ⟨o, ho, hf⟩ := oe i _ hx
      obtain ⟨Hb3, g3, r3⟩ := hY i _ Hb' H' x H'' hx gg.b gg.s hy
      have s3 := (s1.go gg).go g3
      have n3 : Hb3 Dl = none := g3.n Dl h1 (by rw [h2]; exact fun z => nomatch z)
      unfold compF at hf
      cases hb : bindT T xs[i] (wipeG g (own.map (·.2))) with
      | none => rw [hb] at hf; cases hf
      | some g' =>
        rw [hb] at hf
        have hf : ((ft g').bind fun t => if t then (fv g').bind fun y => Rs.ok (some y) else .ok none) = .ok o := hf
        refine tg_run T hb (s3.wipe _) r3 fun σ2 s4 w2 => ⟨by
          rw [w2 _ C.sub]
          have key : ∀ vs : List Nat, ∀ ws : List Nat, (∀ v ∈ vs, v ∈ ws) → L2.wipe (L2.wipe σ vs) ws = L2.wipe σ ws := by
            intro vs
            induction vs with
            | nil => intro ws _; rfl
            | cons v vs ih =>
              intro ws hw
              show L2.wipe ((L2.wipe σ vs).set v none) ws = _
              rw [wipe_set (hw v List.mem_cons_self)]
              exact ih ws fun u hu => hw u (List.mem_cons_of_mem _ hu)
          exact key _ _ fun _ h => h, fun X' hX' => ?_⟩
        cases ht : ft g' with
        | ex c => rw [ht] at hf; cases hf
        | bad => rw [ht] at hf; cases hf
        | ok t =>
          rw [ht] at hf
          have eK : X'.K = X.K := by obtain ⟨_, _, _, _, _, rfl⟩ := hX'; rfl
          refine C.tst X' hX' ps Hb0 H0 g' σ2 Hb3 H'' _ (fun _ _ _ _ => False) takes0 (by rw [eK]; exact s4) ?_
          rw [ht]
          intro t' Hb5 H5 g5 et
          have et : t = t' := et
          subst et
          have s5 := s4.go g5
          have n5 : Hb5 Dl = none := g5.n Dl n3 (by rw [g3.h _ _ h2]; exact fun z => nomatch z)
          have d5 : H5 Dl = some (.lst acc) := g5.h _ _ (g3.h _ _ h2)
          have a5 : RpAll X.K Hb5 acc ((os.take i).filterMap id) := (h4.mono g3.b).mono g5.b
          have gr5 := (gg.trans g3).trans g5
          cases t with
          | true =>
            show tAllE X scope elt σ2 H5 _
            intro X2 hX2
            have hf : ((fv g').bind fun y => Rs.ok (some y)) = .ok o := hf
            cases hv : fv g' with
            | ex c => rw [hv] at hf; cases hf
            | bad => rw [hv] at hf; cases hf
            | ok y =>
              rw [hv] at hf
              cases hf
              have eK2 : X2.K = X.K := by obtain ⟨_, _, _, _, _, rfl⟩ := hX2; rfl
              refine C.elt X2 hX2 ps Hb0 H0 g' σ2 Hb5 H5 _ (fun _ _ _ _ => False) takes0 (by rw [eK2]; exact s5) ?_
              rw [hv, eK2]
              intro w Hb6 H6 g6 r6
              have r6 : Rp X.K Hb6 w y := r6
              have n6 : Hb6 Dl = none := g6.n Dl n5 (by rw [d5]; exact fun z => nomatch z)
              have iw : i < sizeLine := Nat.lt_of_lt_of_le hi hz
              refine ⟨acc, g6.h _ _ d5, Nat.lt_of_le_of_lt h3 iw, Hb6, acc ++ [w], (gr5.trans g6).mut hD n6, n6, upd_same, by rw [List.length_append]; simp; omega, ?_⟩
              rw [take_snoc ho, List.filterMap_append, List.filterMap_cons_some (f := id) (a := some y) (b := y) rfl]
              exact (a5.mono g6.b).append (.cons r6 .nil)
          | false =>
            cases hf
            show _
            refine ⟨Hb5, acc, gr5, n5, d5, Nat.le_succ_of_le h3, ?_⟩
            rw [take_snoc ho, List.filterMap_append]
            simpa using a5
    · obtain ⟨Hb', acc, gg, h1, h2, h3, h4⟩ := hp
      rw [← ol, List.take_length] at h4
      exact p1.done gg ⟨Dl, acc, _, rfl, rfl, g1.h.free hD, h1, h2, h4⟩
theorem j_compF (C : CompOk X ca scope own tg iter elt ifs T fs ft fv) : JF X ca (tE X (.ListComp elt [⟨tg, iter, ifs, 0⟩] scope pos)) (fun g => (fs g).bind fun xs => (compL (compF T (own.map (·.2)) ft fv g) xs).bind fun ys => .ok (.list ys)) :=
  fun ps Hb0 H0 g σ Hb H Q W tk sat po => tE_of (pe_lc (own := own) C.calm C.nd pi_tI C.blk (fun s H C' cl fp => C.tg _ ⟨s, H, C', cl, fp, rfl⟩) (fun s H C' cl fp => ⟨fun pins s' σ H Q I h => h _ ⟨s, _, C', cl, fp, rfl⟩ pins s' I⟩)
    (fun s H C' cl fp => ⟨fun pins s' σ H Q I h => h _ ⟨s, _, C', cl, fp, rfl⟩ pins s' I⟩) C.fold) (comp_po C tk sat po)
end
end Ip

set_option maxHeartbeats 4000000
namespace Ip
open PySem PySem.Spec PyProof.Rows L2
/-! ### set(l) of a list of ints, as the layer's set of ints (the layer has it for a tuple) -/
section
variable {P : Program} {w : World} {A : Around} {E : Value → Shared → Prop} {s : Shared}
abbrev set0 (w : World) : Obj := { cls := .type "set", dict := none, data := .set #[] 0 (.fresh 0 0 (!w.params.followText "set-order")) }
theorem set_of_list {l : Addr} {its : Array Value} (ks : List Int) {Q : Value → Shared → Prop} (hh : A.handled = none) (hl : s.heap.IsList l its) (hit : IntsAre its.toList ks) (hb : ks.length + 1 < scanBound)
    (hq : ∀ (h1 : Heap) (t1 c1 : Nat), SetR w h1 s.heap.objs.size (fun j => decide (j ∈ ks)) c1 → c1 ≤ ks.length → (∀ b o, s.heap.get? b = some o → h1.get? b = some o) → Q (.ref s.heap.objs.size) { s with heap := h1, toks := t1 }) :
    wpAny (model P w) A (call (.type "set") [.ref l]) Q E s := by
  have hz : its.size = ks.length := by rw [← Array.length_toList]; exact IntsAre.length hit
  obtain ⟨mc, mt, mro⟩ := F.called_set.mro
  have f1 := F.called_set.made
  have f2 := F.called_set.sub
  refine wpAny_call (codeAny_of_tree ?_)
  show wpAny _ _ (callAny (.type "set") _) _ _ _
  refine wpAny_pure ⟨Code.quiet_builtin _ (by decide +kernel), codeAny_builtin F.entry_type_call ?_⟩
  rw [Around.under_plain (weight_type_call_type "set" [.ref l] []) rfl]
  have f3 := F.called_set.notType
  have f4 := F.called_set.canCreate
  have f5 := F.typeCall_set_1 (.ref l)
  repeat any_goals first | assumption | wp_step
  refine codeAny_mono (code_set_led1 (.ref l) (E := E) (Q₁ := fun x s1 => x = .ref s.heap.objs.size ∧ s1 = { s with heap := s.heap.push (set0 w) }) ⟨rfl, rfl⟩) fun r s1 hr => ?_
  cases r with
  | error e => exact hr
  | ok fl =>
    cases fl with
    | ret x =>
      obtain ⟨rfl, rfl⟩ := hr
      have gS : (s.heap.push (set0 w)).get? s.heap.objs.size = some (set0 w) := Heap.get?_push_size _ rfl
      have tS : Shared.TypeIs { s with heap := s.heap.push (set0 w) } (.ref s.heap.objs.size) "set" := ⟨_, gS, rfl⟩
      have f6 := F.called_set.init.lookup
      have f7 := F.called_set.init.bind (.ref s.heap.objs.size)
      repeat any_goals first | assumption | wp_step
      refine codeAny_mono (codeAny_call_builtin (R := wants (fun r s2 => r = .none ∧ ∃ h1 t1 c1, s2 = { s with heap := h1, toks := t1 } ∧ SetR w h1 s.heap.objs.size (fun j => decide (j ∈ ks)) c1 ∧ c1 ≤ ks.length ∧
          (∀ b o, s.heap.get? b = some o → h1.get? b = some o)) E) F.called_set.init.plain F.entry_set_init (check_set_init_1 tS ?_)) fun r2 s2 hr2 => ?_
      · obtain ⟨ol, gl, cl, nl, dl⟩ := hl
        obtain ⟨oc, od, oda, osl⟩ := ol
        simp only at cl dl
        subst cl; subst dl
        have gl1 : (s.heap.push (set0 w)).get? l = some { cls := .type "list", dict := od, data := .seq its nl, slots := osl } := Heap.get?_push_of_some _ gl
        have q1 := F.sub_list_set
        have q2 := F.sub_list_frozenset
        have q3 : (Value.type "list" == Value.type "dict") = false := by decide
        have hl1 : (s.heap.push (set0 w)).IsList l its := ⟨_, gl1, rfl, nl, rfl⟩
        unfold Builtin.«set.__init__» noKeywords Builtin.Frozenset.updateFrom
        generalize hPI : pyIter = pI
        wp_walk
        subst hPI
        refine wpAny_pyIter_list hl1 ?_
        refine wpAny_bind (wpAny_runValue ?_)
        have lt : l < s.heap.objs.size := Heap.lt_size gl
        have h3 : A.in1.in1.in1.handled = none := by simp [hh]
        have ne : l ≠ (s.heap.push (set0 w)).objs.size := by rw [Heap.size_push]; exact Nat.ne_of_lt (Nat.lt_succ_of_lt lt)
        have nf : s.heap.objs.size ∉ [(s.heap.push (set0 w)).objs.size, l] := by
          rw [Heap.size_push]
          simp only [List.mem_cons, List.not_mem_nil, or_false, not_or]
          exact ⟨Nat.ne_of_lt (Nat.lt_succ_self _), Nat.ne_of_gt lt⟩
        have vals : ∀ (i : Nat) (v : Value), its[i]? = some v → ∃ k t, ks[i]? = some k ∧ v = .int k t := fun i v hv => by
          have hi : i < ks.length := by rw [← hz]; exact (Array.getElem?_eq_some_iff.mp hv).1
          obtain ⟨t, e⟩ := PyProof.Rows.IntsAre.int_at hit i v (by rw [Array.getElem?_toList]; exact hv)
          exact ⟨ks[i], t, List.getElem?_eq_getElem hi, by rw [e, List.getD_eq_getElem?_getD, List.getElem?_eq_getElem hi]; rfl⟩
        refine set_update_ints ((Walks.list h3 _ l ne its).toS) s.heap.objs.size nf ks hz hb vals (its.size - 0) 0 _ (by omega) (Nat.zero_le _) ⟨⟨_, Heap.get?_push_size _ rfl, rfl, rfl⟩, (hl1.push _)⟩ ?a0 ?a1
        case a0 => exact ⟨0, Nat.le_refl 0, setR_new_at (Heap.get?_push_of_some _ gS)⟩
        case a1 =>
          intro s' c1 hm hc1 hS1
          obtain ⟨h1, g1, d1, t1, o1⟩ := s'
          have e1 : g1 = s.gens := hm.gens
          have e2 : d1 = s.drawn := hm.drawn
          have e3 : o1 = s.os := hm.os
          subst e1; subst e2; subst e3
          show wpAny _ _ _ _ _ _
          refine wpAny_pure ?_
          show wpAny _ _ (ret Value.none) _ _ _
          rw [hz] at hc1
          refine wpAny_pure ⟨rfl, h1, t1, c1, rfl, hS1, hc1, fun b o e => ?_⟩
          have b0 : b < s.heap.objs.size := Heap.lt_size e
          have b2 : b ≠ (s.heap.push (set0 w)).objs.size := by rw [Heap.size_push]; exact Nat.ne_of_lt (Nat.lt_succ_of_lt b0)
          exact hm.heap b o (by simp only [List.mem_cons, List.not_mem_nil, or_false, not_or]; exact ⟨Nat.ne_of_lt b0, b2⟩) (Heap.get?_push_of_some _ (Heap.get?_push_of_some _ e))
      · cases r2 with
        | error e => exact hr2
        | ok f2 =>
          cases f2 with
          | ret r =>
            obtain ⟨rfl, h1, t1, c1, rfl, hS1, hc1, hk1⟩ := hr2
            repeat any_goals first | assumption | wp_step
            exact hq _ _ _ hS1 hc1 hk1
          | _ => exact hr2.elim
    | _ => exact hr.elim
end
end Ip

set_option maxHeartbeats 4000000
namespace Ip
open PySem PySem.Spec PyProof.Rows L2
/-! ### rising lists -/
theorem insU_mem {x k : Int} : ∀ {l : List Int}, k ∈ insU x l ↔ k = x ∨ k ∈ l
  | [] => by simp [insU]
  | y :: r => by
    unfold insU
    split
    · simp
    · split
      · rename_i h; subst h; simp
      · simp [insU_mem (l := r)]; constructor <;> (intro h; rcases h with h | h | h <;> simp [h])
theorem insU_lt {x : Int} : ∀ {l : List Int}, l.Pairwise (· < ·) → (insU x l).Pairwise (· < ·)
  | [], _ => by simp [insU]
  | y :: r, h => by
    obtain ⟨h1, h2⟩ := List.pairwise_cons.mp h
    unfold insU
    split
    · rename_i hx
      exact List.pairwise_cons.mpr ⟨fun z hz => by
        rcases List.mem_cons.mp hz with e | e
        · omega
        · have := h1 z e; omega, h⟩
    · split
      · exact h
      · refine List.pairwise_cons.mpr ⟨fun z hz => ?_, insU_lt h2⟩
        rcases insU_mem.mp hz with e | e
        · omega
        · exact h1 z e
theorem sortU_mem {k : Int} : ∀ {l : List Int}, k ∈ sortU l ↔ k ∈ l
  | [] => by simp [sortU]
  | y :: r => by
    show k ∈ insU y (sortU r) ↔ _
    rw [insU_mem, sortU_mem (l := r)]
    simp
theorem sortU_lt : ∀ l : List Int, (sortU l).Pairwise (· < ·)
  | [] => List.Pairwise.nil
  | y :: r => insU_lt (sortU_lt r)
theorem rise_eq : ∀ {l m : List Int}, l.Pairwise (· < ·) → m.Pairwise (· < ·) → (∀ k, k ∈ l ↔ k ∈ m) → l = m
  | [], [], _, _, _ => rfl
  | [], y :: r, _, _, h => by
    have := (h y).mpr List.mem_cons_self
    cases this
  | x :: r, [], _, _, h => by
    have := (h x).mp List.mem_cons_self
    cases this
  | x :: r, y :: q, h1, h2, h => by
    obtain ⟨a1, a2⟩ := List.pairwise_cons.mp h1
    obtain ⟨b1, b2⟩ := List.pairwise_cons.mp h2
    have e : x = y := by
      rcases List.mem_cons.mp ((h x).mp List.mem_cons_self) with e | e
      · exact e
      · rcases List.mem_cons.mp ((h y).mpr List.mem_cons_self) with e2 | e2
        · exact e2.symm
        · have := a1 y e2
          have := b1 x e
          omega
    subst e
    congr 1
    refine rise_eq a2 b2 fun k => ?_
    constructor
    · intro hk
      rcases List.mem_cons.mp ((h k).mp (List.mem_cons_of_mem _ hk)) with e | e
      · have := a1 k hk; omega
      · exact e
    · intro hk
      rcases List.mem_cons.mp ((h k).mpr (List.mem_cons_of_mem _ hk)) with e | e
      · have := b1 k hk; omega
      · exact e
theorem sortU_len (l : List Int) : (sortU l).length ≤ l.length := by
  induction l with
  | nil => exact Nat.le_refl _
  | cons y r ih =>
    have key : ∀ m : List Int, (insU y m).length ≤ m.length + 1 := by
      intro m
      induction m with
      | nil => exact Nat.le_refl _
      | cons z q ih2 =>
        unfold insU
        split
        · exact Nat.le_refl _
        · split
          · exact Nat.le_succ _
          · simp only [List.length_cons]; omega
    exact Nat.le_trans (key (sortU r)) (Nat.succ_le_succ ih)
theorem ints_all {K : PySem.W.Frag} {H : Hp} : ∀ ns : List Int, RpAll K H (ns.map V.int) (ns.map .int)
  | [] => .nil
  | n :: r => .cons (.int n) (ints_all r)
section
variable {X : Cx} {ca : Nat → Addr} {e a b tg : Expr} {pos p p2 q : Pos} {fa fb fs : Ga → Rs D}
def rSetL (K : PySem.W.Frag) (w : World) : List V → Hp → VK → Prop := fun vs H Q => ∃ (l : Addr) (ns : List Int), vs = [V.ref l] ∧ SqL K H l (ns.map V.int) ∧ ns.length ≤ 4000 ∧
  ∀ (x : Addr) (c : Nat), H x = none → c ≤ ns.length → Q (.ref x) (upd H x (SetO w x (fun j => decide (j ∈ ns)) c))
theorem cr_setL (hc : X.calm = true) : CallR X (.type "set") (rSetL X.K X.w) := by
  intro pins s σ H vs us Q I r h
  obtain ⟨l, ns, rfl, hq, hl, q⟩ := h
  rw [Vals.ref1 r]
  obtain ⟨its, rv, pl, hz⟩ := I.list hq
  refine set_of_list ns (I.ok.hd hc) pl.isList (by simpa using RZ.intsAre_vals rv) (by unfold scanBound; omega) fun h1 t1 c1 R c2 k => ?_
  exact ⟨.ref s.heap.objs.size, _, I.laid k (Nat.le_refl _) (setO_new R), rfl, q _ c1 (I.hok.fresh (Nat.le_refl _)) c2⟩
def rSetA (K : PySem.W.Frag) (w : World) : List V → Hp → VK → Prop := fun vs H Q => ∃ (l : Addr) (ns : List Int), vs = [V.ref l] ∧ (SqL K H l (ns.map V.int) ∨ SqT K H l (ns.map V.int)) ∧ ns.length ≤ 4000 ∧
  ∀ (x : Addr) (c : Nat), H x = none → c ≤ ns.length → Q (.ref x) (upd H x (SetO w x (fun j => decide (j ∈ ns)) c))
theorem cr_setA (hc : X.calm = true) : CallR X (.type "set") (rSetA X.K X.w) := by
  intro pins s σ H vs us Q I r h
  obtain ⟨l, ns, rfl, hq | hq, hl, q⟩ := h
  · exact cr_setL hc pins s σ H _ us Q I r ⟨l, ns, rfl, hq, hl, q⟩
  · rw [Vals.ref1 r]
    obtain ⟨its, rv, pl, hz⟩ := I.tuple hq
    refine call_set_tupI ns (I.ok.hd hc) pl (by simpa using RZ.intsAre_vals rv) (by unfold scanBound; omega) fun h1 t1 c1 R c2 k => ?_
    exact ⟨.ref s.heap.objs.size, _, I.laid k (Nat.le_refl _) (setO_new R), rfl, q _ c1 (I.hok.fresh (Nat.le_refl _)) c2⟩
/-- len of such a set -/
def rLenSet (w : World) : List V → Hp → VK → Prop := fun vs H Q => ∃ (x : Addr) (S : Int → Bool) (n : Nat), vs = [V.ref x] ∧ H x = some (SetO w x S n) ∧ n ≤ 4000 ∧ (∀ ns : List Int, ns.Pairwise (· < ·) → (∀ k, k ∈ ns ↔ S k = true) → Q (.int (ns.length : Nat)) H)
theorem cr_lenSet : CallR X (.builtin "len") (rLenSet X.w) := by
  intro pins s σ H vs us Q I r h
  obtain ⟨x, S, n, rfl, hx, hn, q⟩ := h
  rw [Vals.ref1 r]
  obtain ⟨o, es, ep, t, ho, hex, hd, g, nd, hm, hb, hf, hsz, hr, hl⟩ := setO_get I hx
  refine call_len_set ho hex hd hf (by rw [hsz]; omega) ⟨.int es.size, H, I.tok _, ⟨_, rfl⟩, ?_⟩
  have hk : (∀ k, k ∈ sortU (es.toList.map keyOf) ↔ S k = true) := fun k => by rw [sortU_mem, hm k]
  have := q (sortU (es.toList.map keyOf)) (sortU_lt _) hk
  have e2 : (sortU (es.toList.map keyOf)).length = es.size := by
    have pm : (sortU (es.toList.map keyOf)).Perm (es.toList.map keyOf) := (List.perm_ext_iff_of_nodup ((sortU_lt _).imp fun h => by omega) nd).mpr fun k => sortU_mem
    rw [pm.length_eq, List.length_map, Array.length_toList]
  rw [e2] at this
  exact this
theorem jf_sset (hc : X.calm = true) (hg : Gl X "sorted") (hm : X.mg "sorted" = none) (hg2 : Gl X "set") (hm2 : X.mg "set" = none) (hs : notStar a = true) (h : JR X ca a fa) :
    JF X ca (tE X (.Call (.Name "sorted" p) [.Call (.Name "set" p2) [a] [] q] [] pos)) (fun g => (fa g).bind fun d => ssetF [d]) := by
  intro ps Hb0 H0 g σ Hb H Q W tk sat po
  refine tE_of (pe_callB (cr_sortedSet hc) hg hm (by decide +kernel) (pa_cons (pe_callTy (cr_setA hc) hg2 hm2 (by decide +kernel) (pa_cons pe_tE pa_nil (star_of hs)) (by decide) (by decide) (star_of hs) (back_of rfl)) pa_nil) (by decide) (by decide)) (h.run tk sat po fun d v Hb1 H1 e1 g1 r1 s1 p1 => ?_)
  dsimp only at po
  rw [e1] at po
  have po : Po ca Hb H (RF X.K H) (ssetF [d]) Q (fun c d H' => W c d σ H') := po
  have r1 : DpR X.K Hb1 H1 v d := r1
  cases d with
  | list xs =>
    obtain ⟨l, ws, rfl, hp, ha⟩ := r1.lst s1.same
    unfold ssetF at po
    dsimp only at po
    cases hi : intsOf xs with
    | none => rw [hi] at po; exact False.elim po
    | some ns =>
      rw [hi] at po
      dsimp only at po
      by_cases hl : ns.length < 60
      · rw [if_pos hl] at po
        have ew := ha.intsOfV hi
        subst ew
        refine ⟨l, ns, rfl, .inl (.of hp), by omega, fun x c hx hcl => ⟨x, _, c, rfl, upd_same, by omega, fun ms y h1 h2 h3 h4 => ?_⟩⟩
        have em : ms = sortU ns := rise_eq h1 (sortU_lt _) fun k => by rw [h2, sortU_mem]; exact decide_eq_true_iff
        subst em
        have hy : H1 y = none := by
          by_cases z : y = x
          · subst z; exact hx
          · rw [upd_ne z] at h4; exact h4
        have ne : y ≠ x := fun z => by subst z; rw [upd_same] at h4; cases h4
        have G2 : Gr Hb H Hb1 (upd H1 x (SetO X.w x (fun j => decide (j ∈ ns)) c)) := g1.trans (Gr.hid g1.s hx)
        exact RF.lay G2 h4 (ints_all _) po
      · rw [if_neg hl] at po; exact False.elim po
  | tuple xs =>
    obtain ⟨l, ws, rfl, hp, ha⟩ := r1.tup s1.same
    unfold ssetF at po
    dsimp only at po
    cases hi : intsOf xs with
    | none => rw [hi] at po; exact False.elim po
    | some ns =>
      rw [hi] at po
      dsimp only at po
      by_cases hl : ns.length < 60
      · rw [if_pos hl] at po
        have ew := ha.intsOfV hi
        subst ew
        refine ⟨l, ns, rfl, .inr (.of hp), by omega, fun x c hx hcl => ⟨x, _, c, rfl, upd_same, by omega, fun ms y h1 h2 h3 h4 => ?_⟩⟩
        have em : ms = sortU ns := rise_eq h1 (sortU_lt _) fun k => by rw [h2, sortU_mem]; exact decide_eq_true_iff
        subst em
        have hy : H1 y = none := by
          by_cases z : y = x
          · subst z; exact hx
          · rw [upd_ne z] at h4; exact h4
        have ne : y ≠ x := fun z => by subst z; rw [upd_same] at h4; cases h4
        have G2 : Gr Hb H Hb1 (upd H1 x (SetO X.w x (fun j => decide (j ∈ ns)) c)) := g1.trans (Gr.hid g1.s hx)
        exact RF.lay G2 h4 (ints_all _) po
      · rw [if_neg hl] at po; exact False.elim po
  | _ => exact False.elim po
theorem j_lset (hc : X.calm = true) (hg : Gl X "len") (hm : X.mg "len" = none) (hg2 : Gl X "set") (hm2 : X.mg "set" = none) (hs : notStar a = true) (h : JR X ca a fa) :
    JV X ca (.Call (.Name "len" p) [.Call (.Name "set" p2) [a] [] q] [] pos) (fun g => (fa g).bind fun d => lsetF [d]) := by
  intro ps Hb0 H0 g σ Hb H Q W tk sat po
  refine tE_of (pe_callB cr_lenSet hg hm (by decide +kernel) (pa_cons (pe_callTy (cr_setL hc) hg2 hm2 (by decide +kernel) (pa_cons pe_tE pa_nil (star_of hs)) (by decide) (by decide) (star_of hs) (back_of rfl)) pa_nil) (by decide) (by decide)) (h.run tk sat po fun d v Hb1 H1 e1 g1 r1 s1 p1 => ?_)
  have r1 : DpR X.K Hb1 H1 v d := r1
  cases d with
  | list xs =>
    obtain ⟨l, ws, rfl, hp, ha⟩ := r1.lst s1.same
    unfold lsetF at p1
    dsimp only at p1
    cases hi : intsOf xs with
    | none => rw [hi] at p1; exact False.elim p1
    | some ns =>
      rw [hi] at p1
      dsimp only at p1
      by_cases hl : ns.length < 4000
      · rw [if_pos hl] at p1
        have ew := ha.intsOfV hi
        subst ew
        refine ⟨l, ns, rfl, .of hp, by omega, fun x c hx hcl => ⟨x, _, c, rfl, upd_same, by omega, fun ms h1 h2 => ?_⟩⟩
        have em : ms = sortU ns := rise_eq h1 (sortU_lt _) fun k => by rw [h2, sortU_mem]; exact decide_eq_true_iff
        subst em
        exact p1.done (Gr.hid s1.same hx) (.int _)
      · rw [if_neg hl] at p1; exact False.elim p1
  | _ => exact False.elim p1
theorem rgV_all {K : PySem.W.Frag} {H : Hp} (lo hi : Int) : RpAll K H (rgV lo hi) (rngL lo hi) := by
  unfold rgV rngL
  generalize List.range (hi - lo).toNat = l
  induction l with
  | nil => exact .nil
  | cons i r ih => exact .cons (.int _) ih
theorem jf_lrng (hc : X.calm = true) (hg : Gl X "list") (hm : X.mg "list" = none) (hg2 : Gl X "range") (hm2 : X.mg "range" = none) (hs : notStar a = true) (h : JR X ca a fa) :
    JF X ca (tE X (.Call (.Name "list" p) [.Call (.Name "range" p2) [a] [] q] [] pos)) (fun g => (fa g).bind fun d => lrngF [d]) := by
  intro ps Hb0 H0 g σ Hb H Q W tk sat po
  refine tE_of (pe_listRg hc hg hm (prg_1 hg2 hm2 pe_tE (star_of hs))) (h.run tk sat po fun d v Hb1 H1 e1 g1 r1 s1 p1 => ?_)
  dsimp only at po
  rw [e1] at po
  have po : Po ca Hb H (RF X.K H) (lrngF [d]) Q (fun c d H' => W c d σ H') := po
  have r1 : DpR X.K Hb1 H1 v d := r1
  cases d with
  | int n =>
    have ev := r1.int
    subst ev
    unfold lrngF at po
    dsimp only at po
    by_cases hb : (decide (-1000000 ≤ n) && decide (n ≤ 1000000)) = true
    · rw [if_pos hb] at po
      rw [Bool.and_eq_true] at hb
      have b1 := of_decide_eq_true hb.1
      have b2 := of_decide_eq_true hb.2
      exact ⟨n, rfl, ⟨by omega, by omega, by omega, by omega, by omega⟩, fun y hy => RF.lay g1 hy (rgV_all 0 n) po⟩
    · rw [if_neg hb] at po; exact False.elim po
  | _ => exact False.elim po
theorem j_trng (hc : X.calm = true) (hg : Gl X "tuple") (hm : X.mg "tuple" = none) (hg2 : Gl X "range") (hm2 : X.mg "range" = none) (hs : notStar a = true) (h : JR X ca a fa) :
    JV X ca (.Call (.Name "tuple" p) [.Call (.Name "range" p2) [a] [] q] [] pos) (fun g => (fa g).bind fun d => trngF [d]) := by
  intro ps Hb0 H0 g σ Hb H Q W tk sat po
  refine tE_of (pe_tupRg hc hg hm (prg_1 hg2 hm2 pe_tE (star_of hs))) (h.run tk sat po fun d v Hb1 H1 e1 g1 r1 s1 p1 => ?_)
  have r1 : DpR X.K Hb1 H1 v d := r1
  cases d with
  | int n =>
    have ev := r1.int
    subst ev
    unfold trngF at p1
    dsimp only at p1
    by_cases hb : (decide (-1000000 ≤ n) && decide (n ≤ 1000000)) = true
    · rw [if_pos hb] at p1
      rw [Bool.and_eq_true] at hb
      have b1 := of_decide_eq_true hb.1
      have b2 := of_decide_eq_true hb.2
      exact ⟨n, rfl, ⟨by omega, by omega, by omega, by omega, by omega⟩, fun y hy => p1.done (Gr.lay s1.same hy) (.tup upd_same (rgV_all 0 n))⟩
    · rw [if_neg hb] at p1; exact False.elim p1
  | _ => exact False.elim p1
/-! ### zip, enumerate -/
theorem zipL_get {xs ys : List D} {i : Nat} {d : D} (h : (zipL xs ys)[i]? = some d) : ∃ x y, xs[i]? = some x ∧ ys[i]? = some y ∧ d = .tuple [x, y] := by
  unfold zipL at h
  rw [List.getElem?_map] at h
  cases hz : (xs.zip ys)[i]? with
  | none => rw [hz] at h; cases h
  | some pr =>
    rw [hz] at h
    cases h
    have := List.getElem?_zip_eq_some.mp hz
    exact ⟨_, _, this.1, this.2, rfl⟩
theorem zipL_len (xs ys : List D) : (zipL xs ys).length = min xs.length ys.length := by
  unfold zipL
  rw [List.length_map, List.length_zip]
theorem pair_on {K : PySem.W.Frag} {Hb2 H2 : Hp} {T : Addr} {x y : V} {d e : D} (s : Same Hb2 H2) (hT : H2 T = none) (h1 : Rp K Hb2 x d) (h2 : Rp K Hb2 y e) : ∃ Hb3, Gr Hb2 H2 Hb3 (upd H2 T (.tup [x, y])) ∧ Rp K Hb3 (.ref T) (.tuple [d, e]) := by
  have G : Gr Hb2 H2 (upd Hb2 T (.tup [x, y])) (upd H2 T (.tup [x, y])) := Gr.lay s hT
  exact ⟨_, G, .tup upd_same (.cons (h1.mono G.b) (.cons (h2.mono G.b) .nil))⟩
theorem wd_zipL {K : PySem.W.Frag} {Hb : Hp} {l m : Addr} {us ws : List V} {xs ys : List D} (hz : us.length ≤ sizeLine) (hp : Hb l = some (.lst us)) (hq : Hb m = some (.lst ws)) (ha : RpAll K Hb us xs) (hb : RpAll K Hb ws ys) : Walked K Hb (Itz K l m) (zipL xs ys) := by
  have l1 := ha.length
  have l2 := hb.length
  refine ⟨by rw [zipL_len]; omega, fun H => SqL K H l us ∧ SqL K H m ws, fun i H v H' => ∃ T x y, v = .ref T ∧ H T = none ∧ H' = upd H T (.tup [x, y]) ∧ us[i]? = some x ∧ ws[i]? = some y, ⟨fun i H hi G => ?_, fun H G => ?_, fun i H x H' hi G y => ?_⟩, fun Hb2 H2 s1 s2 => ⟨.of (s2 _ _ (s1 _ _ hp)), .of (s2 _ _ (s1 _ _ hq))⟩, fun i d Hb2 H2 x H3 hd s1 s2 y => ?_⟩
  · rw [zipL_len] at hi
    exact ⟨us, ws, us[i]'(by omega), ws[i]'(by omega), G.1, G.2, List.getElem?_eq_getElem _, List.getElem?_eq_getElem _⟩
  · exact ⟨us, ws, G.1, G.2, by rw [zipL_len]; omega⟩
  · obtain ⟨T, u, w, rfl, hT, rfl, h1, h2⟩ := y
    exact ⟨T, u, w, rfl, hT, rfl, h1 us G.1, h2 ws G.2⟩
  · obtain ⟨T, u, w, rfl, hT, rfl, h1, h2⟩ := y
    obtain ⟨d1, d2, hd1, hd2, rfl⟩ := zipL_get hd
    obtain ⟨d1', q1, q2⟩ := ha.getV h1
    obtain ⟨d2', q3, q4⟩ := hb.getV h2
    rw [hd1] at q1; cases q1
    rw [hd2] at q3; cases q3
    exact pair_on s2 hT (q2.mono s1) (q4.mono s1)
theorem wd_zipT {K : PySem.W.Frag} {Hb : Hp} {l m : Addr} {us ws : List V} {xs ys : List D} (hz : us.length ≤ sizeLine) (hp : Hb l = some (.tup us)) (hq : Hb m = some (.tup ws)) (ha : RpAll K Hb us xs) (hb : RpAll K Hb ws ys) : Walked K Hb (RZ.ItzT K l m) (zipL xs ys) := by
  have l1 := ha.length
  have l2 := hb.length
  refine ⟨by rw [zipL_len]; omega, fun H => SqT K H l us ∧ SqT K H m ws, fun i H v H' => ∃ T x y, v = .ref T ∧ H T = none ∧ H' = upd H T (.tup [x, y]) ∧ us[i]? = some x ∧ ws[i]? = some y, ⟨fun i H hi G => ?_, fun H G => ?_, fun i H x H' hi G y => ?_⟩, fun Hb2 H2 s1 s2 => ⟨.of (s2 _ _ (s1 _ _ hp)), .of (s2 _ _ (s1 _ _ hq))⟩, fun i d Hb2 H2 x H3 hd s1 s2 y => ?_⟩
  · rw [zipL_len] at hi
    exact ⟨us, ws, us[i]'(by omega), ws[i]'(by omega), G.1, G.2, List.getElem?_eq_getElem _, List.getElem?_eq_getElem _⟩
  · exact ⟨us, ws, G.1, G.2, by rw [zipL_len]; omega⟩
  · obtain ⟨T, u, w, rfl, hT, rfl, h1, h2⟩ := y
    exact ⟨T, u, w, rfl, hT, rfl, h1 us G.1, h2 ws G.2⟩
  · obtain ⟨T, u, w, rfl, hT, rfl, h1, h2⟩ := y
    obtain ⟨d1, d2, hd1, hd2, rfl⟩ := zipL_get hd
    obtain ⟨d1', q1, q2⟩ := ha.getV h1
    obtain ⟨d2', q3, q4⟩ := hb.getV h2
    rw [hd1] at q1; cases q1
    rw [hd2] at q3; cases q3
    exact pair_on s2 hT (q2.mono s1) (q4.mono s1)
theorem enumL_get {xs : List D} {i : Nat} {d : D} (h : (enumL xs)[i]? = some d) : ∃ x, xs[i]? = some x ∧ d = .tuple [.int (i : Nat), x] := by
  unfold enumL at h
  rw [List.getElem?_map] at h
  cases hz : ((List.range xs.length).zip xs)[i]? with
  | none => rw [hz] at h; cases h
  | some pr =>
    rw [hz] at h
    cases h
    have := List.getElem?_zip_eq_some.mp hz
    have e1 : pr.1 = i := by
      have h1 := this.1
      rw [List.getElem?_range (by
        have := (List.getElem?_eq_some_iff.mp h1).1
        rw [List.length_range] at this
        exact this)] at h1
      exact (Option.some.inj h1).symm
    exact ⟨_, this.2, by subst e1; rfl⟩
theorem enumL_len (xs : List D) : (enumL xs).length = xs.length := by
  unfold enumL
  rw [List.length_map, List.length_zip, List.length_range, Nat.min_self]
theorem wd_enumL {K : PySem.W.Frag} {Hb : Hp} {l : Addr} {us : List V} {xs : List D} (hz : us.length ≤ sizeLine) (hp : Hb l = some (.lst us)) (ha : RpAll K Hb us xs) : Walked K Hb (Ite K l) (enumL xs) := by
  have l1 := ha.length
  refine ⟨by rw [enumL_len]; omega, fun H => SqL K H l us, _, (by rw [enumL_len, ← l1]; exact walk_enum), fun Hb2 H2 s1 s2 => .of (s2 _ _ (s1 _ _ hp)), fun i d Hb2 H2 x H3 hd s1 s2 y => ?_⟩
  obtain ⟨T, u, w, rfl, hT, rfl, h1, h2⟩ := y
  obtain ⟨d2, hd2, rfl⟩ := enumL_get hd
  obtain ⟨d2', q3, q4⟩ := ha.getV h2
  rw [hd2] at q3; cases q3
  cases h1
  exact pair_on s2 hT (.int _) (q4.mono s1)
theorem wd_enumT {K : PySem.W.Frag} {Hb : Hp} {l : Addr} {us : List V} {xs : List D} (hz : us.length ≤ sizeLine) (hp : Hb l = some (.tup us)) (ha : RpAll K Hb us xs) : Walked K Hb (ItT K l) (enumL xs) := by
  have l1 := ha.length
  refine ⟨by rw [enumL_len]; omega, fun H => SqT K H l us, fun i H v H' => ∃ T x, v = .ref T ∧ H T = none ∧ H' = upd H T (.tup [.int (i : Nat), x]) ∧ us[i]? = some x, ⟨fun i H hi G => ?_, fun H G => ?_, fun i H x H' hi G y => ?_⟩, fun Hb2 H2 s1 s2 => .of (s2 _ _ (s1 _ _ hp)), fun i d Hb2 H2 x H3 hd s1 s2 y => ?_⟩
  · rw [enumL_len] at hi
    exact ⟨us, us[i]'(by omega), G, List.getElem?_eq_getElem _⟩
  · exact ⟨us, G, by rw [enumL_len]; omega⟩
  · obtain ⟨T, u, rfl, hT, rfl, h1⟩ := y
    exact ⟨T, u, rfl, hT, rfl, h1 us G⟩
  · obtain ⟨T, u, rfl, hT, rfl, h1⟩ := y
    obtain ⟨d2, hd2, rfl⟩ := enumL_get hd
    obtain ⟨d2', q3, q4⟩ := ha.getV h1
    rw [hd2] at q3; cases q3
    exact pair_on s2 hT (.int _) (q4.mono s1)
theorem js_enum {elts : List Expr} {kk : Nat} {tpos : Pos} (hg : Gl X "enumerate") (hm : X.mg "enumerate" = none) (hs : notStar a = true) (h : JV X ca a fa) :
    JS X ca (.Tuple elts kk tpos) (.Call (.Name "enumerate" p) [a] [] pos) (fun g => (fa g).bind enumD) :=
  fun ps Hb0 H0 g σ Hb H Q W tk sat po => tI_len (pi_enumA hg hm (pa_cons pe_tE pa_nil (star_of hs)) (star1 hs)) (h.run tk sat po fun d v Hb1 H1 e1 g1 r1 s1 p1 => by
    have r1 : Rp X.K Hb1 v d := r1
    unfold enumD at p1
    split at p1
    · cases r1 with
      | lst hp ha => exact ⟨_, _, rfl, .inl ⟨.of (s1.same _ _ hp), fun hz => p1.done (.refl s1.same) (wd_enumL (hz _ _ (s1.same _ _ hp)) hp ha)⟩⟩
    · cases r1 with
      | tup hp ha => exact ⟨_, _, rfl, .inr ⟨.of (s1.same _ _ hp), fun hz => p1.done (.refl s1.same) (wd_enumT (hz _ _ (s1.same _ _ hp)) hp ha)⟩⟩
    · exact False.elim p1)
theorem wd_zipM {K : PySem.W.Frag} {Hb : Hp} {l m : Addr} {us ws : List V} {xs ys : List D} (hz : us.length ≤ sizeLine) (hp : Hb l = some (.tup us)) (hq : Hb m = some (.lst ws)) (ha : RpAll K Hb us xs) (hb : RpAll K Hb ws ys) : Walked K Hb (ItzM K l m) (zipL xs ys) := by
  have l1 := ha.length
  have l2 := hb.length
  refine ⟨by rw [zipL_len]; omega, fun H => SqT K H l us ∧ SqL K H m ws, fun i H v H' => ∃ T x y, v = .ref T ∧ H T = none ∧ H' = upd H T (.tup [x, y]) ∧ us[i]? = some x ∧ ws[i]? = some y, ⟨fun i H hi G => ?_, fun H G => ?_, fun i H x H' hi G y => ?_⟩, fun Hb2 H2 s1 s2 => ⟨.of (s2 _ _ (s1 _ _ hp)), .of (s2 _ _ (s1 _ _ hq))⟩, fun i d Hb2 H2 x H3 hd s1 s2 y => ?_⟩
  · rw [zipL_len] at hi
    exact ⟨us, ws, us[i]'(by omega), ws[i]'(by omega), G.1, G.2, List.getElem?_eq_getElem _, List.getElem?_eq_getElem _⟩
  · exact ⟨us, ws, G.1, G.2, by rw [zipL_len]; omega⟩
  · obtain ⟨T, u, w, rfl, hT, rfl, h1, h2⟩ := y
    exact ⟨T, u, w, rfl, hT, rfl, h1 us G.1, h2 ws G.2⟩
  · obtain ⟨T, u, w, rfl, hT, rfl, h1, h2⟩ := y
    obtain ⟨d1, d2, hd1, hd2, rfl⟩ := zipL_get hd
    obtain ⟨d1', q1, q2⟩ := ha.getV h1
    obtain ⟨d2', q3, q4⟩ := hb.getV h2
    rw [hd1] at q1; cases q1
    rw [hd2] at q3; cases q3
    exact pair_on s2 hT (q2.mono s1) (q4.mono s1)
theorem js_zip {elts : List Expr} {kk : Nat} {tpos : Pos} (hg : Gl X "zip") (hm : X.mg "zip" = none) (hs : notStar a = true) (hs2 : notStar b = true) (h : JV X ca a fa) (h2 : JV X ca b fb) :
    JS X ca (.Tuple elts kk tpos) (.Call (.Name "zip" p) [a, b] [] pos) (fun g => (fa g).bind fun x => (fb g).bind fun y => zipD x y) :=
  fun ps Hb0 H0 g σ Hb H Q W tk sat po => tI_len (pi_zipM hg hm (pa_cons pe_tE (pa_cons pe_tE pa_nil (star_of hs2)) (star_of hs)) (by rw [star_of hs, star1 hs2]) (back_of (by rw [noStars, List.all_cons, hs2]; rfl))) (h.run tk sat po fun d v Hb1 H1 e1 g1 r1 s1 p1 => h2.run tk s1 p1 fun e w Hb2 H2 e2 g2 r2 s2 p2 => by
    have r1 : Rp X.K Hb1 v d := r1
    have r2 : Rp X.K Hb2 w e := r2
    unfold zipD at p2
    split at p2
    · cases r1 with
      | lst hp ha => cases r2 with
        | lst hq hb =>
          have hp2 := g2.b _ _ hp
          exact ⟨_, _, _, _, rfl, .inl ⟨.of (s2.same _ _ hp2), .of (s2.same _ _ hq), fun hz => p2.done (.refl s2.same) (wd_zipL (hz _ _ (s2.same _ _ hp2)) hp2 hq (ha.mono g2.b) hb)⟩⟩
    · cases r1 with
      | tup hp ha => cases r2 with
        | tup hq hb =>
          have hp2 := g2.b _ _ hp
          exact ⟨_, _, _, _, rfl, .inr (.inl ⟨.of (s2.same _ _ hp2), .of (s2.same _ _ hq), fun hz => p2.done (.refl s2.same) (wd_zipT (hz _ _ (s2.same _ _ hp2)) hp2 hq (ha.mono g2.b) hb)⟩)⟩
    · cases r1 with
      | tup hp ha => cases r2 with
        | lst hq hb =>
          have hp2 := g2.b _ _ hp
          exact ⟨_, _, _, _, rfl, .inr (.inr ⟨.of (s2.same _ _ hp2), .of (s2.same _ _ hq), fun hz => p2.done (.refl s2.same) (wd_zipM (hz _ _ (s2.same _ _ hp2)) hp2 hq (ha.mono g2.b) hb)⟩)⟩
    · exact False.elim p2)
theorem few1 {env : Env} {q : Pos} {e : Expr} (hs : notStar e = true) : ((backTo q (starEach [e] env)).all (fun x => !x.1) && (backToKw q (keywordEach [] env)).all (fun x => x.1.isSome) && decide (([e] : List Expr).length + ([] : List Keyword).length + (if ([] : List Keyword).isEmpty then 0 else 1) < 30)) = true := by
  rw [star1 hs]
  rfl
theorem j_count {x : Str} {q q2 p' : Pos} {fo fs : Ga → Rs D} (hl : (q2.endLine == p'.line) = true) (hs : notStar a = true) (ho : JR X ca (.Name x q) fo) (h : JA X ca [a] fs) :
    JV X ca (.Call (.Attribute (.Name x q) "count" q2) [a] [] p') (fun g => (fo g).bind fun x => (isLD x).bind fun _ => (fs g).bind (argsD (mtD .count x))) := by
  intro ps Hb0 H0 g σ Hb H Q W tk sat po
  refine tE_of (pe_bm PySem.F.plainAttrs_list PySem.F.slot_list_count PySem.F.type_list_count mt_lcount pe_tE pa_tA rfl (few1 hs) hl (star_of hs) (back_of rfl)) ?_
  refine ho.run tk sat po fun d v Hb1 H1 e1 g1 r1 s1 p1 => ?_
  have r1 : DpR X.K Hb1 H1 v d := r1
  cases d with
  | list xs =>
    have p1 : Po ca Hb1 H1 (RV X.K) ((fs g).bind (argsD (mtD .count (.list xs)))) Q (fun c d H' => W c d σ H') := p1
    obtain ⟨p, vs, rfl, hp, ha⟩ : ∃ p vs, v = .ref p ∧ H1 p = some (.lst vs) ∧ RpAll X.K Hb1 vs xs := by
      rcases r1 with r1 | ⟨p, vs, ds, e1, e2, e3, e4⟩
      · cases r1 with
        | lst hp ha => exact ⟨_, _, rfl, s1.same _ _ hp, ha⟩
      · cases e2
        exact ⟨p, vs, e1, e3, e4⟩
    refine ⟨.inl ⟨rfl, _, .of hp⟩, h.run tk s1 p1 fun d2 ws Hb2 H2 e2 g2 r2 s2 p2 => ?_⟩
    obtain ⟨ds, rfl, ra⟩ := r2
    have p2 : Po ca Hb2 H2 (RV X.K) (mtD .count (.list xs) ds) Q (fun c d H' => W c d σ H') := p2
    match ds, ra, p2 with
    | [.int k], ra, p2 =>
      have p2 : Po ca Hb2 H2 (RV X.K) (match intsOf xs with | some ns => Rs.ok (PyData.int (ns.count k)) | none => .bad) Q (fun c d H' => W c d σ H') := p2
      cases hi : intsOf xs with
      | none => rw [hi] at p2; exact False.elim p2
      | some ns =>
        rw [hi] at p2
        have ev := ha.intsOfV hi
        subst ev
        cases ra with
        | cons r rr =>
          cases rr
          cases r
          exact ⟨p, ns, k, rfl, rfl, .of (g2.h _ _ hp), p2.done (.refl s2.same) (.int _)⟩
    | [], _, p2 => exact False.elim p2
    | a :: _ :: _, _, p2 => exact False.elim (by cases a <;> exact p2)
    | [.none], _, p2 => exact False.elim p2
    | [.bool _], _, p2 => exact False.elim p2
    | [.str _], _, p2 => exact False.elim p2
    | [.list _], _, p2 => exact False.elim p2
    | [.tuple _], _, p2 => exact False.elim p2
    | [.dict _], _, p2 => exact False.elim p2
  | _ => exact False.elim p1
theorem eqV_int {a b : Int} : eqV (.int a) (.int b) = (a == b) := rfl
theorem j_index {x : Str} {q q2 p' : Pos} {fo fs : Ga → Rs D} (hl : (q2.endLine == p'.line) = true) (hs : notStar a = true) (ho : JR X ca (.Name x q) fo) (h : JA X ca [a] fs) :
    JV X ca (.Call (.Attribute (.Name x q) "index" q2) [a] [] p') (fun g => (fo g).bind fun x => (isLD x).bind fun _ => (fs g).bind (argsD (mtD .index x))) := by
  intro ps Hb0 H0 g σ Hb H Q W tk sat po
  refine tE_of (pe_bm PySem.F.plainAttrs_list PySem.F.slot_list_index PySem.F.type_list_index mt_index pe_tE pa_tA rfl (few1 hs) hl (star_of hs) (back_of rfl)) ?_
  refine ho.run tk sat po fun d v Hb1 H1 e1 g1 r1 s1 p1 => ?_
  have r1 : DpR X.K Hb1 H1 v d := r1
  cases d with
  | list xs =>
    have p1 : Po ca Hb1 H1 (RV X.K) ((fs g).bind (argsD (mtD .index (.list xs)))) Q (fun c d H' => W c d σ H') := p1
    obtain ⟨p, vs, rfl, hp, ha⟩ : ∃ p vs, v = .ref p ∧ H1 p = some (.lst vs) ∧ RpAll X.K Hb1 vs xs := by
      rcases r1 with r1 | ⟨p, vs, ds, e1, e2, e3, e4⟩
      · cases r1 with
        | lst hp ha => exact ⟨_, _, rfl, s1.same _ _ hp, ha⟩
      · cases e2
        exact ⟨p, vs, e1, e3, e4⟩
    refine ⟨.inl ⟨rfl, _, .of hp⟩, h.run tk s1 p1 fun d2 ws Hb2 H2 e2 g2 r2 s2 p2 => ?_⟩
    obtain ⟨ds, rfl, ra⟩ := r2
    have p2 : Po ca Hb2 H2 (RV X.K) (mtD .index (.list xs) ds) Q (fun c d H' => W c d σ H') := p2
    match ds, ra, p2 with
    | [.int k], ra, p2 =>
      have p2 : Po ca Hb2 H2 (RV X.K) (match intsOf xs with | some ns => if ns.contains k then Rs.ok (PyData.int (ns.idxOf k : Nat)) else .bad | none => .bad) Q (fun c d H' => W c d σ H') := p2
      cases hi : intsOf xs with
      | none => rw [hi] at p2; exact False.elim p2
      | some ns =>
        rw [hi] at p2
        have ev := ha.intsOfV hi
        subst ev
        cases ra with
        | cons r rr =>
          cases rr
          cases r
          dsimp only at p2
          split at p2
          · rename_i hc
            have hm := List.contains_iff_mem.mp hc
            have hlt := List.idxOf_lt_length_of_mem hm
            refine ⟨p, ns.map V.int, .int k, ns.idxOf k, .int k, rfl, rfl, .of (g2.h _ _ hp), rfl, by rw [List.all_map, List.all_eq_true]; exact fun _ _ => rfl, ?_, beq_self_eq_true k, fun m z' hm' hz' => ?_, p2.done (.refl s2.same) (.int _)⟩
            · rw [List.getElem?_map, List.getElem?_eq_getElem hlt, List.getElem_idxOf hlt]
              rfl
            · rw [List.getElem?_map] at hz'
              have hml : m < ns.length := by omega
              rw [List.getElem?_eq_getElem hml] at hz'
              cases hz'
              show (ns[m] == k) = false
              have := List.not_of_lt_findIdx (p := (· == k)) (xs := ns) (i := m) hm'
              simpa using this
          · exact False.elim p2
    | [], _, p2 => exact False.elim p2
    | a :: _ :: _, _, p2 => exact False.elim (by cases a <;> exact p2)
    | [.none], _, p2 => exact False.elim p2
    | [.bool _], _, p2 => exact False.elim p2
    | [.str _], _, p2 => exact False.elim p2
    | [.list _], _, p2 => exact False.elim p2
    | [.tuple _], _, p2 => exact False.elim p2
    | [.dict _], _, p2 => exact False.elim p2
  | _ => exact False.elim p1
end
end Ip

set_option maxHeartbeats 4000000
namespace Ip
open PySem PySem.Spec PyProof.Rows L2
/-! ### texts -/
theorem strs_rp {K : PySem.W.Frag} {H : Hp} : ∀ {vs : List V} {ds : List D} {ys : List Str}, RpAll K H vs ds → strsOf ds = some ys → vs = ys.map V.str
  | _, _, _, .nil, h => by cases h; rfl
  | _, _, ys, .cons (d := d) r ra, h => by
    cases r with
    | str x =>
      unfold strsOf at h
      cases q : strsOf _ with
      | none => rw [q] at h; cases h
      | some zs =>
        rw [q] at h
        cases h
        rw [strs_rp ra q]
        rfl
    | non => cases h
    | bl _ => cases h
    | int _ => cases h
    | lst _ _ => cases h
    | tup _ _ => cases h
    | scr _ => cases h
    | ptr _ => cases h
theorem rp_strs {K : PySem.W.Frag} {H : Hp} : ∀ ys : List Str, RpAll K H (ys.map V.str) (ys.map PyData.str)
  | [] => .nil
  | _ :: r => .cons (.str _) (rp_strs r)
theorem lim_line {n : Nat} (h : n ≤ lim) : n ≤ sizeLine := Nat.le_trans h (by decide)
section
variable {X : Cx} {ca : Nat → Addr} {a b : Expr} {es : List Expr} {fa fb : Ga → Rs D} {pos : Pos}
theorem j_join {s : Str} {j : Nat} {q q2 p' : Pos} (hl : (q2.endLine == p'.line) = true) (hs : notStar a = true) (h : JR X ca a fa) : JV X ca (.Call (.Attribute (.Constant (.str s) j q) "join" q2) [a] [] p') (fun g => (fa g).bind (joinD s)) := by
  intro ps Hb0 H0 g σ Hb H Q W tk sat po
  refine tE_of (pe_join pe_str pe_tE (star1 hs) rfl hl) ?_
  refine ⟨⟨s, rfl⟩, h.run tk sat po fun d v Hb1 H1 e1 g1 r1 s1 p1 => ?_⟩
  replace r1 : DpR X.K Hb1 H1 v d := r1
  unfold joinD at p1
  split at p1
  · rename_i xs
    obtain ⟨p, vs, rfl, hp, ha⟩ := r1.lst s1.same
    cases hy : strsOf xs with
    | none => rw [hy] at p1; exact False.elim p1
    | some ys =>
      rw [hy] at p1
      dsimp only at p1
      split at p1
      · rename_i hz
        have ev := strs_rp ha hy
        subst ev
        exact ⟨s, p, ys, rfl, rfl, .inl (.of hp), Nat.le_trans hz (by decide), p1.done (.refl s1.same) (.str _)⟩
      · exact False.elim p1
  · exact False.elim p1
theorem j_split {x : Str} {s : Str} {j : Nat} {q q2 q3 p' : Pos} {fo : Ga → Rs D} (hl : (q2.endLine == p'.line) = true) (ho : JV X ca (.Name x q) fo) : JV X ca (.Call (.Attribute (.Name x q) "split" q2) [.Constant (.str s) j q3] [] p') (fun g => (fo g).bind (splD s)) := by
  intro ps Hb0 H0 g σ Hb H Q W tk sat po
  refine tE_of (pe_split pe_tE pe_str rfl rfl hl) ?_
  refine ho.run tk sat po fun d v Hb1 H1 e1 g1 r1 s1 p1 => ?_
  replace r1 : Rp X.K Hb1 v d := r1
  unfold splD at p1
  split at p1
  · rename_i t
    split at p1
    · rename_i hz
      cases r1
      refine ⟨⟨t, rfl⟩, t, s, rfl, rfl, hz.1, lim_line hz.2, fun p hp => p1.done (Gr.lay s1.same hp) (.lst upd_same (rp_strs _))⟩
    · exact False.elim p1
  · exact False.elim p1
theorem j_sidx {x : Str} {c : Str} {q q2 p' : Pos} (hl : (q2.endLine == p'.line) = true) (hs : notStar a = true) (ho : JV X ca (.Name x q) (fun _ => .ok (.str c))) (h : JV X ca a fa) : JV X ca (.Call (.Attribute (.Name x q) "index" q2) [a] [] p') (fun g => (fa g).bind (sidxD c)) := by
  intro ps Hb0 H0 g σ Hb H Q W tk sat po
  refine tE_of (pe_m1 PySem.F.slot_str_index PySem.F.type_str_index mt_sindex pe_tE pe_tE (star1 hs) rfl hl) ?_
  refine ho ps Hb0 H0 g σ Hb H _ W tk sat fun v Hb1 H1 g1 r1 => ?_
  replace r1 : Rp X.K Hb1 v (.str c) := r1
  cases r1
  refine ⟨⟨c, rfl⟩, h.run tk (sat.go g1) (po.gr g1) fun d v Hb2 H2 e2 g2 r2 s2 p2 => ?_⟩
  replace r2 : Rp X.K Hb2 v d := r2
  unfold sidxD at p2
  split at p2
  · rename_i t
    cases r2
    split at p2
    · rename_i i r hi
      exact ⟨c, t, i, r, rfl, rfl, hi, p2.done (.refl s2.same) (.int _)⟩
    · exact False.elim p2
  · exact False.elim p2
/-! f-strings: part by part -/
def fmtB : Expr → Bool
  | .Constant (.str _) _ _ => true
  | .FormattedValue _ (-1) none _ => true
  | _ => false
/-- one part: its text -/
def JP (X : Cx) (ca : Nat → Addr) (e : Expr) (f : Ga → Rs Str) : Prop := JG X ca (tE X e) (fun y v _ _ => v = V.str y) f
theorem jp_const {s : Str} {j : Nat} : JP X ca (.Constant (.str s) j pos) (fun _ => .ok s) := fun ps Hb0 H0 g σ Hb H Q W tk sat po => tE_of pe_str (po (.str s) Hb H (.refl sat.same) rfl)
theorem jp_fmt (h : JV X ca a fa) : JP X ca (.FormattedValue a (-1) none pos) (fun g => (fa g).bind fmtD) := fun ps Hb0 H0 g σ Hb H Q W tk sat po => tE_of (pe_fmt pe_tE) (h.run tk sat po fun d v Hb1 H1 e1 g1 r1 s1 p1 => by
  replace r1 : Rp X.K Hb1 v d := r1
  unfold fmtD at p1
  split at p1
  · rename_i y
    split at p1
    · rename_i hz
      cases r1
      exact .inl ⟨y, rfl, lim_line hz, p1 (.str y) Hb1 H1 (.refl s1.same) rfl⟩
    · exact False.elim p1
  · rename_i i
    split at p1
    · rename_i hz
      cases r1
      exact .inr ⟨i, rfl, log_lt hz, p1 (.str (toString i : String)) Hb1 H1 (.refl s1.same) rfl⟩
    · exact False.elim p1
  · exact False.elim p1)
/-- the parts one behind the other, after acc -/
inductive JPs (X : Cx) (ca : Nat → Addr) : List Expr → (Ga → Rs D) → Prop
  | nil : JPs X ca [] (fun _ => .ok (.str Str.empty))
  | cons {e : Expr} {es : List Expr} {f : Ga → Rs Str} {fr : Ga → Rs D} : JP X ca e f → JPs X ca es fr → JPs X ca (e :: es) (fun g => (f g).bind fun y => noEx (fr g) (catD y))
theorem jps_pj {fr : Ga → Rs D} (h : JPs X ca es fr) : ∃ ts, PJ X es ts ∧ ∀ (ps : List Addr) (Hb0 H0 : Hp) (g : Ga) (σ : L2.St) (Hb H : Hp) (acc : Str) (Q : Str → Hp → Prop) (W : WX), Takes X W → Sat X.K ps Hb0 H0 g σ Hb H → (∀ z, fr g = .ok (.str z) → (acc ++ z).length ≤ sizeLine) →
    Po ca Hb H (fun (d : D) (o : Str) _ _ => ∃ z, d = .str z ∧ o = acc ++ z) (fr g) Q (fun c d H' => W c d σ H') → tJs ts acc σ H Q := by
  induction h with
  | nil => exact ⟨[], .nil, fun ps Hb0 H0 g σ Hb H acc Q W tk sat hz po => po acc Hb H (.refl sat.same) ⟨Str.empty, rfl, (Str.append_empty acc).symm⟩⟩
  | @cons e es f fr hp hr ih =>
    obtain ⟨ts, pj, k⟩ := ih
    refine ⟨tE X e :: ts, .cons pe_tE pj, fun ps Hb0 H0 g σ Hb H acc Q W tk sat hz po => ?_⟩
    refine hp.run tk sat po fun y v Hb1 H1 e1 g1 r1 s1 p1 => ?_
    have r1 : v = V.str y := r1
    subst r1
    replace hz : ∀ z, ((f g).bind fun y => noEx (fr g) (catD y)) = .ok (.str z) → (acc ++ z).length ≤ sizeLine := hz
    rw [e1] at hz
    replace hz : ∀ z, noEx (fr g) (catD y) = .ok (.str z) → (acc ++ z).length ≤ sizeLine := hz
    cases hf : fr g with
    | ok d =>
      rw [hf] at p1 hz
      replace p1 : Po ca Hb1 H1 (fun (d : D) (o : Str) _ _ => ∃ z, d = .str z ∧ o = acc ++ z) (catD y d) Q (fun c d H' => W c d σ H') := p1
      replace hz : ∀ z, catD y d = .ok (.str z) → (acc ++ z).length ≤ sizeLine := hz
      unfold catD at p1 hz
      split at p1
      · rename_i z
        split at p1
        · rename_i hl
          dsimp only at hz
          rw [if_pos hl] at hz
          replace hz := hz _ rfl
          rw [Str.length_append, Str.length_append] at hz
          refine ⟨y, rfl, by rw [Str.length_append]; omega, k ps Hb0 H0 g σ Hb1 H1 (acc ++ y) Q W tk s1 (fun z' e' => ?_) ?_⟩
          · rw [hf] at e'
            cases e'
            rw [Str.length_append, Str.length_append]
            omega
          · rw [hf]
            rintro o Hb2 H2 g2 ⟨z', e', rfl⟩
            cases e'
            exact p1 _ Hb2 H2 g2 ⟨y ++ z, rfl, Str.append_assoc acc y z⟩
        · exact False.elim p1
      · exact False.elim p1
    | ex c => rw [hf] at p1; exact False.elim p1
    | bad => rw [hf] at p1; exact False.elim p1
theorem catD_len {y : Str} {d e : D} (h : catD y d = .ok e) : ∃ z, e = .str z ∧ z.length ≤ lim := by
  unfold catD at h
  split at h
  · split at h
    · rename_i hl
      cases h
      exact ⟨_, rfl, by rw [Str.length_append]; exact hl⟩
    · cases h
  · cases h
theorem jps_len {fr : Ga → Rs D} (h : JPs X ca es fr) {g : Ga} {d : D} (e : fr g = .ok d) : ∃ z, d = .str z ∧ z.length ≤ lim := by
  cases h with
  | nil => cases e; exact ⟨_, rfl, by decide⟩
  | @cons e1 es f fr hp hr =>
    have e : ((f g).bind fun y => noEx (fr g) (catD y)) = .ok d := e
    cases q : f g with
    | ok y =>
      rw [q] at e
      have e : noEx (fr g) (catD y) = .ok d := e
      cases q2 : fr g with
      | ok d2 => rw [q2] at e; exact catD_len e
      | ex c => rw [q2] at e; cases e
      | bad => rw [q2] at e; cases e
    | ex c => rw [q] at e; cases e
    | bad => rw [q] at e; cases e
/-- an f-string of two parts and more -/
theorem j_fs {v1 v2 : Expr} {rest : List Expr} {fr : Ga → Rs D} (h : JPs X ca (v1 :: v2 :: rest) fr) : JV X ca (.JoinedStr (v1 :: v2 :: rest) pos) fr := by
  obtain ⟨ts, pj, k⟩ := jps_pj h
  intro ps Hb0 H0 g σ Hb H Q W tk sat po
  refine tE_of (pe_joined pj) (k ps Hb0 H0 g σ Hb H Str.empty _ W tk sat (fun z e => ?_) ?_)
  · obtain ⟨z', e1, hz⟩ := jps_len h e
    cases e1
    rw [Str.empty_append]
    exact lim_line hz
  · generalize fr g = r at po
    cases r with
    | ok d =>
      rintro o Hb1 H1 g1 ⟨z, rfl, rfl⟩
      rw [Str.empty_append]
      exact po (.str z) Hb1 H1 g1 (.str z)
    | ex c => exact po
    | bad => exact po
end
end Ip

set_option maxHeartbeats 4000000
/-! ### isinstance of a caught error that has fields of its own -/
namespace PySem.W
open PySem PySem.Spec PySem.Calls PyProof.Rows
section
variable {prog : Program} {w : World} {A : Around} {E : Value → Shared → Prop} {s : Shared} {K : Frag} {x D : Addr} {ox dob : Obj}
/-- what is asked of the class -/
structure AskF (K : Frag) (D : Addr) : Prop where
  c1 : findIn K (.ref D) "__getattribute__" = some (some (.builtin "BaseException.__getattribute__"))
  c2 : findIn K (.ref D) "__getattr__" = some none
  c3 : subIn K (.ref D) (.type "BaseException") = some true
  c4 : hasDictIn K D = true
  c5 : findIn K (.ref D) "__class__" = some (some (.builtin "object.__class__"))
  c6 : specialIn K (.builtin "object.__class__") "__get__" = some (some (.builtin "getset_descriptor.__get__"))
  c7 : takesIn K (.builtin "object.__class__") = some true
  c8 : mroIn K D (.type "object") = some true
theorem AskF.isC (T : AskF K D) : (clsIn K D).isSome = true := by obtain ⟨cd, hc, _⟩ := any_some T.c4; rw [hc]; rfl
theorem AskF.cls {Q : Option Value → Shared → Prop} (T : AskF K D) (X : K.In s.heap) (I : InstAt s.heap x ox D (some dob)) (q : Q (some (.ref D)) { s with toks := s.toks + 1 }) : wpAny (model prog w) A (getAttr? (.ref x) "__class__") Q E s := by
  obtain ⟨hp, gn, dr, tk, os⟩ := s
  have ty := I.type (M := model prog w)
  have find := looks_find (M := model prog w) X I (findObj_data (od := dob) T.isC T.c5 T.c6 T.c7)
  have isx : Looks (model prog w) hp (isInstance (.ref x) (.type "BaseException")) true := ty.andThen (looks_subIn X T.c3)
  have ne : (Value.builtin "BaseException.__getattribute__" == Value.builtin "object.__getattribute__") = false := by decide +kernel
  unfold getAttr? getAttrBy? getAttrBy
  refine wpAny_bind (wpAny_mkText (wpAny_bind (wpAny_attempt (wpAny_holding (wpAny_bind (ty.at (wpAny_bind ((looks_findIn (M := model prog w) X T.c1).at ?_))))))))
  have n2 : (onTheHeap (Value.ref D) && Value.builtin "BaseException.__getattribute__" == Value.builtin "object.__getattribute__") = false := by rw [ne, Bool.and_false]
  show wpAny _ _ (ite ((onTheHeap (Value.ref D) && Value.builtin "BaseException.__getattribute__" == Value.builtin "object.__getattribute__") = true) _ _) _ _ _
  rw [n2, if_neg Bool.false_ne_true]; unfold getAttrByItsOwn hookBefore
  refine wpAny_bind ?_; rw [if_pos (show onTheHeap (Value.ref D) = true from rfl)]
  refine (looks_findIn (M := model prog w) X T.c2).at (wpAny_bind (wpAny_attempt (wpAny_holding ?_)))
  unfold callGetattribute; rw [show (false && onTheHeap (Value.builtin "BaseException.__getattribute__")) = false from rfl, if_neg Bool.false_ne_true]
  unfold boundAndCalled; rw [PySem.F.excAttr_ValueError.ga.bind (.ref x)]
  refine wpAny_bind (wpAny_pure (show wpAny _ _ (call (.builtin "BaseException.__getattribute__") [.ref x, .str "__class__" tk]) _ _ _ from wpAny_call (codeAny_call_builtin PySem.F.excAttr_ValueError.ga.plain PySem.F.entry_bexc_ga ?_)))
  refine @check_slot (model prog w) _ _ ⟨hp, gn, dr, tk + 1, os⟩ "BaseException.__getattribute__" "BaseException" "__getattribute__" (.ref x) [.str "__class__" tk] [] _ (by decide +kernel) (by decide +kernel) isx (PySem.F.args_bexc_ga (.ref x) (.str "__class__" tk)) ?_
  unfold Builtin.«object.__getattribute__»
  refine wpAny_bind (wpAny_of_eq (a := ((Value.ref x : Value), [Value.str "__class__" tk])) (by first | rfl | (simp only [slotArgs]; rfl)) (wpAny_bind (wpAny_pure (wpAny_bind (ty.at (wpAny_bind (find.at ?_)))))))
  show wpAny _ _ (bind (holding [Value.builtin "object.__class__"] (call (.builtin "getset_descriptor.__get__") [.builtin "object.__class__", .ref x, .ref D])) ret) _ _ _
  refine wpAny_bind (wpAny_holding (wpAny_call (class_get (s := ⟨hp, gn, dr, tk + 1, os⟩) (ox := ox) (od := some dob) X I T.c8 (wpAny_pure ?_))))
  show wpAny _ _ (handedOut (Value.ref D)) _ _ _
  rw [handedOut_of (v := Value.ref D) rfl]
  first
    | exact wpAny_pure (wpAny_pure q)
    | exact wpAny_pure q
    | exact wpAny_pure (wpAny_bind (wpAny_pure (wpAny_pure q)))
theorem AskF.kit (T : AskF K D) : KitX K (.ref x) (.ref D) (fun h => InstAt h x ox D (some dob)) := by
  obtain ⟨cdD, hcD, _⟩ := any_some T.c4
  refine ⟨fun _ _ _ I => I.type, fun _ _ X _ => ?_, fun h tp dd its n sl X htp => ?_, fun X I k => T.cls X I k⟩
  · unfold clsIn at hcD; split at hcD
    · rename_i ho; intro A' Q' E' s' k q; unfold isType loadHead; exact wpAny_bind (wpAny_loadPart (k _ _ (X _ _ ho)) (wpAny_pure q))
    · cases hcD
  · cases q : (Value.ref D == Value.ref tp) with
    | false => rfl
    | true =>
      have e := Value.ref.inj (beq_iff_eq.mp q); subst e
      unfold clsIn at hcD; split at hcD
      · rename_i ho; cases (X _ _ ho).symm.trans htp
      · cases hcD
end
end PySem.W
namespace Ip
open PySem PySem.Spec PyProof.Rows L2
/-- isinstance(e, c), e held by the suite, its dict at dx -/
def rIsD (K : PySem.W.Frag) (D a dx : Addr) : List V → Hp → VK → Prop := fun xs H Q => ∃ (c : V) (cv : Value) (b : Bool) (fs : List (Str × V)), xs = [.ref a, c] ∧ (∀ u, RelV c u → u = cv) ∧ H dx = some (.xd fs) ∧ PySem.W.kitOne K (.ref D) cv = some b ∧ Q (.bl b) H
theorem call_isD {X : Cx} {a D dx : Addr} {oe : Obj} {pn : List (Addr × Obj)} (T : PySem.W.AskF X.K D) (hz : Zc (.ref D) (some dx) oe) (hf : ∃ vs, oe.data = .fields vs) : CallR (X.suite a ((a, oe) :: pn)) (.builtin "isinstance") (rIsD X.K D a dx) := by
  intro pins s σ H xs us Q I r h
  obtain ⟨c, cv, b, fs, rfl, hcv, hdx, e, q⟩ := h
  obtain ⟨u1, u2, rfl, r1, r2⟩ : ∃ u1 u2, us = [u1, u2] ∧ RelV (.ref a) u1 ∧ RelV c u2 := by
    cases r with
    | cons rx rr => cases rr with
      | cons rt rr => cases rr; exact ⟨_, _, rfl, rx, rt⟩
  cases r1
  have ec := hcv _ r2
  subst ec
  obtain ⟨at_, _⟩ := I.pin (a, oe) (List.mem_append_left _ List.mem_cons_self)
  obtain ⟨vs, hv⟩ := hf
  obtain ⟨mA, hns, _⟩ : ObjOk X.prog X.w H s.heap dx (.xd fs) := I.hok dx _ hdx
  obtain ⟨od, ho, _⟩ := lookIn_ns hns
  have J : PySem.W.InstAt s.heap a oe D (some od) := ⟨at_, hz.1, by unfold PySem.W.notCls; rw [hv] <;> rfl, by rw [hz.2]; exact ho⟩
  exact PySem.W.kia_one T.kit I.kIn J e (fun z => nomatch z) fun tk => ⟨.bl b, H, I.kept (t' := tk) fun _ _ z => z, rfl, q⟩
end Ip

set_option maxHeartbeats 4000000
namespace Ip
open PySem PySem.Spec PyProof.Rows L2
section
variable {X : Cx}
def tSt (X : Cx) (st : Stmt) : TS := fun D σ H => ∀ pins s, Inv X pins σ H s → wpAny (model X.prog X.w) X.A (PySem.exec st X.env) (SP X pins D) X.xe s
def tBk (X : Cx) (b : List Stmt) : TS := fun D σ H => ∀ pins s, Inv X pins σ H s → wpAny (model X.prog X.w) X.A (execs b X.env) (SP X pins D) X.xe s
theorem ps_tSt {st : Stmt} : PS X st (tSt X st) := ⟨fun pins s σ H D I h => h pins s I⟩
theorem pss_tBk {b : List Stmt} : PSs X b (tBk X b) := ⟨fun pins s σ H D I h => h pins s I⟩
theorem tSt_of {st : Stmt} {t : TS} {D : Ends} {σ : L2.St} {H : Hp} (h : PS X st t) (q : t D σ H) : tSt X st D σ H := fun pins s I => h.run pins s σ H D I q
theorem tBk_of {b : List Stmt} {t : TS} {D : Ends} {σ : L2.St} {H : Hp} (h : PSs X b t) (q : t D σ H) : tBk X b D σ H := fun pins s I => h.run pins s σ H D I q
end
/-- what is wanted behind a statement -/
def PoS (K : PySem.W.Frag) (ca : Nat → Addr) (ps : List Addr) (Hb0 H0 : Hp) (o : Out) (D : Ends) (W : WX) : Prop := match o with
  | .nx g => ∀ σ Hb H, Sat K ps Hb0 H0 g σ Hb H → D.nx σ H
  | .rt d g => ∀ v σ Hb H, Sat K ps Hb0 H0 g σ Hb H → Rp K Hb v d → D.rt v H
  | .bk g => ∀ σ Hb H, Sat K ps Hb0 H0 g σ Hb H → D.bk σ H
  | .ct g => ∀ σ Hb H, Sat K ps Hb0 H0 g σ Hb H → D.ct σ H
  | .ex c g => ∀ σ Hb H, Sat K ps Hb0 H0 g σ Hb H → ExW ca c (fun cls d H' => W cls d σ H') H
  | .bad => False
def JK (X : Cx) (ca : Nat → Addr) (t : TS) (f : Ga → Out) : Prop :=
  ∀ (ps : List Addr) (Hb0 H0 : Hp) (g : Ga) (σ : L2.St) (Hb H : Hp) (D : Ends) (W : WX), Takes X W → Sat X.K ps Hb0 H0 g σ Hb H → PoS X.K ca ps Hb0 H0 (f g) D W → t D σ H
abbrev SJ (X : Cx) (ca : Nat → Addr) (st : Stmt) (f : Ga → Out) : Prop := JK X ca (tSt X st) f
abbrev BJ (X : Cx) (ca : Nat → Addr) (b : List Stmt) (f : Ga → Out) : Prop := JK X ca (tBk X b) f
section
variable {X : Cx} {ca : Nat → Addr} {st : Stmt} {rest b : List Stmt} {e a c tg : Expr} {pos p' : Pos} {fa fb : Ga → Rs D} {ft : Ga → Rs Bool} {f h : Ga → Out}
def seqO (f h : Ga → Out) : Ga → Out := fun g => match f g with
  | .nx g' => h g'
  | o => o
theorem k_nil : BJ X ca [] .nx := fun ps Hb0 H0 g σ Hb H D W tk sat po => tBk_of pss_nil (po σ Hb H sat)
theorem k_cons (h1 : SJ X ca st f) (h2 : BJ X ca rest h) : BJ X ca (st :: rest) (seqO f h) := fun ps Hb0 H0 g σ Hb H D W tk sat po => tBk_of (pss_cons ps_tSt pss_tBk) (h1 ps Hb0 H0 g σ Hb H _ W tk sat (by
  unfold seqO at po
  cases hf : f g with
  | nx g' =>
    rw [hf] at po
    exact fun σ' Hb' H' s' => h2 ps Hb0 H0 g' σ' Hb' H' D W tk s' po
  | rt d g' => rw [hf] at po; exact po
  | bk g' => rw [hf] at po; exact po
  | ct g' => rw [hf] at po; exact po
  | ex c g' => rw [hf] at po; exact po
  | bad => rw [hf] at po; exact po))
/-- an expression, then what its value does -/
theorem run_out {α β : Type} {t : L2.St → Hp → (β → Hp → Prop) → Prop} {R : α → β → Hp → Hp → Prop} {fa : Ga → Rs α} (h : JG X ca t R fa) {k : α → Out} {ps : List Addr} {Hb0 H0 : Hp} {g : Ga} {σ : L2.St} {Hb H : Hp} {D : Ends} {W : WX} {Q : β → Hp → Prop}
    (tk : Takes X W) (sat : Sat X.K ps Hb0 H0 g σ Hb H) (po : PoS X.K ca ps Hb0 H0 ((fa g).out g k) D W)
    (go : ∀ d v Hb1 H1, fa g = .ok d → R d v Hb1 H1 → Gr Hb H Hb1 H1 → Sat X.K ps Hb0 H0 g σ Hb1 H1 → PoS X.K ca ps Hb0 H0 (k d) D W → Q v H1) : t σ H Q := by
  refine h ps Hb0 H0 g σ Hb H Q W tk sat ?_
  cases hf : fa g with
  | ok d =>
    rw [hf] at po
    exact fun v Hb1 H1 g1 r1 => go d v Hb1 H1 hf r1 g1 (sat.go g1) po
  | ex c =>
    rw [hf] at po
    exact fun Hb1 H1 g1 => po σ Hb1 H1 (sat.go g1)
  | bad => rw [hf] at po; exact False.elim po
theorem k_pass : SJ X ca (.Pass pos) .nx := fun ps Hb0 H0 g σ Hb H D W tk sat po => tSt_of ps_pass (po σ Hb H sat)
theorem k_brk : SJ X ca (.Break pos) .bk := fun ps Hb0 H0 g σ Hb H D W tk sat po => tSt_of ps_break (po σ Hb H sat)
theorem k_cnt : SJ X ca (.Continue pos) .ct := fun ps Hb0 H0 g σ Hb H D W tk sat po => tSt_of ps_continue (po σ Hb H sat)
theorem k_doc {x : Str} {j : Nat} {q : Pos} : SJ X ca (.Expr (.Constant (.str x) j q) pos) .nx := fun ps Hb0 H0 g σ Hb H D W tk sat po => tSt_of ps_doc (po σ Hb H sat)
def notComp : Expr → Bool
  | .ListComp _ _ _ _ => false
  | .SetComp _ _ _ _ => false
  | .DictComp _ _ _ _ _ => false
  | _ => true
theorem swaps_no {t : Option Expr} {l : Nat} {env : Env} (h : notComp e = true) : swapsWith e t l env = pure false := by
  cases e <;> first | rfl | cases h
theorem k_exp (hn : notComp e = true) (he : JV X ca e fa) : SJ X ca (.Expr e pos) (fun g => (fa g).out g fun _ => .nx g) :=
  fun ps Hb0 H0 g σ Hb H D W tk sat po => tSt_of (ps_expr pe_tE (swaps_no hn)) (run_out he tk sat po fun d v Hb1 H1 e1 r1 g1 s1 p1 => p1 σ Hb1 H1 s1)
theorem k_ret (he : JV X ca e fa) : SJ X ca (.Return (some e) pos) (fun g => (fa g).out g fun d => .rt d g) :=
  fun ps Hb0 H0 g σ Hb H D W tk sat po => tSt_of (ps_ret pe_tE) (run_out he tk sat po fun d v Hb1 H1 e1 r1 g1 s1 p1 => p1 v σ Hb1 H1 s1 r1)
theorem k_retN : SJ X ca (.Return none pos) (fun g => .rt .none g) := fun ps Hb0 H0 g σ Hb H D W tk sat po => tSt_of ps_retN (po .non σ Hb H sat .non)
theorem k_if {b2 : List Stmt} (hc : JT X ca c ft) (h1 : BJ X ca b f) (h2 : BJ X ca b2 h) : SJ X ca (.If c b b2 pos) (fun g => (ft g).out g fun t => if t then f g else h g) :=
  fun ps Hb0 H0 g σ Hb H D W tk sat po => tSt_of (ps_if pt_tT pss_tBk pss_tBk) (run_out hc tk sat po fun t u Hb1 H1 e1 r1 g1 s1 p1 => by
    have r1 : t = u := r1
    subst r1
    cases t with
    | true => exact h1 ps Hb0 H0 g σ Hb1 H1 D W tk s1 p1
    | false => exact h2 ps Hb0 H0 g σ Hb1 H1 D W tk s1 p1)
/-- a frozen list is data -/
theorem Sat.frz {K : PySem.W.Frag} {ps : List Addr} {Hb0 H0 Hb H : Hp} {g : Ga} {σ : L2.St} (s : Sat K ps Hb0 H0 g σ Hb H) {i : Nat} {ds : List D} (hi : g[i]? = some (some (.l none ds))) : ∃ Hb', Sat K ps Hb0 H0 (g.set i (some (.v (.list ds)))) σ Hb' H := by
  obtain ⟨p, vs, h1, h2, h3, h4, h5, h6⟩ := s.l i none ds hi
  have gr := s.gr.seen h2 h4 h3
  have sb : Same Hb (upd Hb p (.lst vs)) := fun b u e => by rw [upd_ne (ne_of_none e h3)]; exact e
  refine ⟨upd Hb p (.lst vs), gr, by rw [List.length_set]; exact s.len, fun j d e => ?_, fun j b es e => ?_, fun j b kvs e => ?_, fun j l x y q e1 e2 o1 o2 f1 f2 => ?_⟩
  · rcases set_get e with ⟨q1, z⟩ | ⟨q1, q2⟩
    · cases z
      subst q1
      exact ⟨_, h1, .lst upd_same (h5.mono sb)⟩
    · obtain ⟨v, k1, k2⟩ := s.v j d q2
      exact ⟨v, k1, k2.mono sb⟩
  · rcases set_get e with ⟨q1, z⟩ | ⟨q1, q2⟩
    · cases z
    · obtain ⟨q, ws, k1, k2, k3, k4, k5, k6⟩ := s.l j b es q2
      have ne : q ≠ p := fun z => by
        subst z
        exact q1 (s.d j i _ _ q q2 hi rfl rfl k1 h1)
      exact ⟨q, ws, k1, k2, by rw [upd_ne ne]; exact k3, k4, k5.mono sb, k6⟩
  · rcases set_get e with ⟨q1, z⟩ | ⟨q1, q2⟩
    · cases z
    · obtain ⟨q, ws, k1, k2, k3, k4, k5, k6⟩ := s.m j b kvs q2
      have ne : q ≠ p := fun z => by
        subst z
        exact q1 (s.d j i _ _ q q2 hi rfl rfl k1 h1)
      exact ⟨q, ws, k1, k2, by rw [upd_ne ne]; exact k3, k4, k5.mono sb, k6⟩
  · rcases set_get e1 with ⟨_, z⟩ | ⟨q1, q2⟩
    · cases z
      cases o1
    · rcases set_get e2 with ⟨_, z⟩ | ⟨q3, q4⟩
      · cases z
        cases o2
      · exact s.d j l x y q q2 q4 o1 o2 f1 f2
theorem k_frz {t : TS} (i : Nat) (h : JK X ca t f) : JK X ca t (seqO (frzO i) f) := fun ps Hb0 H0 g σ Hb H D W tk sat po => by
  unfold seqO frzO at po
  cases hi : g[i]? with
  | none =>
    rw [hi] at po
    exact h ps Hb0 H0 g σ Hb H D W tk sat po
  | some o =>
    rw [hi] at po
    cases o with
    | none => exact h ps Hb0 H0 g σ Hb H D W tk sat po
    | some s =>
      cases s with
      | v d => exact h ps Hb0 H0 g σ Hb H D W tk sat po
      | m b kvs => exact h ps Hb0 H0 g σ Hb H D W tk sat po
      | l b ds =>
        cases b with
        | some j => exact h ps Hb0 H0 g σ Hb H D W tk sat po
        | none =>
          obtain ⟨Hb', s'⟩ := sat.frz hi
          exact h ps Hb0 H0 _ σ Hb' H D W tk s' po
end
end Ip

set_option maxHeartbeats 4000000
namespace Ip
open PySem PySem.Spec PyProof.Rows L2
section
variable {X : Cx} {ca : Nat → Addr} {st : Stmt} {rest b : List Stmt} {e a c tg : Expr} {pos p' : Pos} {fa fb : Ga → Rs D} {ft : Ga → Rs Bool} {f h : Ga → Out} {T : Tg}
/-! ### target = value -/
theorem store_run {ps : List Addr} {Hb0 H0 Hb H : Hp} {g : Ga} {σ : L2.St} {Dn : Ends} {W : WX} {v : V} {d : PyData} (sat : Sat X.K ps Hb0 H0 g σ Hb H) (r : Rp X.K Hb v d) (po : PoS X.K ca ps Hb0 H0 (store T d g) Dn W) : tgG X.K T v σ H Dn.nx := by
  unfold store at po
  cases hb : bindT T d g with
  | none => rw [hb] at po; exact False.elim po
  | some g' =>
    rw [hb] at po
    exact tg_run T hb sat r fun σ' s' _ => po σ' Hb H s'
theorem k_asg (hg : PG X tg (tgG X.K T)) (hn : notComp e = true) (hw : swappedStores [tg] e X.env = pure none) (he : JV X ca e fa) (h1 : (assignEach [tg] X.env).map (·.2) = [assign tg X.env]) : SJ X ca (.Assign [tg] e pos) (fun g => (fa g).out g fun d => store T d g) :=
  fun ps Hb0 H0 g σ Hb H D W tk sat po => tSt_of (ps_asg pe_tE hg (show swapsWithSole [tg] e pos.line X.env = pure false from swaps_no hn) hw h1) (run_out he tk sat po fun d v Hb1 H1 e1 r1 g1 s1 p1 => store_run s1 r1 p1)
/-- name = value -/
theorem k_set {i : Nat} {x : Str} (hN : X.N.Nodup) (hi : X.N[i]? = some x) (hx : Loc X.env.scope x) (hf : X.fn x = true ∨ X.env.scope.names.lookup x = some .local) (hs : swapsWith e (some (.Name x p')) pos.line X.env = pure false) (he : JV X ca e fa) :
    SJ X ca (.Assign [.Name x p'] e pos) (fun g => (fa g).out g fun d => store (.nm i) d g) :=
  fun ps Hb0 H0 g σ Hb H D W tk sat po => tSt_of (ps_set hN hi hx pe_tE hs hf) (run_out he tk sat po fun d v Hb1 H1 e1 r1 g1 s1 p1 => store_run (T := .nm i) s1 r1 p1)
/-- name = [..], stored within the comprehension -/
theorem k_setLc {i : Nat} {y : Str} {py cpos : Pos} {elt iter ctg : Expr} {ifs : List Expr} {scope : Scope} {own : List (Str × Nat)} {CT : Tg} {fs : Ga → Rs (List D)} {fv : Ga → Rs D} (hy : X.N[i]? = some y) (hyl : X.env.scope.names.lookup y = some .local)
    (hsw : swapsWith (.ListComp elt [⟨ctg, iter, ifs, 0⟩] scope cpos) (some (.Name y py)) pos.line X.env = pure true) (C : CompOk X ca scope own ctg iter elt ifs CT fs ft fv) :
    ∃ t : TE, PS X (.Assign [.Name y py] (.ListComp elt [⟨ctg, iter, ifs, 0⟩] scope cpos) pos) (tAsg t (gName i)) ∧ JF X ca t (fun g => (fs g).bind fun xs => (compL (compF CT (own.map (·.2)) ft fv g) xs).bind fun ys => .ok (.list ys)) :=
  ⟨_, ps_setLc (own := own) C.calm C.nd hy hyl hsw pi_tI C.blk (fun s H C' cl fp => C.tg _ ⟨s, H, C', cl, fp, rfl⟩) (fun s H C' cl fp => ⟨fun pins s' σ H Q I h => h _ ⟨s, _, C', cl, fp, rfl⟩ pins s' I⟩)
    (fun s H C' cl fp => ⟨fun pins s' σ H Q I h => h _ ⟨s, _, C', cl, fp, rfl⟩ pins s' I⟩) C.fold, fun ps Hb0 H0 g σ Hb H Q W tk sat po => comp_po C tk sat po⟩
/-- any assignment of a name, by its reading -/
theorem k_asgT {i : Nat} {t : TE} (hp : PS X st (tAsg t (gName i))) (hj : JG X ca t (RV X.K) fa) : SJ X ca st (fun g => (fa g).out g fun d => store (.nm i) d g) :=
  fun ps Hb0 H0 g σ Hb H D W tk sat po => tSt_of hp (run_out hj tk sat po fun d v Hb1 H1 e1 r1 g1 s1 p1 => store_run (T := .nm i) s1 r1 p1)
/-! ### a new list of one's own -/
theorem Sat.own {K : PySem.W.Frag} {ps : List Addr} {Hb0 H0 Hb H : Hp} {g : Ga} {σ : L2.St} (s : Sat K ps Hb0 H0 g σ Hb H) {i : Nat} (hi : i < g.length) {p : Addr} {vs : List V} {ds : List D} (h0 : H0 p = none) (hb : Hb p = none) (hp : H p = some (.lst vs)) (ha : RpAll K Hb vs ds)
    (hne : ∀ (j : Nat) (t : Sl), g[j]? = some (some t) → t.own = true → σ[j]? ≠ some (some (V.ref p))) : Sat K ps Hb0 H0 (g.set i (some (.l none ds))) (σ.set i (some (.ref p))) Hb H := by
  have hσ : i < σ.length := by rw [s.len]; exact hi
  refine ⟨s.gr, by rw [List.length_set, List.length_set, s.len], fun j d' e => ?_, fun j b es e => ?_, fun j b kvs e => ?_, fun j l a c q e1 e2 o1 o2 f1 f2 => ?_⟩
  · rcases set_get e with ⟨h1, z⟩ | ⟨h1, h2⟩
    · cases z
    · obtain ⟨v, h3, h4⟩ := s.v j d' h2
      exact ⟨v, by rw [List.getElem?_set_ne (Ne.symm h1)]; exact h3, h4⟩
  · rcases set_get e with ⟨h1, z⟩ | ⟨h1, h2⟩
    · cases z
      subst h1
      exact ⟨p, vs, List.getElem?_set_self hσ, h0, hb, hp, ha, fun j z => nomatch z⟩
    · obtain ⟨q, ws, h3, h4⟩ := s.l j b es h2
      exact ⟨q, ws, by rw [List.getElem?_set_ne (Ne.symm h1)]; exact h3, h4⟩
  · rcases set_get e with ⟨_, z⟩ | ⟨h1, h2⟩
    · cases z
    · obtain ⟨q, ws, h3, h4⟩ := s.m j b kvs h2
      exact ⟨q, ws, by rw [List.getElem?_set_ne (Ne.symm h1)]; exact h3, h4⟩
  · rcases set_get e1 with ⟨h1, z⟩ | ⟨h1, h2⟩
    · rcases set_get e2 with ⟨h3, z'⟩ | ⟨h3, h4⟩
      · rw [h1, h3]
      · exfalso
        subst h1
        rw [List.getElem?_set_self hσ] at f1
        cases f1
        rw [List.getElem?_set_ne (Ne.symm h3)] at f2
        exact hne l c h4 o2 f2
    · rcases set_get e2 with ⟨h3, z'⟩ | ⟨h3, h4⟩
      · exfalso
        subst h3
        rw [List.getElem?_set_self hσ] at f2
        cases f2
        rw [List.getElem?_set_ne (Ne.symm h1)] at f1
        exact hne j a h2 o1 f1
      · rw [List.getElem?_set_ne (Ne.symm h1)] at f1
        rw [List.getElem?_set_ne (Ne.symm h3)] at f2
        exact s.d j l a c q h2 h4 o1 o2 f1 f2
def onlyL : D → Rs D
  | .list ds => .ok (.list ds)
  | _ => .bad
/-- a new list, if it is a list -/
def JL (X : Cx) (ca : Nat → Addr) (t : TE) (f : Ga → Rs D) : Prop := JF X ca t (fun g => (f g).bind onlyL)
theorem JF.l {t : TE} (h : JF X ca t fa) : JL X ca t fa := fun ps Hb0 H0 g σ Hb H Q W tk sat po => h ps Hb0 H0 g σ Hb H Q W tk sat (by
  dsimp only at po
  cases hf : fa g with
  | ok d =>
    rw [hf] at po
    intro v Hb1 H1 g1 r1
    obtain ⟨p, vs, ds, rfl, rfl, r⟩ := r1
    exact po _ _ _ g1 ⟨p, vs, ds, rfl, rfl, r⟩
  | ex c => rw [hf] at po; exact po
  | bad => rw [hf] at po; exact po)
theorem k_own {i : Nat} {t : TE} (hp : PS X st (tAsg t (gName i))) (hj : JL X ca t fa) : SJ X ca st (fun g => (fa g).out g fun d => ownO i d g) := fun ps Hb0 H0 g σ Hb H D W tk sat po => tSt_of hp (hj ps Hb0 H0 g σ Hb H _ W tk sat (by
  dsimp only at po
  show Po ca Hb H (RF X.K H) ((fa g).bind onlyL) _ _
  cases hf : fa g with
  | ok d =>
    rw [hf] at po
    show Po ca Hb H (RF X.K H) (onlyL d) _ _
    cases d with
    | list ds =>
     intro v Hb1 H1 g1 r1
     obtain ⟨p, vs, ds', rfl, ed, h4, h1, h2, h3⟩ := r1
     cases ed
     have po : PoS X.K ca ps Hb0 H0 (if (i < g.length && !lent g[i]?) = true then .nx (g.set i (some (.l none ds))) else .bad) D W := po
     split at po
     · rename_i hc
       rw [Bool.and_eq_true] at hc
       have s1 := sat.go g1
       refine po _ Hb1 H1 (s1.own (of_decide_eq_true hc.1) (sat.gr.h.free h4) h1 h2 h3 fun j t hj ho z => ?_)
       have : H p ≠ none := by
         cases t with
         | v d => cases ho
         | l b es =>
           obtain ⟨q, ws, k1, k2, k3, k4, _⟩ := sat.l j b es hj
           rw [k1] at z
           cases z
           rw [k4]
           exact fun z => nomatch z
         | m b kvs =>
           obtain ⟨q, ws, k1, k2, k3, k4, _⟩ := sat.m j b kvs hj
           rw [k1] at z
           cases z
           rw [k4]
           exact fun z => nomatch z
       exact this h4
     · exact False.elim po
    | _ => exact False.elim po
  | ex c =>
    rw [hf] at po
    exact fun Hb1 H1 g1 => po σ Hb1 H1 (sat.go g1)
  | bad => rw [hf] at po; exact False.elim po))
/-- [a, ..], list(a), a + b, a * n: new lists -/
theorem jf_lst {es : List Expr} {fs : Ga → Rs D} (h : JA X ca es fs) (hl : ∀ g ds, fs g = .ok (.tuple ds) → ds.length ≤ lim) : JF X ca (tE X (.List es pos)) (fun g => (fs g).bind toL) := by
  intro ps Hb0 H0 g σ Hb H Q W tk sat po
  refine tE_of (pe_lst pa_tA) (h.run tk sat po fun d vs Hb1 H1 e1 g1 r1 s1 p1 => ?_)
  obtain ⟨ds, rfl, ra⟩ := r1
  dsimp only at po
  rw [e1] at po
  exact ⟨limS (by rw [ra.length]; exact hl _ _ e1), fun p hp => RF.lay g1 hp ra po⟩
theorem jl_list {p : Pos} {fb' : Ga → Rs D} (hg : Gl X "list") (hm : X.mg "list" = none) (hs : notStar a = true) (h : JR X ca a fa) : JF X ca (tE X (.Call (.Name "list" p) [a] [] pos)) (fun g => (fa g).bind fun d => listF [d]) := by
  intro ps Hb0 H0 g σ Hb H Q W tk sat po
  refine tE_of (pe_callTy call_list_of hg hm (by decide +kernel) (pa_cons pe_tE pa_nil (star_of hs)) (by decide) (by decide) (star_of hs) (back_of rfl)) (h.run tk sat po fun d v Hb1 H1 e1 g1 r1 s1 p1 => ?_)
  dsimp only at po
  rw [e1] at po
  have po : Po ca Hb H (RF X.K H) (listF [d]) Q (fun c d H' => W c d σ H') := po
  have r1 : DpR X.K Hb1 H1 v d := r1
  cases d with
  | list xs =>
    obtain ⟨q, ws, rfl, hp, ha⟩ := r1.lst s1.same
    exact ⟨q, ws, rfl, .inl (.of hp), fun l hl => RF.lay g1 hl ha po⟩
  | tuple xs =>
    obtain ⟨q, ws, rfl, hp, ha⟩ := r1.tup s1.same
    exact ⟨q, ws, rfl, .inr (.of hp), fun l hl => RF.lay g1 hl ha po⟩
  | _ => exact False.elim po
theorem add_lists {x y : D} (h : (binD .add x y).bind onlyL ≠ .bad) : ∃ xs ys, x = .list xs ∧ y = .list ys ∧ xs.length + ys.length ≤ lim := by
  cases x with
  | list xs =>
    cases y with
    | list ys =>
      refine ⟨xs, ys, rfl, rfl, ?_⟩
      by_cases hc : xs.length + ys.length ≤ lim
      · exact hc
      · exact absurd (show (if xs.length + ys.length ≤ lim then Rs.ok (PyData.list (xs ++ ys)) else Rs.bad).bind onlyL = .bad by rw [if_neg hc]; rfl) h
    | _ => exact absurd rfl h
  | tuple xs =>
    cases y with
    | tuple ys =>
      refine absurd (show (if xs.length + ys.length ≤ lim then Rs.ok (PyData.tuple (xs ++ ys)) else Rs.bad).bind onlyL = .bad from ?_) h
      split <;> rfl
    | _ => exact absurd rfl h
  | str xs =>
    cases y with
    | str ys =>
      refine absurd (show (if xs.length + ys.length ≤ lim then Rs.ok (PyData.str (xs ++ ys)) else Rs.bad).bind onlyL = .bad from ?_) h
      split <;> rfl
    | _ => exact absurd rfl h
  | int i => cases y <;> exact absurd rfl h
  | _ => exact absurd rfl h
theorem mul_list {x y : D} (h : (binD .mul x y).bind onlyL ≠ .bad) : ∃ xs j, x = .list xs ∧ y = .int j ∧ j ≤ 1000 ∧ -1000 ≤ j ∧ xs.length * j.toNat ≤ lim := by
  cases x with
  | list xs =>
    cases y with
    | int j =>
      refine ⟨xs, j, rfl, rfl, ?_⟩
      by_cases hc : (decide (j ≤ 1000) && decide (-1000 ≤ j) && decide (xs.length * j.toNat ≤ lim)) = true
      · rw [Bool.and_eq_true, Bool.and_eq_true] at hc
        exact ⟨of_decide_eq_true hc.1.1, of_decide_eq_true hc.1.2, of_decide_eq_true hc.2⟩
      · exact absurd (show (if (decide (j ≤ 1000) && decide (-1000 ≤ j) && decide (xs.length * j.toNat ≤ lim)) = true then Rs.ok (PyData.list (List.replicate j.toNat xs).flatten) else Rs.bad).bind onlyL = .bad by rw [if_neg hc]; rfl) h
    | _ => exact absurd rfl h
  | tuple xs =>
    cases y with
    | int j =>
      refine absurd (show (if (decide (-1000 ≤ j) && decide (j ≤ 1000) && decide (xs.length ≤ 100)) = true then Rs.ok (PyData.tuple (List.replicate j.toNat xs).flatten) else Rs.bad).bind onlyL = .bad from ?_) h
      split <;> rfl
    | _ => exact absurd rfl h
  | int i =>
    cases y with
    | int j =>
      refine absurd (show (if okMul i j = true then Rs.ok (PyData.int (i * j)) else Rs.bad).bind onlyL = .bad from ?_) h
      split <;> rfl
    | _ => exact absurd rfl h
  | _ => exact absurd rfl h
theorem jl_mul {b' : Expr} (ha : JR X ca a fa) (hb : JR X ca b' fb) : JL X ca (tE X (.BinOp a .Mult b' pos)) (fun g => (fa g).bind fun x => (fb g).bind fun y => binD .mul x y) := by
  intro ps Hb0 H0 g σ Hb H Q W tk sat po
  have po' : Po ca Hb H (RF X.K H) ((fa g).bind fun x => (fb g).bind fun y => (binD .mul x y).bind onlyL) Q (fun c d H' => W c d σ H') := by
    dsimp only at po
    cases h1 : fa g with
    | ok x =>
      rw [h1] at po
      cases h2 : fb g with
      | ok y => rw [h2] at po; exact po
      | ex c => rw [h2] at po; exact po
      | bad => rw [h2] at po; exact po
    | ex c => rw [h1] at po; exact po
    | bad => rw [h1] at po; exact po
  have hL : ∀ x y, fa g = .ok x → fb g = .ok y → ∃ xs j, x = .list xs ∧ y = .int j ∧ j ≤ 1000 ∧ -1000 ≤ j ∧ xs.length * j.toNat ≤ lim := fun x y h1 h2 => by
    rw [h1, h2] at po'
    exact mul_list (po_nb po')
  refine tE_of (pe_op op_rep pe_tE pe_tE) (ha.run tk sat po' fun d x Hb1 H1 e1 g1 r1 s1 p1 => hb.run tk s1 p1 fun e y Hb2 H2 e2 g2 r2 s2 p2 => ?_)
  obtain ⟨xs, j, rfl, rfl, k1, k2, k3⟩ := hL d e e1 e2
  rw [e1, e2] at po'
  have po' : Po ca Hb H (RF X.K H) ((if (decide (j ≤ 1000) && decide (-1000 ≤ j) && decide (xs.length * j.toNat ≤ lim)) = true then Rs.ok (PyData.list (List.replicate j.toNat xs).flatten) else .bad).bind onlyL) Q (fun c d H' => W c d σ H') := po'
  rw [if_pos (by rw [decide_eq_true k1, decide_eq_true k2, decide_eq_true k3]; rfl)] at po'
  obtain ⟨q, ws, rfl, hp, ha'⟩ := DpR.lst (DpR.gr r1 g2) s2.same
  have ey := DpR.int r2
  subst ey
  exact ⟨q, j, ws, rfl, rfl, hp, by omega, by omega, limS (by rw [ha'.length]; exact k3), fun p hp => RF.lay (g1.trans g2) hp (ha'.rep _) po'⟩
theorem jl_add {b' : Expr} (ha : JR X ca a fa) (hb : JR X ca b' fb) : JL X ca (tE X (.BinOp a .Add b' pos)) (fun g => (fa g).bind fun x => (fb g).bind fun y => binD .add x y) := by
  intro ps Hb0 H0 g σ Hb H Q W tk sat po
  have po' : Po ca Hb H (RF X.K H) ((fa g).bind fun x => (fb g).bind fun y => (binD .add x y).bind onlyL) Q (fun c d H' => W c d σ H') := by
    dsimp only at po
    cases h1 : fa g with
    | ok x =>
      rw [h1] at po
      cases h2 : fb g with
      | ok y => rw [h2] at po; exact po
      | ex c => rw [h2] at po; exact po
      | bad => rw [h2] at po; exact po
    | ex c => rw [h1] at po; exact po
    | bad => rw [h1] at po; exact po
  have hL : ∀ x y, fa g = .ok x → fb g = .ok y → ∃ xs ys, x = .list xs ∧ y = .list ys ∧ xs.length + ys.length ≤ lim := fun x y h1 h2 => by
    rw [h1, h2] at po'
    exact add_lists (po_nb po')
  refine tE_of (pe_op op_cat pe_tE pe_tE) (ha.run tk sat po' fun d x Hb1 H1 e1 g1 r1 s1 p1 => hb.run tk s1 p1 fun e y Hb2 H2 e2 g2 r2 s2 p2 => ?_)
  obtain ⟨xs, ys, rfl, rfl, hl⟩ := hL d e e1 e2
  rw [e1, e2] at po'
  have po' : Po ca Hb H (RF X.K H) ((if xs.length + ys.length ≤ lim then Rs.ok (PyData.list (xs ++ ys)) else .bad).bind onlyL) Q (fun c d H' => W c d σ H') := po'
  rw [if_pos hl] at po'
  obtain ⟨q, ws, rfl, hp, ha'⟩ := DpR.lst (DpR.gr r1 g2) s2.same
  obtain ⟨q', ws', rfl, hp', hb'⟩ := DpR.lst r2 s2.same
  exact ⟨q, q', ws, ws', rfl, rfl, hp, hp', limS (by rw [ha'.length, hb'.length]; exact hl), fun p hp => RF.lay (g1.trans g2) hp (ha'.append hb') po'⟩
end
end Ip

set_option maxHeartbeats 4000000
namespace Ip
open PySem PySem.Spec PyProof.Rows L2
section
variable {K : PySem.W.Frag} {ps : List Addr} {Hb0 H0 Hb H Hb' H' : Hp} {g g' : Ga} {σ σ' : L2.St}
/-- a list of one's own changes -/
theorem Sat.upd (s : Sat K ps Hb0 H0 g σ Hb H) {i : Nat} {b : Option Nat} {ds es : List D} {p : Addr} {ws : List V} (hi : g[i]? = some (some (.l b ds))) (hσ : σ[i]? = some (some (.ref p))) (ha : RpAll K Hb ws es) : Sat K ps Hb0 H0 (g.set i (some (.l b es))) σ Hb (upd H p (.lst ws)) := by
  obtain ⟨q, vs, h1, h2, h3, h4, h5, h6⟩ := s.l i b ds hi
  rw [hσ] at h1
  cases h1
  refine ⟨s.gr.mut h2 h3, by rw [List.length_set]; exact s.len, fun j d e => ?_, fun j c fs e => ?_, fun j c kvs e => ?_, fun j l x y q e1 e2 o1 o2 f1 f2 => ?_⟩
  · rcases set_get e with ⟨_, z⟩ | ⟨_, q2⟩
    · cases z
    · exact s.v j d q2
  · rcases set_get e with ⟨q1, z⟩ | ⟨q1, q2⟩
    · cases z
      subst q1
      exact ⟨p, ws, hσ, h2, h3, upd_same, ha, h6⟩
    · obtain ⟨q, us, k1, k2, k3, k4, k5, k6⟩ := s.l j c fs q2
      have ne : q ≠ p := fun z => by
        subst z
        exact q1 (s.d j i _ _ q q2 hi rfl rfl k1 hσ)
      exact ⟨q, us, k1, k2, k3, by rw [upd_ne ne]; exact k4, k5, k6⟩
  · rcases set_get e with ⟨_, z⟩ | ⟨q1, q2⟩
    · cases z
    · obtain ⟨q, us, k1, k2, k3, k4, k5, k6⟩ := s.m j c kvs q2
      have ne : q ≠ p := fun z => by
        subst z
        exact q1 (s.d j i _ _ q q2 hi rfl rfl k1 hσ)
      exact ⟨q, us, k1, k2, k3, by rw [upd_ne ne]; exact k4, k5, k6⟩
  · have own_of : ∀ {j : Nat} {t : Sl}, (g.set i (some (Sl.l b es)))[j]? = some (some t) → t.own = true → ∃ t', g[j]? = some (some t') ∧ t'.own = true := fun {j t} e o => by
      rcases set_get e with ⟨q1, z⟩ | ⟨q1, q2⟩
      · rw [q1]
        exact ⟨_, hi, rfl⟩
      · exact ⟨t, q2, o⟩
    obtain ⟨x', k1, k2⟩ := own_of e1 o1
    obtain ⟨y', k3, k4⟩ := own_of e2 o2
    exact s.d j l x' y' q k1 k3 k2 k4 f1 f2
/-- .. a dict of one's own -/
theorem Sat.updM (s : Sat K ps Hb0 H0 g σ Hb H) {i : Nat} {b : Option Nat} {ds es : List (Int × D)} {p : Addr} {ws : List (Key × V)} (hi : g[i]? = some (some (.m b ds))) (hσ : σ[i]? = some (some (.ref p))) (ha : KvAll K Hb ws es) : Sat K ps Hb0 H0 (g.set i (some (.m b es))) σ Hb (L2.upd H p (.dK ws)) := by
  obtain ⟨q, vs, h1, h2, h3, h4, h5, h6⟩ := s.m i b ds hi
  rw [hσ] at h1
  cases h1
  refine ⟨s.gr.mut h2 h3, by rw [List.length_set]; exact s.len, fun j d e => ?_, fun j c fs e => ?_, fun j c kvs e => ?_, fun j l x y q e1 e2 o1 o2 f1 f2 => ?_⟩
  · rcases set_get e with ⟨_, z⟩ | ⟨_, q2⟩
    · cases z
    · exact s.v j d q2
  · rcases set_get e with ⟨_, z⟩ | ⟨q1, q2⟩
    · cases z
    · obtain ⟨q, us, k1, k2, k3, k4, k5, k6⟩ := s.l j c fs q2
      have ne : q ≠ p := fun z => by
        subst z
        exact q1 (s.d j i _ _ q q2 hi rfl rfl k1 hσ)
      exact ⟨q, us, k1, k2, k3, by rw [upd_ne ne]; exact k4, k5, k6⟩
  · rcases set_get e with ⟨q1, z⟩ | ⟨q1, q2⟩
    · cases z
      subst q1
      exact ⟨p, ws, hσ, h2, h3, upd_same, ha, h6⟩
    · obtain ⟨q, us, k1, k2, k3, k4, k5, k6⟩ := s.m j c kvs q2
      have ne : q ≠ p := fun z => by
        subst z
        exact q1 (s.d j i _ _ q q2 hi rfl rfl k1 hσ)
      exact ⟨q, us, k1, k2, k3, by rw [upd_ne ne]; exact k4, k5, k6⟩
  · have own_of : ∀ {j : Nat} {t : Sl}, (g.set i (some (Sl.m b es)))[j]? = some (some t) → t.own = true → ∃ t', g[j]? = some (some t') ∧ t'.own = true := fun {j t} e o => by
      rcases set_get e with ⟨q1, z⟩ | ⟨q1, q2⟩
      · rw [q1]
        exact ⟨_, hi, rfl⟩
      · exact ⟨t, q2, o⟩
    obtain ⟨x', k1, k2⟩ := own_of e1 o1
    obtain ⟨y', k3, k4⟩ := own_of e2 o2
    exact s.d j l x' y' q k1 k3 k2 k4 f1 f2
/-! ### a new entry in the middle -/
def OwnA (g : Ga) (σ : L2.St) (a : Addr) : Prop := ∃ (i : Nat) (t : Sl), g[i]? = some (some t) ∧ t.own = true ∧ σ[i]? = some (some (V.ref a))
open Classical in
noncomputable def bare (g : Ga) (σ : L2.St) (H : Hp) : Hp := fun a => if OwnA g σ a then none else H a
theorem Sat.own0 (s : Sat K ps Hb0 H0 g σ Hb H) {a : Addr} (h : OwnA g σ a) : H0 a = none ∧ Hb a = none ∧ H a ≠ none := by
  obtain ⟨i, t, h1, h2, h3⟩ := h
  cases t with
  | v d => cases h2
  | l b ds =>
    obtain ⟨p, vs, k1, k2, k3, k4, _⟩ := s.l i b ds h1
    rw [h3] at k1
    cases k1
    exact ⟨k2, k3, by rw [k4]; exact fun z => nomatch z⟩
  | m b ds =>
    obtain ⟨p, vs, k1, k2, k3, k4, _⟩ := s.m i b ds h1
    rw [h3] at k1
    cases k1
    exact ⟨k2, k3, by rw [k4]; exact fun z => nomatch z⟩
theorem bare_own {a : Addr} (h : OwnA g σ a) : bare g σ H a = none := by
  unfold bare
  rw [if_pos h]
theorem bare_not {a : Addr} (h : ¬ OwnA g σ a) : bare g σ H a = H a := by
  unfold bare
  rw [if_neg h]
theorem bare_same : Same (bare g σ H) H := fun b o e => by
  unfold bare at e
  split at e
  · cases e
  · exact e
theorem Sat.anew (s : Sat K ps Hb0 H0 g σ Hb H) : Sat K ps Hb (bare g σ H) g σ Hb H := by
  refine ⟨⟨Same.refl _, bare_same, s.same, fun a h _ => h⟩, s.len, s.v, fun i b ds e => ?_, fun i b kvs e => ?_, s.d⟩
  · obtain ⟨p, vs, k1, k2, k3⟩ := s.l i b ds e
    exact ⟨p, vs, k1, bare_own ⟨i, _, e, rfl, k1⟩, k3⟩
  · obtain ⟨p, vs, k1, k2, k3⟩ := s.m i b kvs e
    exact ⟨p, vs, k1, bare_own ⟨i, _, e, rfl, k1⟩, k3⟩
theorem Sat.back (s : Sat K ps Hb0 H0 g σ Hb H) (s' : Sat K ps Hb (bare g σ H) g' σ' Hb' H') : Sat K ps Hb0 H0 g' σ' Hb' H' := by
  have no : ∀ a, H0 a ≠ none → ¬ OwnA g σ a := fun a h z => h (s.own0 z).1
  have z0 : ∀ a, bare g σ H a = none → H0 a = none := fun a h => by
    cases q : H0 a with
    | none => rfl
    | some o =>
      have nn : H0 a ≠ none := by rw [q]; exact fun z => nomatch z
      rw [bare_not (no a nn), s.gr.h a o q] at h
      cases h
  refine ⟨⟨s.gr.b.trans s'.gr.b, fun a o e => ?_, s'.gr.s, fun a h1 h2 => ?_⟩, s'.len, s'.v, fun i b ds e => ?_, fun i b kvs e => ?_, s'.d⟩
  · have nn : H0 a ≠ none := by rw [e]; exact fun z => nomatch z
    exact s'.gr.h a o (by rw [bare_not (no a nn)]; exact s.gr.h a o e)
  · refine s'.gr.n a (s.gr.n a h1 h2) ?_
    rw [bare_not (no a h2)]
    exact fun z => h2 (s.gr.h.free z)
  · obtain ⟨p, vs, k1, k2, k3⟩ := s'.l i b ds e
    exact ⟨p, vs, k1, z0 p k2, k3⟩
  · obtain ⟨p, vs, k1, k2, k3⟩ := s'.m i b kvs e
    exact ⟨p, vs, k1, z0 p k2, k3⟩
theorem PoS.anew {ca : Nat → Addr} {o : Out} {Dn : Ends} {W : WX} (s : Sat K ps Hb0 H0 g σ Hb H) (h : PoS K ca ps Hb0 H0 o Dn W) : PoS K ca ps Hb (bare g σ H) o Dn W := by
  cases o with
  | nx g' => exact fun σ' Hb' H' z => h σ' Hb' H' (s.back z)
  | rt d g' => exact fun v σ' Hb' H' z r => h v σ' Hb' H' (s.back z) r
  | bk g' => exact fun σ' Hb' H' z => h σ' Hb' H' (s.back z)
  | ct g' => exact fun σ' Hb' H' z => h σ' Hb' H' (s.back z)
  | ex c g' => exact fun σ' Hb' H' z => h σ' Hb' H' (s.back z)
  | bad => exact h
end
section
variable {X : Cx} {ca : Nat → Addr} {st : Stmt} {rest b body : List Stmt} {e a c tg iter : Expr} {pos p' : Pos} {fa fb : Ga → Rs D} {ft : Ga → Rs Bool} {fs : Ga → Rs (List D)} {f h : Ga → Out} {T : Tg}
/-! ### for -/
def forF (T : Tg) (f : Ga → Out) : D → Ga → Out := fun x g => match bindT T x g with
  | some g' => f g'
  | none => .bad
theorem k_for (hp : PassesOwn (model X.prog X.w) X.A X.env X.xe) (hc : X.calm = true) (hs : JS X ca tg iter fs) (hg : PG X tg (tgG X.K T)) (hb : BJ X ca body f) (hfo : ∀ x, foldedSetIterable iter X.env x = pure x) :
    SJ X ca (.For tg iter body [] pos) (fun g => (fs g).out g fun xs => loopL (forF T f) xs g) :=
  fun ps Hb0 H0 g σ Hb H D W tk sat po => tSt_of (ps_for hp hc pi_tI hg pss_tBk hfo) (run_out hs tk sat po fun xs J Hb1 H1 e1 wk g1 s1 p1 => by
    obtain ⟨hz, G, Y, wkk, hG, hY⟩ := wk
    refine for_it wkk (fun i σ' H' => ∃ g' Hb', Sat X.K ps Hb1 (bare g σ H1) g' σ' Hb' H' ∧ PoS X.K ca ps Hb1 (bare g σ H1) (loopL (forF T f) (xs.drop i) g') D W) ⟨g, Hb1, s1.anew, p1.anew s1⟩ (fun i σ' H' hi hq => ?_) (fun i x σ' H' H'' hi hq hy => ?_) (fun σ' H' hq => ?_)
    · obtain ⟨g', Hb', s', _⟩ := hq
      exact hG Hb' H' s'.gr.b s'.same
    · obtain ⟨g', Hb', s', po'⟩ := hq
      have hx : xs[i]? = some xs[i] := List.getElem?_eq_getElem hi
      obtain ⟨Hb3, g3, r3⟩ := hY i _ Hb' H' x H'' hx s'.gr.b s'.same hy
      have s3 := s'.go g3
      rw [List.drop_eq_getElem_cons hi] at po'
      unfold loopL forF at po'
      cases hb' : bindT T xs[i] g' with
      | none =>
        rw [hb'] at po'
        exact False.elim po'
      | some g2 =>
        rw [hb'] at po'
        refine tg_run T hb' s3 r3 fun σ2 s4 _ => hb ps Hb1 (bare g σ H1) g2 σ2 Hb3 H'' _ W tk s4 ?_
        dsimp only at po'
        cases hf : f g2 with
        | nx g4 => rw [hf] at po'; exact fun σ5 Hb5 H5 s5 => ⟨g4, Hb5, s5, po'⟩
        | ct g4 => rw [hf] at po'; exact fun σ5 Hb5 H5 s5 => ⟨g4, Hb5, s5, po'⟩
        | bk g4 => rw [hf] at po'; exact po'
        | rt d g4 => rw [hf] at po'; exact po'
        | ex c g4 => rw [hf] at po'; exact po'
        | bad => rw [hf] at po'; exact po'
    · obtain ⟨g', Hb', s', po'⟩ := hq
      rw [List.drop_length] at po'
      exact po' σ' Hb' H' s')
/-! ### while -/
theorem k_whl (hp : PassesOwn (model X.prog X.w) X.A X.env X.xe) (hc : JT X ca c ft) (hb : BJ X ca body f) : SJ X ca (.While c body [] pos) (whileL ft f fuel) :=
  fun ps Hb0 H0 g σ Hb H D W tk sat po => tSt_of (ps_while hp pt_tT pss_tBk) ⟨fun m σ' H' => ∃ g' Hb', Sat X.K ps Hb0 H0 g' σ' Hb' H' ∧ PoS X.K ca ps Hb0 H0 (whileL ft f m g') D W, ⟨fuel, g, Hb, sat, po⟩, fun m σ' H' ⟨g', Hb', s', po'⟩ => by
    cases m with
    | zero => exact False.elim po'
    | succ n =>
      unfold whileL at po'
      refine hc ps Hb0 H0 g' σ' Hb' H' _ W tk s' ?_
      cases ht : ft g' with
      | ok t =>
        rw [ht] at po'
        intro t' Hb2 H2 g2 et
        have et : t = t' := et
        subst et
        have s2 := s'.go g2
        cases t with
        | true =>
          refine ⟨fun σ5 H5 => ∃ g5 Hb5, Sat X.K ps Hb0 H0 g5 σ5 Hb5 H5 ∧ PoS X.K ca ps Hb0 H0 (whileL ft f n g5) D W, fun σ5 H5 z => ⟨n, Nat.lt_succ_self n, z⟩, hb ps Hb0 H0 g' σ' Hb2 H2 _ W tk s2 ?_⟩
          dsimp only at po'
          cases hf : f g' with
          | nx g4 => rw [hf] at po'; exact fun σ5 Hb5 H5 s5 => ⟨g4, Hb5, s5, po'⟩
          | ct g4 => rw [hf] at po'; exact fun σ5 Hb5 H5 s5 => ⟨g4, Hb5, s5, po'⟩
          | bk g4 => rw [hf] at po'; exact po'
          | rt d g4 => rw [hf] at po'; exact po'
          | ex c g4 => rw [hf] at po'; exact po'
          | bad => rw [hf] at po'; exact po'
        | false => exact po' σ' Hb2 H2 s2
      | ex c =>
        rw [ht] at po'
        exact fun Hb2 H2 g2 => po' σ' Hb2 H2 (s'.go g2)
      | bad => rw [ht] at po'; exact po'⟩
/-! ### changes of one's own list -/
theorem few_of {env : Env} {q : Pos} (hs : notStar e = true) : ((backTo q (starEach [e] env)).all (fun x => !x.1) && (backToKw q (keywordEach [] env)).all (fun x => x.1.isSome) && decide (([e] : List Expr).length + ([] : List Keyword).length + (if ([] : List Keyword).isEmpty then 0 else 1) < 30)) = true := by
  rw [star1 hs]
  rfl
theorem lst_of {o : Option (Option Sl)} (h : isLst o = true) : ∃ b ds, o = some (some (.l b ds)) := by
  unfold isLst at h
  split at h
  · exact ⟨_, _, rfl⟩
  · cases h
theorem k_app {i : Nat} {x : Str} {q q2 : Pos} (hN : X.N[i]? = some x) (hv : Vis X.env.scope x) (hd : (x == ("__debug__" : Str)) = false) (hcd : (x == ("__classdict__" : Str)) = false) (hs : notStar e = true) (hl : (q2.endLine == p'.line) = true) (he : JV X ca e fa) :
    SJ X ca (.Expr (.Call (.Attribute (.Name x q) "append" q2) [e] [] p') pos) (fun g => if isLst g[i]? then (fa g).out g fun d => appO i d g else .bad) := by
  intro ps Hb0 H0 g σ Hb H D W tk sat po
  refine tSt_of (ps_expr (pe_bm PySem.F.plainAttrs_list PySem.F.slot_list_append PySem.F.type_list_append mt_append (pe_var hN hv hd hcd) (pa_cons pe_tE pa_nil (star_of hs)) rfl (few_of hs) hl (star_of hs) (back_of rfl))) ?_
  dsimp only at po
  split at po
  · rename_i hl
    obtain ⟨b, ds, hi⟩ := lst_of hl
    obtain ⟨p, vs, h1, h2, h3, h4, h5, h6⟩ := sat.l i b ds hi
    refine ⟨_, h1, .inl ⟨rfl, _, .of h4⟩, run_out he tk sat po fun d v Hb1 H1 e1 r1 g1 s1 p1 => ?_⟩
    unfold appO at p1
    rw [hi] at p1
    have p1 : PoS X.K ca ps Hb0 H0 (if ds.length < lim then .nx (g.set i (some (.l b (ds ++ [d])))) else .bad) D W := p1
    split at p1
    · rename_i hz
      refine ⟨p, vs, v, rfl, rfl, g1.h _ _ h4, limT (by rw [h5.length]; exact hz), p1 σ Hb1 _ (s1.upd hi h1 ((h5.mono g1.b).append (.cons r1 .nil)))⟩
    · exact False.elim p1
  · exact False.elim po
theorem ext_tup (l : Addr) (items : Array Value) (n : Nat) (b : Addr) (o : Obj) (items2 : Array Value) (n2 : Nat) (hc : o.cls = .type "tuple") (hd : o.data = .seq items2 n2) (hs0 : ¬(!items.isEmpty && Builtin.List.listTooLong (items.size + items2.size)) = true) (hs1 : items.size ≤ sizeLine) (hs2 : items.size + items2.size ≤ sizeLine + 1) :
    Meets (Builtin.«list.extend» ⟨[.ref l, .ref b], []⟩) (fun _ R s => s.heap.get? l = some { cls := .type "list", dict := none, data := .seq items n, slots := #[] } ∧ s.heap.get? b = some o ∧ R (.ok (.ret Value.none)) { s with heap := s.heap.update l (Obj.mapSeq fun x => x ++ items2), toks := s.toks }) :=
  .of_wp fun prog w A R s h => by
    obtain ⟨cls, dict, data, slots⟩ := o
    dsimp only at hc hd
    subst hc hd
    obtain ⟨hp, g, d, tk, os⟩ := s; obtain ⟨hl, hb, h⟩ := h; have f1 := PySem.AutoSeq1.idx_int; have f2 := PySem.AutoSeq1.sub_tuple_tuple; have f3 := PySem.AutoSeq1.sub_list_list; have f4 := PySem.AutoSeq1.sub_tuple_list; have f5 := PySem.AutoSeq1.sub_list_tuple
    have hz' : (items ++ items2).size ≤ sizeLine + 1 := by rw [Array.size_append]; exact hs2
    wp_walk using (wpAny_updateSeq hl rfl (hz := hs1) (_hz' := hz')), PySem.AutoSeq1.wpAny_loadPart' hl, PySem.AutoSeq1.wpAny_loadPart' hb; exact ⟨_, rfl, h⟩
def rExtA (K : PySem.W.Frag) : V → List V → Hp → VK → Prop := fun x vs H Q => ∃ l b xs zs, x = .ref l ∧ vs = [.ref b] ∧ H l = some (.lst xs) ∧ (H b = some (.lst zs) ∨ SqT K H b zs) ∧ xs.length + zs.length ≤ sizeLine ∧ Q .non (upd H l (.lst (xs ++ zs)))
theorem mt_extA : MtM X "list.extend" (rExtA X.K) := by
  intro pins s σ H x vs v us Q I rx rv h
  obtain ⟨l, b, xs, zs, rfl, rfl, hH, hB | hB, hz, q⟩ := h
  · exact mt_extend pins s σ H _ _ v us Q I rx rv ⟨l, b, xs, zs, rfl, rfl, hH, hB, hz, q⟩
  · cases rx
    obtain ⟨u, rfl, ru⟩ := rv.one
    cases ru
    obtain ⟨z, its, n, r, hl, e⟩ := I.lstM hH
    obtain ⟨its2, r2, ⟨o2, e2, hc2, n2, hd2⟩, z2⟩ := I.tuple hB
    have hl2 := r2.length
    have hsz : its.toArray.size + its2.toArray.size ≤ sizeLine := by rw [List.size_toArray, List.size_toArray]; omega
    have hlong : ¬ (!its.toArray.isEmpty && Builtin.List.listTooLong (its.toArray.size + its2.toArray.size)) = true := by
      rw [notLongL hsz, Bool.and_false]
      exact Bool.false_ne_true
    refine call_meets F.slot_list_extend ⟨_, e, rfl⟩ F.entry_list_extend (F.args_list_extend_2 _ _)
      (ext_tup l its.toArray n b o2 its2.toArray n2 hc2 hd2 hlong (by rw [List.size_toArray]; omega) (by omega)) ⟨e, e2, ?_⟩
    refine ⟨.non, _, I.lset (its' := its ++ its2) hH e (by simp) (r.append r2) ?_, rfl, q⟩
    rw [List.length_append]
    omega
theorem k_ext {i : Nat} {x : Str} {q q2 : Pos} (hN : X.N[i]? = some x) (hv : Vis X.env.scope x) (hd : (x == ("__debug__" : Str)) = false) (hcd : (x == ("__classdict__" : Str)) = false) (hs : notStar e = true) (hl : (q2.endLine == p'.line) = true) (he : JV X ca e fa) :
    SJ X ca (.Expr (.Call (.Attribute (.Name x q) "extend" q2) [e] [] p') pos) (fun g => if isLst g[i]? then (fa g).out g fun d => extO i d g else .bad) := by
  intro ps Hb0 H0 g σ Hb H D W tk sat po
  refine tSt_of (ps_expr (pe_bm PySem.F.plainAttrs_list PySem.F.slot_list_extend PySem.F.type_list_extend mt_extA (pe_var hN hv hd hcd) (pa_cons pe_tE pa_nil (star_of hs)) rfl (few_of hs) hl (star_of hs) (back_of rfl))) ?_
  dsimp only at po
  split at po
  · rename_i hl
    obtain ⟨b, ds, hi⟩ := lst_of hl
    obtain ⟨p, vs, h1, h2, h3, h4, h5, h6⟩ := sat.l i b ds hi
    refine ⟨_, h1, .inl ⟨rfl, _, .of h4⟩, run_out he tk sat po fun d v Hb1 H1 e1 r1 g1 s1 p1 => ?_⟩
    unfold extO at p1
    rw [hi] at p1
    have r1 : Rp X.K Hb1 v d := r1
    cases d with
    | list es =>
      have p1 : PoS X.K ca ps Hb0 H0 (if ds.length + es.length ≤ lim then .nx (g.set i (some (.l b (ds ++ es)))) else .bad) D W := p1
      split at p1
      · rename_i hz
        cases r1 with
        | lst hp ha =>
          exact ⟨p, _, vs, _, rfl, rfl, g1.h _ _ h4, .inl (s1.same _ _ hp), limS (by rw [h5.length, ha.length]; exact hz), p1 σ Hb1 _ (s1.upd hi h1 ((h5.mono g1.b).append ha))⟩
      · exact False.elim p1
    | tuple es =>
      have p1 : PoS X.K ca ps Hb0 H0 (if ds.length + es.length ≤ lim then .nx (g.set i (some (.l b (ds ++ es)))) else .bad) D W := p1
      split at p1
      · rename_i hz
        cases r1 with
        | tup hp ha =>
          exact ⟨p, _, vs, _, rfl, rfl, g1.h _ _ h4, .inr (.of (s1.same _ _ hp)), limS (by rw [h5.length, ha.length]; exact hz), p1 σ Hb1 _ (s1.upd hi h1 ((h5.mono g1.b).append ha))⟩
      · exact False.elim p1
    | _ => exact False.elim p1
  · exact False.elim po
/-- x[j] = e -/
theorem sole_no {l : Nat} {env : Env} (hn : notComp e = true) : swapsWithSole [tg] e l env = pure false := swaps_no (t := some tg) hn
theorem sub_assign {o j : Expr} {q : Pos} {env : Env} (hj : plainIx j = true) (v : Value) : assign (.Subscript o j q) env v = (do
      let ov ← holding [v] (eval o env)
      let iv ← holding [v, ov] (eval j env)
      standAt q
      holding [v, ov, iv] (setItem ov iv v)
      release [v, ov, iv] []) := by
  cases j <;> first | rfl | cases hj
theorem sub_each {o j : Expr} {q : Pos} {env : Env} : (assignEach [.Subscript o j q] env).map (·.2) = [assign (.Subscript o j q) env] := rfl
theorem sub_swap {o j : Expr} {q : Pos} {env : Env} : swappedStores [.Subscript o j q] e env = pure none := by
  cases e <;> rfl
theorem k_setL {i : Nat} {x : Str} {q q2 : Pos} {j : Expr} {fj : Ga → Rs D} (hN : X.N[i]? = some x) (hv : Vis X.env.scope x) (hd : (x == ("__debug__" : Str)) = false) (hcd : (x == ("__classdict__" : Str)) = false) (hn : notComp e = true) (hpj : plainIx j = true) (he : JV X ca e fa) (hj : JV X ca j fj) :
    SJ X ca (.Assign [.Subscript (.Name x q) j q2] e pos) (fun g => (fa g).out g fun d => if isLst g[i]? then (fj g).out g fun k => setO i k d g else .bad) := by
  intro ps Hb0 H0 g σ Hb H D W tk sat po
  refine tSt_of (ps_asg pe_tE (pg_sub (pe_var hN hv hd hcd) pe_tE set_list (sub_assign hpj)) (sole_no hn) sub_swap sub_each) (run_out he tk sat po fun d v Hb1 H1 e1 r1 g1 s1 p1 => ?_)
  split at p1
  · rename_i hl
    obtain ⟨b, ds, hi⟩ := lst_of hl
    obtain ⟨p, vs, h1, h2, h3, h4, h5, h6⟩ := s1.l i b ds hi
    refine ⟨_, h1, run_out hj tk s1 p1 fun k w Hb2 H2 e2 r2 g2 s2 p2 => ?_⟩
    have r2 : Rp X.K Hb2 w k := r2
    unfold setO at p2
    rw [hi] at p2
    cases k with
    | int n =>
      cases r2
      have p2 : PoS X.K ca ps Hb0 H0 (match ixN ds.length n with
        | some m => .nx (g.set i (some (.l b (ds.set m d))))
        | none => .bad) D W := p2
      cases hx : ixN ds.length n with
      | none => rw [hx] at p2; exact False.elim p2
      | some m =>
        rw [hx] at p2
        exact ⟨p, vs, n, m, rfl, rfl, g2.h _ _ h4, by rw [h5.length]; exact hx, p2 σ Hb2 _ (s2.upd hi h1 ((h5.mono g2.b).set (Rp.mono g2.b r1) m))⟩
    | _ => exact False.elim p2
  · exact False.elim p1
end
end Ip

set_option maxHeartbeats 4000000
namespace Ip
open PySem PySem.Spec PyProof.Rows L2
/-! ### exception classes of the program (all over ValueError, without __init__) -/
structure XcOk (K : PySem.W.Frag) (mg : Str → Option Value) (x : Str) (C : Addr) : Prop where
  ex : PySem.W.excIn K C [.type "ValueError", .type "Exception", .type "BaseException", .type "object"] "ValueError.__new__" = true
  g : mg x = some (.ref C)
  k : PySem.W.keepIn K (.ref C) = true
  b : PySem.W.subIn K (.ref C) (.type "BaseException") = some true
  t : PySem.W.typeIn K (.ref C) = some (.type "type")
  c : ExcC K C
  dbg : (x == ("__debug__" : Str)) = false
section
variable {X : Cx} {ca : Nat → Addr} {e a b : Expr} {pos p' p2 p3 : Pos}
theorem k_rai {x m : Str} {c j : Nat} (hc : X.calm = true) (hg : Gl X x) (C : XcOk X.K X.mg x (ca c)) (hlt : c < 1000) : SJ X ca (.Raise (some (.Call (.Name x p') [.Constant (.str m) j p2] [] p3)) none pos) (fun g => .ex c g) :=
  fun ps Hb0 H0 g σ Hb H D W tk sat po => tSt_of (ps_raise hc tk (pmk_own PySem.F.excBase_ValueError C.ex C.g C.k (raises_own C.b C.t) hg C.dbg)) (by have := po σ Hb H sat; rw [exw_low hlt] at this; exact this)
/-! ### within an except suite: isinstance(e, C), and, or, not, names of truth values -/
/-- what a condition says there: x the class's number, the error at `at0` in slot ie -/
structure Suite (X : Cx) (ca : Nat → Addr) (cs : List Nat) (x ie : Nat) (at0 : Addr) (oe : Obj) : Prop where
  k : ∀ d ∈ cs, PySem.W.kitOne X.K (.ref (ca x)) (.ref (ca d)) = some (sub x d)
  z : Zc (.ref (ca x)) none oe
  f : ∃ vs, oe.data = .fields vs
  c : ExcC X.K (ca x)
def HV (X : Cx) (x ie : Nat) (at0 : Addr) (e : Expr) (h : HC) : Prop := ∀ (ps : List Addr) (Hb0 H0 : Hp) (g : Ga) (σ : L2.St) (Hb H : Hp) (Q : VK) (t : Bool), Sat X.K ps Hb0 H0 g σ Hb H → σ[ie]? = some (some (.ref at0)) → hc x g h = .ok t → Q (.bl t) H → tE X e σ H Q
def HT (X : Cx) (x ie : Nat) (at0 : Addr) (e : Expr) (h : HC) : Prop := ∀ (ps : List Addr) (Hb0 H0 : Hp) (g : Ga) (σ : L2.St) (Hb H : Hp) (Q : Bool → Hp → Prop) (t : Bool), Sat X.K ps Hb0 H0 g σ Hb H → σ[ie]? = some (some (.ref at0)) → hc x g h = .ok t → Q t H → tT X e σ H Q
def HW (X : Cx) (x ie : Nat) (at0 : Addr) (e : Expr) (h : HC) : Prop := ∀ (ps : List Addr) (Hb0 H0 : Hp) (g : Ga) (σ : L2.St) (Hb H : Hp) (Q : Bool → Hp → Prop) (t : Bool), Sat X.K ps Hb0 H0 g σ Hb H → σ[ie]? = some (some (.ref at0)) → hc x g h = .ok t → Q t H → tW X e σ H Q
end
section
variable {X : Cx} {ca : Nat → Addr} {x ie : Nat} {at0 : Addr} {oe : Obj} {pn : List (Addr × Obj)} {e a b : Expr} {rest : List Expr} {pos p1 p2 p3 : Pos} {h h' : HC}
theorem hv_isx {n cn : Str} {c : Nat} (hn : X.N[ie]? = some n) (hv : Vis X.env.scope n) (hd : (n == ("__debug__" : Str)) = false) (hcd : (n == ("__classdict__" : Str)) = false) (hg : Gl X "isinstance") (hm : X.mg "isinstance" = none) (hg2 : Gl X cn) (C : XcOk X.K X.mg cn (ca c))
    {cs : List Nat} (S : Suite X ca cs x ie at0 oe) (hk : PySem.W.kitOne X.K (.ref (ca x)) (.ref (ca c)) = some (sub x c)) : HV (X.suite at0 ((at0, oe) :: pn)) x ie at0 (.Call (.Name "isinstance" p1) [.Name n p2, .Name cn p3] [] pos) (.isx c) := by
  intro ps Hb0 H0 g σ Hb H Q t sat hσ ht q
  cases ht
  refine tE_of (pe_callB (call_isE S.c S.z S.f) hg hm (by decide +kernel) (pa_cons (pe_var (X := X.suite at0 ((at0, oe) :: pn)) hn hv hd hcd) (pa_cons (pe_glob (v := .ref (ca c)) (X := X.suite at0 ((at0, oe) :: pn)) hg2 C.g rfl C.dbg) pa_nil (star_of rfl)) (star_of rfl)) (by decide) (by decide) (star_of rfl) (back_of rfl)) ?_
  exact ⟨_, hσ, _, .ref (ca c), sub x c, rfl, fun u z => z, hk, q⟩
theorem hv_var {i : Nat} {n : Str} (hn : X.N[i]? = some n) (hv : Vis X.env.scope n) (hd : (n == ("__debug__" : Str)) = false) (hcd : (n == ("__classdict__" : Str)) = false) : HV X x ie at0 (.Name n pos) (.v i) := by
  intro ps Hb0 H0 g σ Hb H Q t sat hσ ht q
  refine tE_of (pe_var hn hv hd hcd) ?_
  unfold hc at ht
  split at ht
  · rename_i b hb
    cases ht
    obtain ⟨v, h1, h2⟩ := sat.v i _ hb
    cases h2
    exact ⟨_, h1, q⟩
  · cases ht
theorem hc_and {g : Ga} {t : Bool} (ht : hc x g (.and h h') = .ok t) : ∃ u, hc x g h = .ok u ∧ (u = true → hc x g h' = .ok t) ∧ (u = false → t = false) := by
  change ((hc x g h).bind _) = _ at ht
  cases hh : hc x g h with
  | ok u =>
    rw [hh] at ht
    refine ⟨u, rfl, fun e => ?_, fun e => ?_⟩
    · subst e
      exact ht
    · subst e
      cases ht
      rfl
  | ex c => rw [hh] at ht; cases ht
  | bad => rw [hh] at ht; cases ht
theorem hc_or {g : Ga} {t : Bool} (ht : hc x g (.or h h') = .ok t) : ∃ u, hc x g h = .ok u ∧ (u = false → hc x g h' = .ok t) ∧ (u = true → t = true) := by
  change ((hc x g h).bind _) = _ at ht
  cases hh : hc x g h with
  | ok u =>
    rw [hh] at ht
    refine ⟨u, rfl, fun e => ?_, fun e => ?_⟩
    · subst e
      exact ht
    · subst e
      cases ht
      rfl
  | ex c => rw [hh] at ht; cases ht
  | bad => rw [hh] at ht; cases ht
theorem ht_val (hp : plainT e = true) (hv : HV X x ie at0 e h) : HT X x ie at0 e h := fun ps Hb0 H0 g σ Hb H Q t sat hσ ht q => tT_of (pt_truth pe_tE (plainT_of hp)) (hv ps Hb0 H0 g σ Hb H _ t sat hσ ht ⟨t, rfl, q⟩)
theorem ht_not (hv : HT X x ie at0 a h) : HT X x ie at0 (.UnaryOp .Not a pos) (.not h) := fun ps Hb0 H0 g σ Hb H Q t sat hσ ht q => tT_of (pt_not pt_tT) (by
  change ((hc x g h).bind _) = _ at ht
  cases hh : hc x g h with
  | ok u =>
    rw [hh] at ht
    cases ht
    exact hv ps Hb0 H0 g σ Hb H _ u sat hσ hh q
  | ex c => rw [hh] at ht; cases ht
  | bad => rw [hh] at ht; cases ht)
theorem hw_and1 (hv : HT X x ie at0 a h) : HW X x ie at0 (.BoolOp .And [a] pos) h := fun ps Hb0 H0 g σ Hb H Q t sat hσ ht q => tW_of (pw_and1 pt_tT) (hv ps Hb0 H0 g σ Hb H Q t sat hσ ht q)
theorem hw_or1 (hv : HT X x ie at0 a h) : HW X x ie at0 (.BoolOp .Or [a] pos) h := fun ps Hb0 H0 g σ Hb H Q t sat hσ ht q => tW_of (pw_or1 pt_tT) (hv ps Hb0 H0 g σ Hb H Q t sat hσ ht q)
theorem hw_and (hv : HT X x ie at0 a h) (hr : HW X x ie at0 (.BoolOp .And (b :: rest) pos) h') : HW X x ie at0 (.BoolOp .And (a :: b :: rest) pos) (.and h h') := fun ps Hb0 H0 g σ Hb H Q t sat hσ ht q => tW_of (pw_and pt_tT pw_tW) (by
  obtain ⟨u, k1, k2, k3⟩ := hc_and ht
  refine hv ps Hb0 H0 g σ Hb H _ u sat hσ k1 ?_
  cases u with
  | true => exact hr ps Hb0 H0 g σ Hb H Q t sat hσ (k2 rfl) q
  | false =>
    rw [k3 rfl] at q
    exact q)
theorem hw_or (hv : HT X x ie at0 a h) (hr : HW X x ie at0 (.BoolOp .Or (b :: rest) pos) h') : HW X x ie at0 (.BoolOp .Or (a :: b :: rest) pos) (.or h h') := fun ps Hb0 H0 g σ Hb H Q t sat hσ ht q => tW_of (pw_or pt_tT pw_tW) (by
  obtain ⟨u, k1, k2, k3⟩ := hc_or ht
  refine hv ps Hb0 H0 g σ Hb H _ u sat hσ k1 ?_
  cases u with
  | true =>
    rw [k3 rfl] at q
    exact q
  | false => exact hr ps Hb0 H0 g σ Hb H Q t sat hσ (k2 rfl) q)
theorem hw_t (hv : HW X x ie at0 e h) : HT X x ie at0 e h := fun ps Hb0 H0 g σ Hb H Q t sat hσ ht q => tT_of (PW.pt pw_tW) (hv ps Hb0 H0 g σ Hb H Q t sat hσ ht q)
theorem hv_or1 {op : BoolOp} (hv : HV X x ie at0 a h) : HV X x ie at0 (.BoolOp op [a] pos) h := fun ps Hb0 H0 g σ Hb H Q t sat hσ ht q => tE_of (pe_one pe_tE) (hv ps Hb0 H0 g σ Hb H Q t sat hσ ht q)
theorem hv_or (hv : HV X x ie at0 a h) (hr : HV X x ie at0 (.BoolOp .Or (b :: rest) pos) h') : HV X x ie at0 (.BoolOp .Or (a :: b :: rest) pos) (.or h h') := fun ps Hb0 H0 g σ Hb H Q t sat hσ ht q => tE_of (pe_or pe_tE pe_tE) (by
  obtain ⟨u, k1, k2, k3⟩ := hc_or ht
  refine hv ps Hb0 H0 g σ Hb H _ u sat hσ k1 ⟨u, rfl, ?_⟩
  cases u with
  | true =>
    rw [k3 rfl] at q
    exact q
  | false => exact hr ps Hb0 H0 g σ Hb H Q t sat hσ (k2 rfl) q)
/-! the suite's statements -/
def HB (X : Cx) (x ie : Nat) (at0 : Addr) (b : List Stmt) (h : HS) : Prop := ∀ (ca : Nat → Addr) (ps : List Addr) (Hb0 H0 : Hp) (g : Ga) (σ : L2.St) (Hb H : Hp) (D : Ends) (W : WX), Sat X.K ps Hb0 H0 g σ Hb H → σ[ie]? = some (some (.ref at0)) → PoS X.K ca ps Hb0 H0 (hs x h g) D W → tBk X b D σ H
theorem hb_ret {c : Expr} {sa sb : Str} {ja jb : Nat} {pa pb : Pos} (hcn : HT X x ie at0 c h) : HB X x ie at0 [.Return (some (.IfExp c (.Constant (.str sa) ja pa) (.Constant (.str sb) jb pb) p1)) pos] (.ret h (.str sa) (.str sb)) := by
  intro ca ps Hb0 H0 g σ Hb H D W sat hσ po
  refine tBk_of (pss_one (ps_ret (pe_ifExp pt_tT pe_str pe_str))) ?_
  unfold Ip.hs at po
  cases hh : hc x g h with
  | ok t =>
    rw [hh] at po
    refine hcn ps Hb0 H0 g σ Hb H _ t sat hσ hh ?_
    cases t with
    | true => exact po (.str sa) σ Hb H sat (.str _)
    | false => exact po (.str sb) σ Hb H sat (.str _)
  | ex c => rw [hh] at po; exact False.elim po
  | bad => rw [hh] at po; exact False.elim po
theorem hb_asg {c : Expr} {i : Nat} {n : Str} {q : Pos} {r : List Stmt} {hr : HS} (hN : X.N.Nodup) (hi : X.N[i]? = some n) (hx : Loc X.env.scope n) (hf : X.fn n = true ∨ X.env.scope.names.lookup n = some .local) (hnc : notComp c = true) (hne : i ≠ ie) (hcn : HV X x ie at0 c h) (hb : HB X x ie at0 r hr) :
    HB X x ie at0 (.Assign [.Name n q] c pos :: r) (.asg i h hr) := by
  intro ca ps Hb0 H0 g σ Hb H D W sat hσ po
  refine tBk_of (pss_cons (ps_set hN hi hx pe_tE (swaps_no hnc) hf) pss_tBk) ?_
  unfold Ip.hs at po
  cases hh : hc x g h with
  | ok t =>
    rw [hh] at po
    have po : PoS X.K ca ps Hb0 H0 (if (decide (i < g.length) && !lent g[i]?) = true then Ip.hs x hr (g.set i (some (.v (.bool t)))) else .bad) D W := po
    split at po
    · rename_i hcd
      rw [Bool.and_eq_true] at hcd
      refine hcn ps Hb0 H0 g σ Hb H _ t sat hσ hh ?_
      exact hb ca ps Hb0 H0 _ _ Hb H D W (sat.set (of_decide_eq_true hcd.1) (.bl t)) (by rw [List.getElem?_set_ne hne]; exact hσ) po
    · exact False.elim po
  | ex c => rw [hh] at po; exact False.elim po
  | bad => rw [hh] at po; exact False.elim po
end
end Ip

set_option maxHeartbeats 4000000
namespace Ip
open PySem PySem.Spec PyProof.Rows L2
/-! ### try .. except A as e: .. except B as e: .. -/
abbrev Cl := Value × (Addr → Value → Option Addr → TS)
def offE (i : Nat) (D : Ends) : Ends := ⟨fun σ H => D.nx (σ.set i none) H, D.rt, fun σ H => D.bk (σ.set i none) H, fun σ H => D.ct (σ.set i none) H⟩
def wishes (K : PySem.W.Frag) (Wo : WX) (i : Nat) (D : Ends) : List Cl → WX
  | [] => Wo
  | k :: r => fun cls d σ H => ∃ b, PySem.W.exmOne K cls k.1 = some b ∧ (b = true → ∀ a, H a = none → k.2 a cls d (offE i D) (σ.set i (some (.ref a))) H) ∧ (b = false → wishes K Wo i D r cls d σ H)
inductive Clauses (X : Cx) (n : Str) : List ExceptHandler → List Cl → Prop
  | nil : Clauses X n [] []
  | cons {x : Str} {k : Cl} {s0 : Stmt} {ss : List Stmt} {q1 q2 : Pos} {hds : List ExceptHandler} {l : List Cl} (hn : Names X x k.1)
      (hsu : ∀ (a : Addr) (oe : Obj) (cls : Value) (d : Option Addr) (pn : List (Addr × Obj)), Zc cls d oe → (∃ vs, oe.data = .fields vs) → PSs (X.suite a ((a, oe) :: pn)) (s0 :: ss) (k.2 a cls d)) (r : Clauses X n hds l) :
      Clauses X n (.ExceptHandler (some (.Name x q1)) (some n) (s0 :: ss) q2 :: hds) (k :: l)
section
variable {X : Cx} {body : List Stmt} {hd0 : ExceptHandler} {hds : List ExceptHandler} {cl : List Cl} {pos : Pos} {tb : WX → TS} {Wo : WX} {i : Nat} {n : Str}
theorem ps_tryAs (hst : X.stack = X.env :: X.outer) (hfr : X.env.frame = some X.env.locals) (hN : X.N.Nodup) (hi : X.N[i]? = some n) (hln : X.env.kindOf n = some .local) (tk : Takes X Wo)
    (hb : ∀ (W : WX) (pn : List (Addr × Obj)) (xe : Value → Shared → Prop), Takes (X.tr pn xe) W → PassesOwn (model X.prog X.w) X.A X.env xe → PSs (X.tr pn xe) body (tb W))
    (hh : Clauses X n (hd0 :: hds) cl) : PS X (.Try body (hd0 :: hds) [] [] pos) (fun D σ H => tb (wishes X.K Wo i D cl) D σ H) := by
  constructor
  intro pins s σ H D I hw
  have xok := I.ok
  have frs0 : X.A.frames = some (X.env :: X.outer) := by rw [xok.frames, hst]
  have lc : Loc X.env.scope n := Or.inl hln
  apply wpAny_Try_except
  refine wpAny_mono ((hb (wishes X.K Wo i D cl) (X.pn ++ pins) (fun ex sA => wpAny (model X.prog X.w) X.A (noteFrame ex X.env) (fun _ sB => wpAny (model X.prog X.w) X.A (setFlight ex none) (fun _ sC =>
      wpAny (model X.prog X.w) X.A (handleBy ex X.env (hd0 :: hds)) (SP X pins D) X.xe sC) X.xe sB) X.xe sA) ?caught PassesOwn.looking).run [] s σ H D (I.toTry _) hw) ?fin (fun _ _ z => z)
  case fin =>
    intro fl sE hsp
    cases fl with
    | next =>
      obtain ⟨σE, HE, JE, qE⟩ := hsp
      exact wpAny_execs_nil ⟨σE, HE, JE.ofTry xok, qE⟩
    | brk =>
      obtain ⟨σE, HE, JE, qE⟩ := hsp
      exact ⟨σE, HE, JE.ofTry xok, qE⟩
    | cont =>
      obtain ⟨σE, HE, JE, qE⟩ := hsp
      exact ⟨σE, HE, JE.ofTry xok, qE⟩
    | ret uE =>
      obtain ⟨vE, σE, HE, JE, rE, qE⟩ := hsp
      exact ⟨vE, σE, HE, JE.ofTry xok, rE, qE⟩
  case caught =>
    intro u0 sX xx
    obtain ⟨at0, B0, sI, pinsX, σX, HX, cls, dd, rfl, JX, nb, up, sky, na, os, ag, wish0⟩ := xx
    have J0 : Inv X pins σX HX sI := JX.ofTry xok
    have sky0 : Sky B0 (X.env :: X.outer) at0 (Zc cls dd) X.env.locals sX.heap := by rw [← hst]; exact sky
    show wpAny (model X.prog X.w) X.A (noteFrame (.ref at0) X.env) _ _ _
    refine Sky.land Zc.steady frs0 hfr sky0 fun hA flA upA => ?_
    have JA : Inv X pins σX HX { sX with heap := hA } := J0.landed nb flA.1 (up.trans upA) os ag
    obtain ⟨oA, vA, heA, hzA, hdA⟩ := flA.there
    have offF : ∀ {hh' : Heap} {ob : Obj} {fl' : Array Value}, hh'.FunFrames B0 (X.env :: X.outer) → hh'.get? at0 = some ob → ob.data = .fields fl' → at0 ∉ frs (X.env :: X.outer) := by
      intro hh' ob fl' ff eo dd' hm
      obtain ⟨_, o2, eo2, nf2⟩ := ff.mem hm
      rw [eo] at eo2
      cases eo2
      exact nf2 _ dd'
    have nfr := offF flA.2.2.1 heA hdA
    have nL : at0 ≠ X.env.locals := fun z => nfr (List.mem_filterMap.mpr ⟨X.env, List.mem_cons_self, by rw [hfr, z]⟩)
    have nF : at0 ∉ X.fs := by
      intro hm
      obtain ⟨ev, hev, q⟩ := List.mem_filterMap.mp hm
      exact nfr (List.mem_filterMap.mpr ⟨ev, List.mem_cons_of_mem _ hev, q⟩)
    have SA := JA.suite heA hdA na nL nF
    have go : ∀ {hs' : List ExceptHandler} {cl' : List Cl}, Clauses X n hs' cl' → wishes X.K Wo i D cl' cls dd σX HX → wpAny (model X.prog X.w) X.A (handleBy (.ref at0) X.env hs') (SP X pins D) X.xe { sX with heap := hA } := by
      intro hs' cl' hk
      induction hk with
      | nil =>
        intro wz
        refine wpAny_handleBy_nil ?_
        obtain ⟨kA, kB, kC, oB, vB, T, oT, tB, heB, hzB, hdB, h1B, hrB⟩ := id flA
        unfold PySem.passOn
        refine wpAny_bind (wpAny_field heB hdB h1B ?_)
        rw [if_neg (show ¬ ((Value.ref T == Value.none) = true) from by simp)]
        have out : wpAny (model X.prog X.w) X.A (setFlight (.ref at0) X.env.frame) (fun _ s4 => wpAny (model X.prog X.w) X.A (throw (.ref at0) : Sem Flow) (SP X pins D) X.xe s4) X.xe { sX with heap := hA } := by
          rw [hfr]
          refine HandSPX.setFlight_upZ flA fun hC hhC upC => wpAny_throw (tk _ _ ?_)
          exact ⟨at0, B0, sI, pins, σX, HX, cls, dd, rfl, J0, nb, (up.trans upA).trans upC, .inr (.inr (by rw [hst]; exact hhC)), na, os, ag, wz⟩
        first
          | exact wpAny_bind (wpAny_pure (wpAny_bind out))
          | exact wpAny_bind out
      | @cons x k s0 ss q1 q2 hds2 l2 hnm hsu r ih =>
        intro wz
        obtain ⟨bb, hb1, hyes, hno⟩ := wz
        refine wpAny_handleBy_cons (codeAny_handlers_test ?_) (by intro q; cases q)
        have LT : PySem.W.Looks (model X.prog X.w) hA (typeOf (.ref at0)) cls := fun A' Q' E' s' k' q' => wpAny_typeOf_ref (k' _ _ heA) (by rw [hzA.1]; exact q')
        have LM := PySem.W.exm_one (M := model X.prog X.w) (JA.kIn) LT hb1
        have tst : ∀ {Q' : Value → Shared → Prop} {E' : Value → Shared → Prop}, Q' k.1 { sX with heap := hA } → wpAny (model X.prog X.w) (X.A.mark (some (.ref at0))) (eval (.Name x q1) X.env) Q' E' { sX with heap := hA } := by
          intro Q' E' q'
          obtain ⟨hg, hdbg, hm | ⟨hm, hv, hnn⟩⟩ := hnm
          · exact ld_glob (X := X.suite at0 ((at0, oA) :: (X.pn ++ pins))) SA hg hm q' hdbg
          · exact ld_blt (X := X.suite at0 ((at0, oA) :: (X.pn ++ pins))) SA hg hm hv q' hnn hdbg
        refine tst (LM.here ?_)
        cases bb with
        | true =>
          refine codeAny_handlers_suite_as ?_
          refine HandSPX.lands_againZ flA fun hD flD upD => ?_
          have JD : Inv X pins σX HX { sX with heap := hD } := J0.landed nb flD.1 ((up.trans upA).trans upD) os ag
          obtain ⟨oD, vD, heD, hzD, hdD⟩ := flD.there
          have SD := JD.suite heD hdD na nL nF
          refine store_ok (X := X.suite at0 ((at0, oD) :: (X.pn ++ pins))) (v := .ref at0) SD hN hi lc rfl (fun sF SF => ?_) (.inr hln)
          refine wpAny_mono ((hsu at0 oD cls dd (X.pn ++ pins) hzD ⟨_, hdD⟩).run [] sF _ HX _ SF (hyes rfl at0 na)) (fun fl sG hsp => ?_) (fun _ _ z => False.elim z)
          have stop : ∀ {σG : L2.St} {HG : Hp} {Q' : Shared → Prop}, Inv (X.suite at0 ((at0, oD) :: (X.pn ++ pins))) [] σG HG sG → (∀ sK, Inv X pins (σG.set i none) HG sK → Q' sK) →
              wpAny (model X.prog X.w) X.A (do bindName X.env n .none; unbindBehindTheSuite X.env n q2) (fun _ sK => Q' sK) X.xe sG := by
            intro σG HG Q' SG hq
            exact gone_ok (SG.unsuite xok) hN hi hln hq
          cases fl with
          | next =>
            obtain ⟨σG, HG, SG, qG⟩ := hsp
            exact stop SG fun sK JK => ⟨_, _, JK, qG⟩
          | brk =>
            obtain ⟨σG, HG, SG, qG⟩ := hsp
            exact stop SG fun sK JK => ⟨_, _, JK, qG⟩
          | cont =>
            obtain ⟨σG, HG, SG, qG⟩ := hsp
            exact stop SG fun sK JK => ⟨_, _, JK, qG⟩
          | ret uG =>
            obtain ⟨vG, σG, HG, SG, rG, qG⟩ := hsp
            exact stop SG fun sK JK => ⟨_, _, _, JK, rG, qG⟩
        | false =>
          show wpAny _ X.A (handleBy (.ref at0) X.env hds2) _ _ _
          exact ih (hno rfl)
    exact go hh wish0
end
/-! ### by data -/
structure ClOk (X : Cx) (ca : Nat → Addr) (cs : List Nat) (ie : Nat) (n : Str) (hd : ExceptHandler) (c : Nat) (h : HS) : Prop where
  ex : ∃ x s0 ss q1 q2, hd = .ExceptHandler (some (.Name x q1)) (some n) (s0 :: ss) q2 ∧ Names X x (.ref (ca c)) ∧
    ∀ (y : Nat) (at0 : Addr) (oe : Obj) (pn : List (Addr × Obj)), Suite X ca cs y ie at0 oe → HB (X.suite at0 ((at0, oe) :: pn)) y ie at0 (s0 :: ss) h
inductive ClsOk (X : Cx) (ca : Nat → Addr) (cs : List Nat) (ie : Nat) (n : Str) : List ExceptHandler → List (Nat × HS) → Prop
  | nil : ClsOk X ca cs ie n [] []
  | cons {hd : ExceptHandler} {hds : List ExceptHandler} {c : Nat} {h : HS} {l : List (Nat × HS)} : ClOk X ca cs ie n hd c h → ClsOk X ca cs ie n hds l → ClsOk X ca cs ie n (hd :: hds) ((c, h) :: l)
theorem hs_end (x : Nat) : ∀ (h : HS) (g : Ga), (∃ d g', hs x h g = .rt d g') ∨ hs x h g = .bad
  | .ret c a b, g => by
    unfold hs
    cases hc x g c with
    | ok t => exact .inl ⟨_, _, rfl⟩
    | ex c => exact .inr rfl
    | bad => exact .inr rfl
  | .asg i c r, g => by
    unfold hs
    cases hc x g c with
    | ok t =>
      dsimp only
      split
      · exact hs_end x r _
      · exact .inr rfl
    | ex c => exact .inr rfl
    | bad => exact .inr rfl
theorem pos_off {K : PySem.W.Frag} {ca : Nat → Addr} {ps : List Addr} {Hb0 H0 : Hp} {x ie : Nat} {h : HS} {g : Ga} {D : Ends} {W : WX} (po : PoS K ca ps Hb0 H0 (hs x h g) D W) : PoS K ca ps Hb0 H0 (hs x h g) (offE ie D) W := by
  rcases hs_end x h g with ⟨d, g', e⟩ | e
  · rw [e] at po ⊢
    exact po
  · rw [e] at po
    exact False.elim po
/-- the classes that may come, with what is to be known of them -/
structure Kin (K : PySem.W.Frag) (ca : Nat → Addr) (cs : List Nat) : Prop where
  lt : ∀ c ∈ cs, c < 999
  exc : ∀ c ∈ cs, ExcC K (ca c)
  b : ∀ c ∈ cs, PySem.W.subIn K (.ref (ca c)) (.type "BaseException") = some true
  t : ∀ c ∈ cs, PySem.W.typeIn K (.ref (ca c)) = some (.type "type")
  s : ∀ c ∈ cs, ∀ d ∈ cs, PySem.W.subIn K (.ref (ca c)) (.ref (ca d)) = some (sub c d)
  k : ∀ c ∈ cs, ∀ d ∈ cs, PySem.W.kitOne K (.ref (ca c)) (.ref (ca d)) = some (sub c d)
section
variable {X : Cx} {ca : Nat → Addr} {body : List Stmt} {hds : List ExceptHandler} {pos : Pos} {ie : Nat} {n : Str} {cs : List Nat} {l : List (Nat × HS)} {f : Ga → Out}
def clOf (X : Cx) (ca : Nat → Addr) : List ExceptHandler → List (Nat × HS) → List Cl
  | .ExceptHandler _ _ b _ :: hds, (c, _) :: l => (.ref (ca c), fun a cls d D σ H => ∀ (oe : Obj) (pn : List (Addr × Obj)), Zc cls d oe → (∃ vs, oe.data = .fields vs) → tBk (X.suite a ((a, oe) :: pn)) b D σ H) :: clOf X ca hds l
  | _, _ => []
theorem cl_ok : ∀ {hds : List ExceptHandler} {l : List (Nat × HS)}, ClsOk X ca cs ie n hds l → Clauses X n hds (clOf X ca hds l)
  | _, _, .nil => .nil
  | _, _, .cons h r => by
    obtain ⟨x, s0, ss, q1, q2, rfl, hn, hb⟩ := h.ex
    exact .cons hn (fun a oe cls d pn hz hf => ⟨fun pins s σ H D I z => z oe pn hz hf pins s I⟩) (cl_ok r)
theorem wish_of (Kn : Kin X.K ca cs) {ps : List Addr} {Hb0 H0 : Hp} {D : Ends} {W : WX} {c : Nat} (hc : c ∈ cs) {g : Ga} {σ : L2.St} {Hb H : Hp} (sat : Sat X.K ps Hb0 H0 g σ Hb H) (hie : ie < g.length) : ∀ {hds : List ExceptHandler} {l : List (Nat × HS)}, ClsOk X ca cs ie n hds l → (∀ p ∈ l, p.1 ∈ cs) →
    PoS X.K ca ps Hb0 H0 (handle c (g.set ie none) l) D W → wishes X.K W ie D (clOf X ca hds l) (.ref (ca c)) none σ H
  | _, _, .nil, _, po => (exw_low (E := fun cls d H' => W cls d σ H') (H := H) (show c < 1000 by have := Kn.lt c hc; omega)).mp <| po σ Hb H (by
      have := sat.clr ie (σ[ie]?.getD none)
      have e : σ.set ie (σ[ie]?.getD none) = σ := by
        apply List.ext_getElem?
        intro j
        by_cases z : j = ie
        · subst z
          have hl : j < σ.length := by rw [sat.len]; exact hie
          rw [List.getElem?_set_self hl, List.getElem?_eq_getElem hl]
          rfl
        · rw [List.getElem?_set_ne (Ne.symm z)]
      rw [e] at this
      exact this)
  | _, _, .cons h r, hm, po => by
    rename_i hd hds k hh l
    obtain ⟨x, s0, ss, q1, q2, rfl, hn, hb⟩ := h.ex
    have hk : k ∈ cs := hm (k, hh) List.mem_cons_self
    refine ⟨sub c k, PySem.W.exm_ref (Kn.b k hk) (Kn.exc k hk).hd (Kn.t k hk) (Kn.s c hc k hk), fun e a ha oe pn hz hf => ?_, fun e => ?_⟩
    · have po : PoS X.K ca ps Hb0 H0 (if sub c k = true then hs c hh (g.set ie none) else handle c (g.set ie none) l) D W := po
      rw [if_pos e] at po
      have hl : ie < σ.length := by rw [sat.len]; exact hie
      exact hb c a oe pn ⟨fun d hd => Kn.k c hc d hd, hz, hf, Kn.exc c hc⟩ ca ps Hb0 H0 _ _ Hb H (offE ie D) W (sat.clr ie (some (.ref a))) (List.getElem?_set_self hl) (pos_off po)
    · have po : PoS X.K ca ps Hb0 H0 (if sub c k = true then hs c hh (g.set ie none) else handle c (g.set ie none) l) D W := po
      rw [if_neg (by rw [e]; exact Bool.false_ne_true)] at po
      exact wish_of Kn hc sat hie r (fun p hp => hm p (List.mem_cons_of_mem _ hp)) po
theorem k_try {hd0 : ExceptHandler} (hst : X.stack = X.env :: X.outer) (hfr : X.env.frame = some X.env.locals) (hN : X.N.Nodup) (hi : X.N[ie]? = some n) (hln : X.env.kindOf n = some .local) (Kn : Kin X.K ca cs) (hm : ∀ p ∈ l, p.1 ∈ cs)
    (hb : ∀ (pn : List (Addr × Obj)) (xe : Value → Shared → Prop), PassesOwn (model X.prog X.w) X.A X.env xe → BJ (X.tr pn xe) ca body f) (hcl : ClsOk X ca cs ie n (hd0 :: hds) l) :
    SJ X ca (.Try body (hd0 :: hds) [] [] pos) (fun g => tryO ie cs l (f g)) := by
  intro ps Hb0 H0 g σ Hb H D W tk sat po
  refine tSt_of (ps_tryAs (i := ie) (tb := fun W' D σ H => ∀ (pn : List (Addr × Obj)) (xe : Value → Shared → Prop), Takes (X.tr pn xe) W' → PassesOwn (model X.prog X.w) X.A X.env xe → tBk (X.tr pn xe) body D σ H) hst hfr hN hi hln tk
    (fun W' pn xe tk' hp => ⟨fun pins s σ H D I z => z pn xe tk' hp pins s I⟩) (cl_ok hcl)) ?_
  intro pn xe tk' hp
  refine hb pn xe hp ps Hb0 H0 g σ Hb H D _ tk' sat ?_
  dsimp only at po
  cases hf : f g with
  | ex c g' =>
    rw [hf] at po
    have po : PoS X.K ca ps Hb0 H0 (if (cs.contains c && decide (ie < g'.length)) = true then handle c (g'.set ie none) l else .bad) D W := po
    split at po
    · rename_i hcd
      rw [Bool.and_eq_true] at hcd
      have hin := List.contains_iff_mem.mp hcd.1
      have hlt := Kn.lt c hin
      intro σ' Hb' H' s'
      rw [exw_low (by omega)]
      exact wish_of Kn hin s' (of_decide_eq_true hcd.2) hcl hm po
    · exact False.elim po
  | nx g' => rw [hf] at po; exact po
  | rt d g' => rw [hf] at po; exact po
  | bk g' => rw [hf] at po; exact po
  | ct g' => rw [hf] at po; exact po
  | bad => rw [hf] at po; exact po
end
end Ip

set_option maxHeartbeats 4000000
namespace Ip
open PySem PySem.Spec PyProof.Rows L2
/-! ### ParseError: an own error class with an own __init__ -/
/-- what its __init__ does -/
def spPE (C : Addr) : Sp := fun xs H Q _ => ∃ (a : Addr) (v : V), xs = [.ref a, v] ∧ H a = some (exo a C none) ∧ ∀ dx, H dx = none → dx ≠ a → Q .non (upd (upd H dx (exd dx [("line", v)])) a (exo a C (some dx)))
/-- what is to be known of it -/
structure PxF (P : Program) (w : World) (K : PySem.W.Frag) (mg : Str → Option Value) (base : Heap) (C : Addr) (ca : Nat → Addr) (nc k : Nat) : Prop where
  g : mg "ParseError" = some (.ref C)
  c : OexC K C
  init : ∃ fI fd k', k' + 1 ≤ k ∧ PySem.W.findIn K (.ref C) "__init__" = some (some (.ref fI)) ∧ PySem.W.typeIn K (.ref fI) = some (.type "function") ∧ FnOk P w K mg base (L2.CX P w) k' fI fd ["self", "line"] (spPE C) ∧ Binds K fd ["self", "line"] []
  xf : XfC K C
  no : PySem.W.findIn K (.ref C) "line" = some none
  ask : PySem.W.AskF K C
  kit : ∀ d, d < nc → PySem.W.kitOne K (.ref C) (.ref (ca d)) = some (decide (d = 0))
  exm : PySem.W.exmOne K (.ref C) (.ref C) = some true
theorem lineV_int {i : Int} (h : 0 ≤ i) : lineV (1001 + i.toNat) = .int i := by
  unfold lineV
  rw [if_neg (by omega)]
  congr 1
  omega
theorem rp_line {K : PySem.W.Frag} {H : Hp} (c : Nat) : Rp K H (lineV c) (lineD c) := by
  unfold lineV lineD
  split
  · exact .non
  · exact .int _
section
variable {X : Cx} {ca : Nat → Addr} {e : Expr} {pos p' p3 : Pos} {fa : Ga → Rs D} {k nc : Nat}
theorem del_put {H1 : Hp} {a dx C : Addr} {v : V} (ha : H1 a = none) (hd : dx ≠ a) : upd (del (upd (upd (upd H1 a (exo a C none)) dx (exd dx [("line", v)])) a (exo a C (some dx))) a) dx (.xd [("line", v)]) = upd H1 dx (.xd [("line", v)]) := by
  funext b
  by_cases h1 : b = dx
  · subst h1
    rw [upd_same, upd_same]
  · rw [upd_ne h1, upd_ne h1]
    by_cases h2 : b = a
    · subst h2
      rw [del_same, ha]
    · rw [del_ne h2, upd_ne h2, upd_ne h1, upd_ne h2]
theorem raiP_mk {C : Addr} {v : V} {σ : L2.St} {H1 : Hp} {W : WX} (q : ∀ dx, H1 dx = none → W (.ref C) (some dx) σ (upd H1 dx (.xd [("line", v)]))) (a : Addr) (ha : H1 a = none) :
    spPE C (.ref a :: ([v] ++ [])) (upd H1 a (exo a C none)) (fun u H2 => u = .non ∧ ∃ (d : Addr) (fs : List (Str × V)), H2 a = some (exo a C (some d)) ∧ H2 d = some (exd d fs) ∧ H1 d = none ∧ W (.ref C) (some d) σ (upd (del H2 a) d (.xd fs))) (fun _ _ _ => False) := by
  refine ⟨a, v, rfl, upd_same, fun dx hn hne => ⟨rfl, dx, [("line", v)], upd_same, ?_, ?_, ?_⟩⟩
  · rw [upd_ne hne, upd_same]
  · rw [upd_ne hne] at hn
    exact hn
  · rw [del_put ha hne]
    rw [upd_ne hne] at hn
    exact q dx hn
theorem k_raiP (hc : X.calm = true) (hr : Room k X.A) (hg : Gl X "ParseError") (Px : PxF X.prog X.w X.K X.mg X.base (ca 999) ca nc k) (hs : notStar e = true) (he : JV X ca e fa) :
    SJ X ca (.Raise (some (.Call (.Name "ParseError" p') [e] [] p3)) none pos) (fun g => (fa g).out g fun d => raiPO d g) := by
  intro ps Hb0 H0 g σ Hb H D W tk sat po
  obtain ⟨fI, fd, k', hk, h1, h2, fo, hb⟩ := Px.init
  refine tSt_of (ps_raise hc tk (pmk_oex (CX := L2.CX X.prog X.w) (dvs := []) (ds := []) Px.c h1 h2 fo (hr.mono hk) hb .nil ?_ hg Px.g (pa_cons pe_tE pa_nil (star_of hs)) (by decide) (star_of hs) rfl)) ?_
  · intro pins σ' H' s' u s'' I z
    obtain ⟨_, _, _, _, _, _, _, _, _, _, _, _, bad⟩ := z
    exact bad.elim
  · refine run_out he tk sat po fun d v Hb1 H1 e1 r1 g1 s1 p1 => ⟨(by show 1 ≤ 1000; decide), fun a ha => ?_⟩
    replace r1 : Rp X.K Hb1 v d := r1
    refine raiP_mk (fun dx hn => ?_) a ha
    unfold raiPO at p1
    split at p1
    · cases r1
      have := p1 σ Hb1 H1 s1
      rw [exw_high (by decide)] at this
      exact this dx hn
    · rename_i i
      split at p1
      · rename_i hi
        cases r1
        have := p1 σ Hb1 H1 s1
        rw [exw_high (by omega), lineV_int hi] at this
        exact this dx hn
      · exact False.elim p1
    · exact False.elim p1
end
section
variable {X : Cx} {ca : Nat → Addr} {body : List Stmt} {pos q1 q2 r1 r2 r3 r4 r5 r6 r7 r8 r9 r10 r11 r12 r13 r14 r15 r16 r17 r18 : Pos} {ie j1 j2 : Nat} {n cG cI : Str} {f : Ga → Out} {k nc c1 : Nat}
/-- the suite -/
abbrev suiteP (n cG cI : Str) (j1 j2 : Nat) (r1 r2 r3 r4 r5 r6 r7 r8 r9 r10 r11 r12 r13 r14 r15 r16 r17 r18 : Pos) : Stmt :=
  .Return (some (.IfExp (.BoolOp .And [.Call (.Name "isinstance" r1) [.Name n r2, .Name cG r3] [] r4, .UnaryOp .Not (.Call (.Name "isinstance" r5) [.Name n r6, .Name cI r7] [] r8) r9] r10) (.List [.Constant (.str "line") j1 r11, .Attribute (.Name n r12) "line" r13] r14) (.List [.Constant (.str "other") j2 r15] r16) r17)) r18
theorem pe_isD {C a dx : Addr} {oe : Obj} {pn : List (Addr × Obj)} {x : Str} {D : Addr} {p1 p2 p3 : Pos} (hn : X.N[ie]? = some n) (hv : Vis X.env.scope n) (hd : (n == ("__debug__" : Str)) = false) (hcd : (n == ("__classdict__" : Str)) = false) (hg : Gl X "isinstance") (hm : X.mg "isinstance" = none) (hg2 : Gl X x) (hx : X.mg x = some (.ref D)) (hxd : (x == ("__debug__" : Str)) = false)
    (T : PySem.W.AskF X.K C) (hz : Zc (.ref C) (some dx) oe) (hf : ∃ vs, oe.data = .fields vs) :
    PE (X.suite a ((a, oe) :: pn)) (.Call (.Name "isinstance" p1) [.Name n p2, .Name x p3] [] pos) (fun σ H Q => ∃ v, σ[ie]? = some (some v) ∧ rIsD X.K C a dx [v, .ref D] H Q) := by
  have h := pe_callB (pos := pos) (p := p1) (call_isD (X := X) (pn := pn) T hz hf) hg hm (by decide +kernel) (pa_cons (pe_var (pos := p2) (X := X.suite a ((a, oe) :: pn)) hn hv hd hcd) (pa_cons (pe_glob (pos := p3) (v := .ref D) (X := X.suite a ((a, oe) :: pn)) hg2 hx rfl hxd) pa_nil (star_of rfl)) (star_of rfl)) (by decide) (by decide) (star_of rfl) (back_of rfl)
  exact ⟨fun pins s σ H Q I z => h.run pins s σ H Q I z⟩
theorem k_tryP (hst : X.stack = X.env :: X.outer) (hfr : X.env.frame = some X.env.locals) (hN : X.N.Nodup) (hi : X.N[ie]? = some n) (hln : X.env.kindOf n = some .local) (hv : Vis X.env.scope n) (hd : (n == ("__debug__" : Str)) = false) (hcd : (n == ("__classdict__" : Str)) = false)
    (hg : Gl X "isinstance") (hm : X.mg "isinstance" = none) (hgP : Gl X "ParseError") (Px : PxF X.prog X.w X.K X.mg X.base (ca 999) ca nc k) (hgG : Gl X cG) (CG : X.mg cG = some (.ref (ca 0))) (dG : (cG == ("__debug__" : Str)) = false) (h0 : 0 < nc)
    (hgI : Gl X cI) (CI : X.mg cI = some (.ref (ca c1))) (dI : (cI == ("__debug__" : Str)) = false) (h1 : c1 < nc) (h2 : c1 ≠ 0)
    (hb : ∀ (pn : List (Addr × Obj)) (xe : Value → Shared → Prop), PassesOwn (model X.prog X.w) X.A X.env xe → BJ (X.tr pn xe) ca body f) :
    SJ X ca (.Try body [.ExceptHandler (some (.Name "ParseError" q1)) (some n) [suiteP n cG cI j1 j2 r1 r2 r3 r4 r5 r6 r7 r8 r9 r10 r11 r12 r13 r14 r15 r16 r17 r18] q2] [] [] pos) (fun g => tryPO ie (f g)) := by
  intro ps Hb0 H0 g σ Hb H D W tk sat po
  refine tSt_of (ps_tryAs (i := ie) (cl := [(.ref (ca 999), fun a cls d D σ H => ∀ (oe : Obj) (pn : List (Addr × Obj)), Zc cls d oe → (∃ vs, oe.data = .fields vs) → tBk (X.suite a ((a, oe) :: pn)) [suiteP n cG cI j1 j2 r1 r2 r3 r4 r5 r6 r7 r8 r9 r10 r11 r12 r13 r14 r15 r16 r17 r18] D σ H)])
    (tb := fun W' D σ H => ∀ (pn : List (Addr × Obj)) (xe : Value → Shared → Prop), Takes (X.tr pn xe) W' → PassesOwn (model X.prog X.w) X.A X.env xe → tBk (X.tr pn xe) body D σ H) hst hfr hN hi hln tk
    (fun W' pn xe tk' hp => ⟨fun pins s σ H D I z => z pn xe tk' hp pins s I⟩) (.cons ⟨hgP, by decide, .inl Px.g⟩ (fun a oe cls d pn hz hf => ⟨fun pins s σ H D I z => z oe pn hz hf pins s I⟩) .nil)) ?_
  intro pn xe tk' hp
  refine hb pn xe hp ps Hb0 H0 g σ Hb H D _ tk' sat ?_
  dsimp only at po
  cases hf : f g with
  | ex c g' =>
    rw [hf] at po
    have po : PoS X.K ca ps Hb0 H0 (if (decide (1000 ≤ c) && decide (ie < g'.length)) = true then .rt (.list [.str "line", lineD c]) (g'.set ie none) else .bad) D W := po
    split at po
    · rename_i hcd'
      rw [Bool.and_eq_true] at hcd'
      have hc := of_decide_eq_true hcd'.1
      have hl := of_decide_eq_true hcd'.2
      intro σ' Hb' H' s'
      rw [exw_high (by omega)]
      intro dx hdx
      refine ⟨true, Px.exm, fun _ a ha oe pn2 hz hff => ?_, fun z => nomatch z⟩
      have hσ : (σ'.set ie (some (.ref a)))[ie]? = some (some (.ref a)) := List.getElem?_set_self (by rw [s'.len]; exact hl)
      have hxd : upd H' dx (.xd [("line", lineV c)]) dx = some (.xd [("line", lineV c)]) := upd_same
      have gr := Gr.hid (o := .xd [("line", lineV c)]) s'.same hdx
      have sc := (s'.clr ie (some (.ref a))).go gr
      refine tBk_of (pss_one (ps_ret (pe_ifExp (PW.pt (pw_and (pt_truth (pe_isD hi hv hd hcd hg hm hgG CG dG Px.ask hz hff) (plainT_of rfl)) (pw_and1 (pt_not (pt_truth (pe_isD hi hv hd hcd hg hm hgI CI dI Px.ask hz hff) (plainT_of rfl))))))
        (pe_lst (pa_cons pe_str (pa_cons (pe_xf Px.xf Px.no hz hff (pe_var (X := X.suite a ((a, oe) :: pn2)) hi hv hd hcd)) pa_nil (star_of rfl)) (star_of rfl))) pe_tE))) ?_
      refine ⟨_, hσ, _, .ref (ca 0), true, _, rfl, fun u z => z, hxd, Px.kit 0 h0, true, rfl, ?_⟩
      refine ⟨_, hσ, _, .ref (ca c1), false, _, rfl, fun u z => z, hxd, ?_, false, rfl, ?_⟩
      · rw [Px.kit c1 h1, decide_eq_false h2]
      · show _
        refine ⟨_, hσ, rfl, rfl, dx, _, lineV c, rfl, hxd, rfl, ?_⟩
        refine ⟨limS (by show 2 ≤ lim; decide), fun p hp => ?_⟩
        exact po (.ref p) _ _ _ (sc.go (Gr.lay gr.s hp)) (.lst upd_same (.cons (.str _) (.cons (rp_line c) .nil)))
    · exact False.elim po
  | nx g' => rw [hf] at po; exact po
  | rt d g' => rw [hf] at po; exact po
  | bk g' => rw [hf] at po; exact po
  | ct g' => rw [hf] at po; exact po
  | bad => rw [hf] at po; exact po
end
end Ip

set_option maxHeartbeats 4000000
namespace Ip
open PySem PySem.Spec PyProof.Rows L2
/-! ### from the model's syntax to the small language -/
/-- the module's names: defs by number, exception classes by number, whole numbers -/
structure Cg where
  fns : List Str
  cls : List Str
  cns : List (Str × Int)
  sts : List (Str × Str)
  gs : Bool
  px : Bool
def ix : List Str → Str → Option Nat
  | [], _ => none
  | y :: r, x => if y == x then some 0 else (ix r x).map (· + 1)
theorem ix_get : ∀ {N : List Str} {x : Str} {i : Nat}, ix N x = some i → N[i]? = some x
  | y :: r, x, i, h => by
    unfold ix at h
    split at h
    · rename_i e
      cases h
      rw [eq_of_beq e]
      rfl
    · cases q : ix r x with
      | none => rw [q] at h; cases h
      | some j =>
        rw [q] at h
        cases h
        exact ix_get (N := r) q
def visB (sc : Scope) (x : Str) : Bool := match sc.names.lookup x with
  | some .local => true
  | some .cell => true
  | some .free => true
  | _ => false
theorem vis_of {sc : Scope} {x : Str} (h : visB sc x = true) : Vis sc x := by
  unfold visB at h
  split at h
  · rename_i q; exact .inl q
  · rename_i q; exact .inr (.inl q)
  · rename_i q; exact .inr (.inr q)
  · cases h
def glB (sc : Scope) (x : Str) : Bool := sc.names.lookup x == some .globalImplicit
def nmOk (x : Str) : Bool := !(x == ("__debug__" : Str)) && !(x == ("__classdict__" : Str))
theorem nm_of {x : Str} (h : nmOk x = true) : (x == ("__debug__" : Str)) = false ∧ (x == ("__classdict__" : Str)) = false := by
  unfold nmOk at h
  rw [Bool.and_eq_true] at h
  exact ⟨by simpa using h.1, by simpa using h.2⟩
def bltNames : List Str := ["len", "int", "min", "max", "sum", "tuple", "list", "sorted", "range", "enumerate", "zip", "isinstance", "bool", "str", "set"]
structure XOk (X : Cx) (ca : Nat → Addr) (F : Fn) (cg : Cg) (k : Nat) (N : List Str) (sc : Scope) (fn : Str → Bool) : Prop where
  calm : X.calm = true
  nN : X.N = N
  nd : N.Nodup
  sc : X.env.scope = sc
  fn : X.fn = fn
  room : Room k X.A
  po : PassesOwn (model X.prog X.w) X.A X.env X.xe
  blt : ∀ b ∈ bltNames, X.mg b = none
  fns : ∀ i x, cg.fns[i]? = some x → FOk X ca k x (F i)
  cls : ∀ c x, cg.cls[c]? = some x → XcOk X.K X.mg x (ca c)
  cns : ∀ x n, cg.cns.lookup x = some n → (∃ t, X.mg x = some (.int n t)) ∧ (x == ("__debug__" : Str)) = false
  kin : Kin X.K ca (List.range cg.cls.length)
  gs : cg.gs = true → X.A.guards = some []
  sts : ∀ x s, cg.sts.lookup x = some s → (∃ t, X.mg x = some (.str s t)) ∧ (x == ("__debug__" : Str)) = false
  px : cg.px = true → PxF X.prog X.w X.K X.mg X.base (ca 999) ca cg.cls.length k
section
variable {X : Cx} {ca : Nat → Addr} {F : Fn} {cg : Cg} {k : Nat} {N : List Str} {sc : Scope} {fn : Str → Bool}
theorem XOk.gl (x : XOk X ca F cg k N sc fn) {y : Str} (h : glB sc y = true) : Gl X y := by
  unfold Gl Env.kindOf
  rw [x.sc]
  exact eq_of_beq h
theorem XOk.vis (x : XOk X ca F cg k N sc fn) {y : Str} (h : visB sc y = true) : Vis X.env.scope y := by
  rw [x.sc]
  exact vis_of h
theorem XOk.ix (x : XOk X ca F cg k N sc fn) {y : Str} {i : Nat} (h : Ip.ix N y = some i) : X.N[i]? = some y := by
  rw [x.nN]
  exact ix_get h
theorem XOk.block (x : XOk X ca F cg k N sc fn) {scope : Scope} {X' : Cx} (b : Blk X scope X') : XOk X' ca F cg k N (relS scope sc) (fun y => scope.names.lookup y == some .cell) := by
  obtain ⟨s, H, C, cl, fp, rfl⟩ := b
  refine ⟨x.calm, x.nN, x.nd, ?_, rfl, x.room, PassesOwn.never, x.blt, fun i y h => ?_, x.cls, x.cns, x.kin, x.gs, x.sts, x.px⟩
  · rw [← x.sc]
    rfl
  · have := x.fns i y h
    exact ⟨this.ex, this.dbg⟩
end
def opOf : Operator → Option Bop
  | .Add => some .add | .Sub => some .sub | .Mult => some .mul | .FloorDiv => some .fdiv | .Mod => some .mod | .Pow => some .pow | _ => none
theorem op_of {o : Operator} {b : Bop} (h : opOf o = some b) : o = opB b := by
  cases o <;> cases h <;> rfl
def copOf : CmpOp → Cop
  | .Eq => .eq | .NotEq => .ne | .Lt => .lt | .LtE => .le | .Gt => .gt | .GtE => .ge | .Is => .isN | .IsNot => .notN | .In => .inn | .NotIn => .nin
theorem cop_of (o : CmpOp) : o = opC (copOf o) := by cases o <;> rfl
def constOf : Const → Option D
  | .none => some .none
  | .bool b => some (.bool b)
  | .int i => some (.int i)
  | .str s => some (.str s)
  | _ => none
def tyN (x : Str) : Option Ty :=
  if x == "int" then some .int else if x == "bool" then some .bool else if x == "tuple" then some .tup else if x == "list" then some .lst else if x == "str" then some .str else none
def bltOf (gs : Bool) (x : Str) (n : Nat) : Option Bl :=
  if n == 1 then (if x == "str" then some (if gs then .str1 else .strI) else if x == "len" then some .len else if x == "int" then some .int1 else if x == "sum" then some .sum else if x == "tuple" then some .tuple else if x == "list" then some .list else if x == "sorted" then some .sorted else if x == "min" then some .minS else if x == "max" then some .maxS else none)
  else if n == 2 then (if x == "min" then some .min2 else if x == "max" then some .max2 else none) else none
def specB (f h : Str) : Option Bl := if f == "list" && h == "range" then some .listRange else if f == "sorted" && h == "set" then some .sortedSet else if f == "len" && h == "set" then some .lenSet else if f == "tuple" && h == "range" then some .tupRange else none
/-- list(range(x)), sorted(set(x)), len(set(x)) -/
def spec (sc : Scope) (f : Str) : Expr → List Expr → Option (Bl × Expr)
  | .Call (.Name h _) [x] [] _, [] => if glB sc h && notStar x then (specB f h).map fun b => (b, x) else none
  | _, _ => none
def ownOf (N : List Str) (scope : Scope) : List (Str × Nat) := scope.names.filterMap fun p => match p.2 with
  | .local => (ix N p.1).map fun i => (p.1, i)
  | .cell => (ix N p.1).map fun i => (p.1, i)
  | _ => none
def storeB (sc : Scope) (fn : Str → Bool) (x : Str) : Bool := match sc.names.lookup x with
  | some .local => true
  | some .cell => fn x
  | _ => false
def cT (N : List Str) (sc : Scope) (fn : Str → Bool) : Nat → Expr → Option Tg
  | 0, _ => none
  | n + 1, e => match e with
    | .Name x _ => if storeB sc fn x then (ix N x).map .nm else none
    | .Tuple [a, b] _ _ => (cT N sc fn n a).bind fun a => (cT N sc fn n b).bind fun b => some (.t2 a b)
    | .Tuple [a, b, c] _ _ => (cT N sc fn n a).bind fun a => (cT N sc fn n b).bind fun b => (cT N sc fn n c).bind fun c => some (.t3 a b c)
    | _ => none
def isTup : Expr → Bool
  | .Tuple _ _ _ => true
  | _ => false
def notSet : Expr → Bool
  | .Set _ _ _ => false
  | _ => true
def tyA (sc : Scope) : List Expr → Option Ty
  | [.Name t _] => if glB sc t then tyN t else none
  | _ => none
def isM1 : E → Bool
  | .neg (.k (.int 1)) => true
  | _ => false
def strC : Expr → Option Str
  | .Constant (.str s) _ _ => some s
  | _ => none
mutual
def cE (cg : Cg) (N : List Str) : Nat → Scope → (Str → Bool) → Expr → Option E
  | 0, _, _, _ => none
  | n + 1, sc, fn, e => match e with
    | .Name x _ => if visB sc x && nmOk x then (ix N x).map .var else if glB sc x then (match cg.cns.lookup x with | some i => some (.k (.int i)) | none => (cg.sts.lookup x).map fun s => .k (.str s)) else none
    | .Constant c _ _ => (constOf c).map .k
    | .Tuple es _ _ => if es.length ≤ 1000 then (cA cg N n sc fn es).map .mkT else none
    | .List es _ => if es.length ≤ 1000 then (cA cg N n sc fn es).map .mkL else none
    | .BinOp a op b _ => (opOf op).bind fun o => (cE cg N n sc fn a).bind fun x => (cE cg N n sc fn b).bind fun y => some (.bin o x y)
    | .UnaryOp .USub a _ => (cE cg N n sc fn a).map .neg
    | .UnaryOp .Not a _ => (cE cg N n sc fn a).map .not
    | .BoolOp .And (a :: b :: r) _ => (cE cg N n sc fn a).bind fun x => (cAnd cg N n sc fn (b :: r)).bind fun y => some (.and x y)
    | .BoolOp .Or (a :: b :: r) _ => (cE cg N n sc fn a).bind fun x => (cOr cg N n sc fn (b :: r)).bind fun y => some (.or x y)
    | .IfExp c a b _ => (cE cg N n sc fn c).bind fun z => (cE cg N n sc fn a).bind fun x => (cE cg N n sc fn b).bind fun y => some (.ife z x y)
    | .Compare a [op] [b] _ => if behindInMarks op b then none else (cE cg N n sc fn a).bind fun x => (cE cg N n sc fn b).bind fun y => some (.cmp (copOf op) x y)
    | .Compare a [op, op'] [b, c] _ => if lastMarks [op, op'] [b, c] then none else (cE cg N n sc fn a).bind fun x => (cE cg N n sc fn b).bind fun y => (cE cg N n sc fn c).bind fun z => some (.chain (copOf op) (copOf op') x y z)
    | .Subscript a (.Slice lo hi none _) _ => (cE cg N n sc fn a).bind fun x => (cO cg N n sc fn lo).bind fun l => (cO cg N n sc fn hi).bind fun h => some (.slc x l h)
    | .Subscript a (.Slice none none (some (.UnaryOp .USub (.Constant (.int 1) _ _) _)) _) _ => (cE cg N n sc fn a).map .rev
    | .Subscript a b _ => if plainIx b then (cE cg N n sc fn a).bind fun x => (cE cg N n sc fn b).bind fun y => some (.idx x y) else none
    | .Call (.Name f _) (a :: as) [] _ => if glB sc f && noStars (a :: as) then match ix cg.fns f with
        | some i => (cA cg N n sc fn (a :: as)).map (.call i)
        | none => match spec sc f a as with
          | some (b, y) => (cE cg N n sc fn y).map (.bl1 b)
          | none => if f == "isinstance" then (tyA sc as).bind fun ty => (cE cg N n sc fn a).map (.isi ty) else (bltOf cg.gs f (as.length + 1)).bind fun b => (cA cg N n sc fn (a :: as)).map (.bl b)
      else none
    | .Call (.Attribute (.Name y q0) m q2) [a] [] p' => if notStar a && (q2.endLine == p'.line) then (if visB sc y && nmOk y then (ix N y).bind fun i => if m == "count" then (cA cg N n sc fn [a]).map fun z => .mt .count (.var i) z else if m == "index" then (cA cg N n sc fn [a]).map fun z => .mt .index (.var i) z else if m == "split" then (strC a).map fun s => .spl (.var i) s else none
        else if glB sc y && (m == "index") then (cg.sts.lookup y).bind fun c => (cE cg N n sc fn a).map fun z => .sidx c z else none) else none
    | .Call (.Attribute (.Constant (.str s) _ _) m q2) [a] [] p' => if (m == "join") && notStar a && (q2.endLine == p'.line) then (cE cg N n sc fn a).map fun z => .jn s z else none
    | .JoinedStr (v1 :: v2 :: r) _ => cF cg N n sc fn (v1 :: v2 :: r)
    | .ListComp elt [⟨tg, iter, ifs, 0⟩] scope _ =>
      if blkC N sc scope (ownOf N scope) && notSet iter then (cS cg N n sc fn tg iter).bind fun s => (cT N (relS scope sc) (fun y => scope.names.lookup y == some .cell) n tg).bind fun t =>
        if (namesT t).all (fun i => ((ownOf N scope).map (·.2)).contains i) then (cI cg N n (relS scope sc) (fun y => scope.names.lookup y == some .cell) ifs).bind fun c =>
          (cE cg N n (relS scope sc) (fun y => scope.names.lookup y == some .cell) elt).bind fun x => some (.comp x t s c ((ownOf N scope).map (·.2))) else none
      else none
    | _ => none
def cA (cg : Cg) (N : List Str) : Nat → Scope → (Str → Bool) → List Expr → Option E
  | 0, _, _, _ => none
  | _ + 1, _, _, [] => some .nil
  | n + 1, sc, fn, e :: es => if notStar e then (cE cg N n sc fn e).bind fun x => (cA cg N n sc fn es).bind fun r => some (.cons x r) else none
/-- the parts of an f-string -/
def cF (cg : Cg) (N : List Str) : Nat → Scope → (Str → Bool) → List Expr → Option E
  | 0, _, _, _ => none
  | _ + 1, _, _, [] => some (.k (.str Str.empty))
  | n + 1, sc, fn, .Constant (.str s) _ _ :: r => (cF cg N n sc fn r).map fun z => .fcat (.k (.str s)) z
  | n + 1, sc, fn, .FormattedValue a (-1) none _ :: r => (cE cg N n sc fn a).bind fun y => (cF cg N n sc fn r).map fun z => .fcat y z
  | _, _, _, _ => none
def cAnd (cg : Cg) (N : List Str) : Nat → Scope → (Str → Bool) → List Expr → Option E
  | 0, _, _, _ => none
  | n + 1, sc, fn, [a] => cE cg N n sc fn a
  | n + 1, sc, fn, a :: b :: r => (cE cg N n sc fn a).bind fun x => (cAnd cg N n sc fn (b :: r)).bind fun y => some (.and x y)
  | _, _, _, _ => none
def cOr (cg : Cg) (N : List Str) : Nat → Scope → (Str → Bool) → List Expr → Option E
  | 0, _, _, _ => none
  | n + 1, sc, fn, [a] => cE cg N n sc fn a
  | n + 1, sc, fn, a :: b :: r => (cE cg N n sc fn a).bind fun x => (cOr cg N n sc fn (b :: r)).bind fun y => some (.or x y)
  | _, _, _, _ => none
def cO (cg : Cg) (N : List Str) : Nat → Scope → (Str → Bool) → Option Expr → Option E
  | 0, _, _, _ => none
  | _ + 1, _, _, none => some .noP
  | n + 1, sc, fn, some e => (cE cg N n sc fn e).bind fun x => if isNoP x then none else some x
def cI (cg : Cg) (N : List Str) : Nat → Scope → (Str → Bool) → List Expr → Option E
  | 0, _, _, _ => none
  | _ + 1, _, _, [] => some (.k (.bool true))
  | n + 1, sc, fn, [c] => cE cg N n sc fn c
  | _, _, _, _ => none
def cS (cg : Cg) (N : List Str) : Nat → Scope → (Str → Bool) → Expr → Expr → Option E
  | 0, _, _, _, _ => none
  | n + 1, sc, fn, tg, e => match e with
    | .Call (.Name f _) [a] [] _ => if f == "range" then (if glB sc f && notStar a then (cE cg N n sc fn a).map .rng1 else none) else if f == "enumerate" then (if glB sc f && notStar a && isTup tg then (cE cg N n sc fn a).map .enum else none) else cE cg N n sc fn e
    | .Call (.Name f _) [a, b] [] _ => if f == "range" then (if glB sc f && notStar a && notStar b then (cE cg N n sc fn a).bind fun x => (cE cg N n sc fn b).bind fun y => some (.rng2 x y) else none) else if f == "zip" then (if glB sc f && notStar a && notStar b && isTup tg then (cE cg N n sc fn a).bind fun x => (cE cg N n sc fn b).bind fun y => some (.zip x y) else none) else cE cg N n sc fn e
    | .Call (.Name f _) [a, b, c] [] _ => if f == "range" && glB sc f && notStar a && notStar b && notStar c then (cE cg N n sc fn a).bind fun x => (cE cg N n sc fn b).bind fun y => (cE cg N n sc fn c).bind fun z => if isM1 z then some (.rngN x y) else none else cE cg N n sc fn e
    | e => cE cg N n sc fn e
end
end Ip

set_option maxHeartbeats 4000000
namespace Ip
open PySem PySem.Spec PyProof.Rows L2
structure J4 (X : Cx) (ca : Nat → Addr) (e : Expr) (M : Me) : Prop where
  v : JV X ca e M.v
  r : JR X ca e M.r
  t : JT X ca e M.t
  s : ∀ tg, JS X ca tg e M.s
theorem j4_0 {X : Cx} {ca : Nat → Addr} {e : Expr} {f : Ga → Rs D} (hp : plainT e = true) (h : JV X ca e f) : J4 X ca e (me0 f) := ⟨h, h.r, j_truth hp h.r, fun _ => js_seq h⟩
structure Snd (ca : Nat → Addr) (F : Fn) (cg : Cg) (k : Nat) (N : List Str) (n : Nat) : Prop where
  e : ∀ {sc fn e i X}, cE cg N n sc fn e = some i → XOk X ca F cg k N sc fn → J4 X ca e (run F i)
  a : ∀ {sc fn es i X}, cA cg N n sc fn es = some i → XOk X ca F cg k N sc fn → JA X ca es (run F i).v ∧ JB X ca es (run F i).r ∧ ∀ g ds, (run F i).v g = .ok (.tuple ds) → ds.length = es.length
  and : ∀ {sc fn vs i X}, cAnd cg N n sc fn vs = some i → XOk X ca F cg k N sc fn → ∀ pos, JV X ca (.BoolOp .And vs pos) (run F i).v ∧ JW X ca (.BoolOp .And vs pos) (run F i).t
  or : ∀ {sc fn vs i X}, cOr cg N n sc fn vs = some i → XOk X ca F cg k N sc fn → ∀ pos, JV X ca (.BoolOp .Or vs pos) (run F i).v ∧ JW X ca (.BoolOp .Or vs pos) (run F i).t
  o : ∀ {sc fn e i X}, cO cg N n sc fn e = some i → XOk X ca F cg k N sc fn → JO X ca e (fun g => part i ((run F i).v g))
  i : ∀ {sc fn ifs i X}, cI cg N n sc fn ifs = some i → XOk X ca F cg k N sc fn → JG X ca (tTs X ifs) RB (run F i).t
  s : ∀ {sc fn tg e i X}, cS cg N n sc fn tg e = some i → XOk X ca F cg k N sc fn → JS X ca tg e (run F i).s
  f : ∀ {sc fn vs i X}, cF cg N n sc fn vs = some i → XOk X ca F cg k N sc fn → JPs X ca vs (run F i).v
section
variable {ca : Nat → Addr} {F : Fn} {cg : Cg} {k : Nat} {N : List Str} {n : Nat} {sc : Scope} {fn : Str → Bool} {X : Cx}
theorem obind {α β : Type} {x : Option α} {f : α → Option β} {b : β} (h : x.bind f = some b) : ∃ a, x = some a ∧ f a = some b := by
  cases x with
  | none => cases h
  | some a => exact ⟨a, rfl, h⟩
theorem omap {α β : Type} {x : Option α} {f : α → β} {b : β} (h : x.map f = some b) : ∃ a, x = some a ∧ f a = b := by
  cases x with
  | none => cases h
  | some a => exact ⟨a, rfl, Option.some.inj h⟩
theorem oif {α : Type} {c : Prop} [Decidable c] {x : Option α} {b : α} (h : (if c then x else none) = some b) : c ∧ x = some b := by
  by_cases q : c
  · rw [if_pos q] at h; exact ⟨q, h⟩
  · rw [if_neg q] at h; cases h
theorem oifn {α : Type} {c : Bool} {x : Option α} {b : α} (h : (if c = true then none else x) = some b) : c = false ∧ x = some b := by
  cases c with
  | true => cases h
  | false => exact ⟨rfl, h⟩
/-! targets -/
theorem store_of (x : XOk X ca F cg k N sc fn) {y : Str} (h : storeB sc fn y = true) : Loc X.env.scope y ∧ (X.fn y = true ∨ X.env.scope.names.lookup y = some .local) := by
  unfold storeB at h
  rw [x.sc, x.fn]
  split at h
  · rename_i q; exact ⟨.inl q, .inr q⟩
  · rename_i q; exact ⟨.inr q, .inl h⟩
  · cases h
theorem asgs_of {env : Env} {a : Expr} {es : List Expr} (h : notStar a = true) : (assignEach (a :: es) env).map (·.2) = assign a env :: (assignEach es env).map (·.2) := by
  cases a <;> first | rfl | cases h
theorem cT_star : ∀ {n : Nat} {e : Expr} {t : Tg}, cT N sc fn n e = some t → notStar e = true
  | n + 1, e, t, h => by
    cases e <;> first | rfl | cases h
theorem star_idx {env : Env} {a : Expr} {es : List Expr} (h : notStar a = true) (hr : (assignEach es env).findIdx? (·.1) = none) : (assignEach (a :: es) env).findIdx? (·.1) = none := by
  have key : ∀ (y : Value → Sem Unit), ((false, y) :: assignEach es env).findIdx? (·.1) = none := fun y => by
    rw [List.findIdx?_cons, hr]
    rfl
  cases a <;> first | exact key _ | cases h
theorem each_len {env : Env} : ∀ (es : List Expr), (assignEach es env).length = es.length
  | [] => rfl
  | a :: es => by
    have := each_len (env := env) es
    cases a <;> exact congrArg (· + 1) this
theorem cT_ok : ∀ {n : Nat} {e : Expr} {t : Tg}, cT N sc fn n e = some t → XOk X ca F cg k N sc fn → PG X e (tgG X.K t)
  | n + 1, e, t, h, x => by
    unfold cT at h
    split at h
    · obtain ⟨h1, h2⟩ := oif h
      obtain ⟨i, h3, rfl⟩ := omap h2
      obtain ⟨s1, s2⟩ := store_of x h1
      exact pg_name (by rw [x.nN]; exact x.nd) (x.ix h3) s1 s2
    · rename_i a b _ _
      obtain ⟨ta, ha, h⟩ := obind h
      obtain ⟨tb, hb, h⟩ := obind h
      cases h
      have na := cT_star ha
      have nb := cT_star hb
      exact pg_tup x.calm (pgs_cons (cT_ok ha x) (pgs_cons (cT_ok hb x) pgs_nil (asgs_of nb)) (asgs_of na)) (each_len _) (star_idx na (star_idx nb rfl))
    · rename_i a b c _ _
      obtain ⟨ta, ha, h⟩ := obind h
      obtain ⟨tb, hb, h⟩ := obind h
      obtain ⟨tc, hc, h⟩ := obind h
      cases h
      have na := cT_star ha
      have nb := cT_star hb
      have nc := cT_star hc
      exact pg_tup x.calm (pgs_cons (cT_ok ha x) (pgs_cons (cT_ok hb x) (pgs_cons (cT_ok hc x) pgs_nil (asgs_of nc)) (asgs_of nb)) (asgs_of na)) (each_len _) (star_idx na (star_idx nb (star_idx nc rfl)))
    · cases h
/-! arguments -/
theorem snd_a (S : Snd ca F cg k N n) {es : List Expr} {i : E} (h : cA cg N (n + 1) sc fn es = some i) (x : XOk X ca F cg k N sc fn) : JA X ca es (run F i).v ∧ JB X ca es (run F i).r ∧ ∀ g ds, (run F i).v g = .ok (.tuple ds) → ds.length = es.length := by
  cases es with
  | nil =>
    cases h
    exact ⟨j_nil, j_nilR, fun g ds e => by cases e; rfl⟩
  | cons e es =>
    unfold cA at h
    obtain ⟨hs, h⟩ := oif h
    obtain ⟨y, hy, h⟩ := obind h
    obtain ⟨r, hr, h⟩ := obind h
    cases h
    obtain ⟨a1, a2, a3⟩ := S.a hr x
    refine ⟨j_cons hs (S.e hy x).v a1, j_consR hs (S.e hy x).r a2, fun g ds e => ?_⟩
    change ((run F y).v g).bind _ = _ at e
    cases q1 : (run F y).v g with
    | ok d =>
      rw [q1] at e
      change ((run F r).v g).bind _ = _ at e
      cases q2 : (run F r).v g with
      | ok d2 =>
        rw [q2] at e
        change consD d d2 = _ at e
        cases d2 with
        | tuple l =>
          cases e
          rw [List.length_cons, List.length_cons, a3 g l q2]
        | _ => cases e
      | ex c => rw [q2] at e; cases e
      | bad => rw [q2] at e; cases e
    | ex c => rw [q1] at e; cases e
    | bad => rw [q1] at e; cases e
theorem snd_and (S : Snd ca F cg k N n) {vs : List Expr} {i : E} (h : cAnd cg N (n + 1) sc fn vs = some i) (x : XOk X ca F cg k N sc fn) (pos : Pos) : JV X ca (.BoolOp .And vs pos) (run F i).v ∧ JW X ca (.BoolOp .And vs pos) (run F i).t := by
  cases vs with
  | nil => cases h
  | cons a vs => cases vs with
    | nil =>
      have J := S.e (show cE cg N n sc fn a = some i from h) x
      exact ⟨j_one J.v, j_and1 J.t⟩
    | cons b r =>
      unfold cAnd at h
      obtain ⟨y, hy, h⟩ := obind h
      obtain ⟨z, hz, h⟩ := obind h
      cases h
      have J := S.e hy x
      obtain ⟨j1, j2⟩ := S.and hz x pos
      exact ⟨j_andV J.v j1, j_andW J.t j2⟩
theorem snd_or (S : Snd ca F cg k N n) {vs : List Expr} {i : E} (h : cOr cg N (n + 1) sc fn vs = some i) (x : XOk X ca F cg k N sc fn) (pos : Pos) : JV X ca (.BoolOp .Or vs pos) (run F i).v ∧ JW X ca (.BoolOp .Or vs pos) (run F i).t := by
  cases vs with
  | nil => cases h
  | cons a vs => cases vs with
    | nil =>
      have J := S.e (show cE cg N n sc fn a = some i from h) x
      exact ⟨j_one J.v, j_or1 J.t⟩
    | cons b r =>
      unfold cOr at h
      obtain ⟨y, hy, h⟩ := obind h
      obtain ⟨z, hz, h⟩ := obind h
      cases h
      have J := S.e hy x
      obtain ⟨j1, j2⟩ := S.or hz x pos
      exact ⟨j_orV J.v j1, j_orW J.t j2⟩
theorem snd_o (S : Snd ca F cg k N n) {e : Option Expr} {i : E} (h : cO cg N (n + 1) sc fn e = some i) (x : XOk X ca F cg k N sc fn) : JO X ca e (fun g => part i ((run F i).v g)) := by
  cases e with
  | none =>
    cases h
    exact jo_none
  | some e =>
    unfold cO at h
    obtain ⟨y, hy, h⟩ := obind h
    obtain ⟨hn, h⟩ := oifn h
    cases h
    exact jo_some hn (S.e hy x).v
theorem jp_imp {e : Expr} {f f' : Ga → Rs Str} (h : JP X ca e f) (hf : ∀ g, f' g ≠ .bad → f g = f' g) : JP X ca e f' := fun ps Hb0 H0 g σ Hb H Q W tk sat po => h ps Hb0 H0 g σ Hb H Q W tk sat (by
  have : f' g ≠ .bad := fun z => by rw [z] at po; exact po
  rw [hf g this]
  exact po)
theorem snd_f (S : Snd ca F cg k N n) {vs : List Expr} {i : E} (h : cF cg N (n + 1) sc fn vs = some i) (x : XOk X ca F cg k N sc fn) : JPs X ca vs (run F i).v := by
  unfold cF at h
  split at h
  · cases ‹_ = 0›
  · cases h
    exact .nil
  · rename_i s j q r e
    cases e
    obtain ⟨z, hz, rfl⟩ := omap h
    refine .cons (f := fun g => ((run F (.k (.str s))).v g).bind fmtD) (jp_imp jp_const fun g hn => ?_) (S.f hz x)
    show Rs.ok s = fmtD (.str s)
    have hn : fmtD (.str s) ≠ .bad := hn
    unfold fmtD at hn ⊢
    dsimp only at hn ⊢
    split
    · rfl
    · rename_i z
      rw [if_neg z] at hn
      exact absurd rfl hn
  · rename_i a q r e
    cases e
    obtain ⟨y, hy, h⟩ := obind h
    obtain ⟨z, hz, rfl⟩ := omap h
    have e : (run F (.fcat y z)).v = fun g => (((run F y).v g).bind fmtD).bind fun s => noEx ((run F z).v g) (catD s) := funext fun g => by
      show ((run F y).v g).bind (fun x => (fmtD x).bind fun s => noEx ((run F z).v g) (catD s)) = _
      cases (run F y).v g <;> rfl
    rw [e]
    exact .cons (jp_fmt (S.e hy x).v) (S.f hz x)
  · cases h
theorem cF_me {vs : List Expr} {i : E} (h : cF cg N n sc fn vs = some i) : run F i = me0 (run F i).v := by
  unfold cF at h
  split at h
  · cases h
  · cases h; rfl
  · obtain ⟨z, hz, rfl⟩ := omap h; rfl
  · obtain ⟨y, hy, h⟩ := obind h
    obtain ⟨z, hz, rfl⟩ := omap h
    rfl
  · cases h
theorem snd_i (S : Snd ca F cg k N n) {ifs : List Expr} {i : E} (h : cI cg N (n + 1) sc fn ifs = some i) (x : XOk X ca F cg k N sc fn) : JG X ca (tTs X ifs) RB (run F i).t := by
  cases ifs with
  | nil =>
    cases h
    exact jts_nil
  | cons c r => cases r with
    | nil => exact jts_one (S.e (show cE cg N n sc fn c = some i from h) x).t
    | cons _ _ => cases h
theorem mgB (x : XOk X ca F cg k N sc fn) {b : Str} (h : b ∈ bltNames := by decide +kernel) : X.mg b = none := x.blt b h
theorem tup_of {e : Expr} (h : isTup e = true) : ∃ es k p, e = .Tuple es k p := by
  cases e <;> first | exact ⟨_, _, _, rfl⟩ | cases h
theorem snd_s (S : Snd ca F cg k N n) {tg e : Expr} {i : E} (h : cS cg N (n + 1) sc fn tg e = some i) (x : XOk X ca F cg k N sc fn) : JS X ca tg e (run F i).s := by
  unfold cS at h
  split at h
  · rename_i f q a q2
    by_cases hf : (f == "range") = true
    · rw [if_pos hf] at h
      obtain ⟨hc, h⟩ := oif h
      obtain ⟨y, hy, rfl⟩ := omap h
      rw [Bool.and_eq_true] at hc
      have ef := eq_of_beq hf
      subst ef
      exact js_rng1 (x.gl hc.1) (mgB x) hc.2 (S.e hy x).v
    · rw [if_neg hf] at h
      by_cases he : (f == "enumerate") = true
      · rw [if_pos he] at h
        obtain ⟨hc, h⟩ := oif h
        obtain ⟨y, hy, rfl⟩ := omap h
        rw [Bool.and_eq_true, Bool.and_eq_true] at hc
        have ef := eq_of_beq he
        subst ef
        obtain ⟨es, kk, tp, rfl⟩ := tup_of hc.2
        exact js_enum (x.gl hc.1.1) (mgB x) hc.1.2 (S.e hy x).v
      · rw [if_neg he] at h
        exact (S.e h x).s tg
  · rename_i f q a b q2
    by_cases hf : (f == "range") = true
    · rw [if_pos hf] at h
      obtain ⟨hc, h⟩ := oif h
      obtain ⟨y, hy, h⟩ := obind h
      obtain ⟨z, hz, h⟩ := obind h
      cases h
      rw [Bool.and_eq_true, Bool.and_eq_true] at hc
      have ef := eq_of_beq hf
      subst ef
      exact js_rng2 (x.gl hc.1.1) (mgB x) hc.1.2 hc.2 (S.e hy x).v (S.e hz x).v
    · rw [if_neg hf] at h
      by_cases he : (f == "zip") = true
      · rw [if_pos he] at h
        obtain ⟨hc, h⟩ := oif h
        obtain ⟨y, hy, h⟩ := obind h
        obtain ⟨z, hz, h⟩ := obind h
        cases h
        rw [Bool.and_eq_true, Bool.and_eq_true, Bool.and_eq_true] at hc
        have ef := eq_of_beq he
        subst ef
        obtain ⟨es, kk, tp, rfl⟩ := tup_of hc.2
        exact js_zip (x.gl hc.1.1.1) (mgB x) hc.1.1.2 hc.1.2 (S.e hy x).v (S.e hz x).v
      · rw [if_neg he] at h
        exact (S.e h x).s tg
  · rename_i f q a b c q2
    by_cases hf : (f == "range" && glB sc f && notStar a && notStar b && notStar c) = true
    · rw [if_pos hf] at h
      obtain ⟨y, hy, h⟩ := obind h
      obtain ⟨z, hz, h⟩ := obind h
      obtain ⟨w, hw, h⟩ := obind h
      obtain ⟨hm1, h⟩ := oif h
      cases h
      rw [Bool.and_eq_true, Bool.and_eq_true, Bool.and_eq_true, Bool.and_eq_true] at hf
      obtain ⟨⟨⟨⟨c1, c2⟩, c3⟩, c4⟩, c5⟩ := hf
      have ef := eq_of_beq c1
      subst ef
      have ew : w = .neg (.k (.int 1)) := by
        unfold isM1 at hm1
        split at hm1
        · rfl
        · cases hm1
      subst ew
      exact js_rngN (x.gl c2) (mgB x) c3 c4 c5 (S.e hy x).v (S.e hz x).v (S.e hw x).v
    · rw [if_neg hf] at h
      exact (S.e h x).s tg
  · exact (S.e h x).s tg
end
end Ip

set_option maxHeartbeats 4000000
namespace Ip
open PySem PySem.Spec PyProof.Rows L2
section
variable {ca : Nat → Addr} {F : Fn} {cg : Cg} {k : Nat} {N : List Str} {n : Nat} {sc : Scope} {fn : Str → Bool} {X : Cx}
theorem j4_const {c : Const} {j : Nat} {pos : Pos} {d : D} (h : constOf c = some d) : JV X ca (.Constant c j pos) (fun _ => .ok d) := by
  cases c with
  | none => cases h; exact j_c pe_non fun _ => .non
  | bool b => cases h; exact j_c pe_bl fun _ => .bl b
  | int i => cases h; exact j_c pe_int fun _ => .int i
  | str s => cases h; exact j_c pe_str fun _ => .str s
  | _ => cases h
theorem fold_of {iter : Expr} {env : Env} (h : notSet iter = true) : ∀ x, foldedSetIterable iter env x = pure x := by
  intro x
  cases iter <;> first | rfl | cases h
theorem tyN_of {x : Str} {t : Ty} (h : tyN x = some t) : x = Str.ofString (tyS t) := by
  unfold tyN at h
  by_cases h1 : (x == "int") = true
  · rw [if_pos h1] at h; cases h; exact eq_of_beq h1
  · rw [if_neg h1] at h
    by_cases h2 : (x == "bool") = true
    · rw [if_pos h2] at h; cases h; exact eq_of_beq h2
    · rw [if_neg h2] at h
      by_cases h3 : (x == "tuple") = true
      · rw [if_pos h3] at h; cases h; exact eq_of_beq h3
      · rw [if_neg h3] at h
        by_cases h4 : (x == "list") = true
        · rw [if_pos h4] at h; cases h; exact eq_of_beq h4
        · rw [if_neg h4] at h
          by_cases h5 : (x == "str") = true
          · rw [if_pos h5] at h; cases h; exact eq_of_beq h5
          · rw [if_neg h5] at h; cases h
theorem bl_sound (x : XOk X ca F cg k N sc fn) {f : Str} {m : Nat} {b : Bl} {p pos : Pos} {e : Expr} {es : List Expr} {fs : Ga → Rs D} (h : bltOf cg.gs f m = some b) (hg : glB sc f = true) (hs : notStar e = true) (hns : noStars es = true) (ha : JB X ca (e :: es) fs) :
    JV X ca (.Call (.Name f p) (e :: es) [] pos) (fun g => (fs g).bind (argsD (blD b))) := by
  have G := x.gl hg
  unfold bltOf at h
  split at h
  · split at h
    · rename_i q; have q := eq_of_beq q; subst q
      cases hgs : cg.gs with
      | true =>
        rw [hgs] at h
        cases h
        exact j_blT (show_ok x.room (x.gs hgs)) G (mgB x) (by decide +kernel) (by decide +kernel) (by decide +kernel) hs hns ha
      | false =>
        rw [hgs] at h
        cases h
        exact j_blT strI_ok G (mgB x) (by decide +kernel) (by decide +kernel) (by decide +kernel) hs hns ha
    · split at h
      · rename_i q; cases h; have q := eq_of_beq q; subst q
        exact j_blB len_ok G (mgB x) (by decide +kernel) (by decide +kernel) (by decide +kernel) hs hns ha
      · split at h
        · rename_i q; cases h; have q := eq_of_beq q; subst q
          exact j_blT int1_ok G (mgB x) (by decide +kernel) (by decide +kernel) (by decide +kernel) hs hns ha
        · split at h
          · rename_i q; cases h; have q := eq_of_beq q; subst q
            exact j_blB (sum_ok x.calm) G (mgB x) (by decide +kernel) (by decide +kernel) (by decide +kernel) hs hns ha
          · split at h
            · rename_i q; cases h; have q := eq_of_beq q; subst q
              exact j_blT tuple_ok G (mgB x) (by decide +kernel) (by decide +kernel) (by decide +kernel) hs hns ha
            · split at h
              · rename_i q; cases h; have q := eq_of_beq q; subst q
                exact j_blT list_ok G (mgB x) (by decide +kernel) (by decide +kernel) (by decide +kernel) hs hns ha
              · split at h
                · rename_i q; cases h; have q := eq_of_beq q; subst q
                  exact j_blB (sort_ok x.room) G (mgB x) (by decide +kernel) (by decide +kernel) (by decide +kernel) hs hns ha
                · split at h
                  · rename_i q; cases h; have q := eq_of_beq q; subst q
                    exact j_blB (minS_ok x.calm x.room) G (mgB x) (by decide +kernel) (by decide +kernel) (by decide +kernel) hs hns ha
                  · split at h
                    · rename_i q; cases h; have q := eq_of_beq q; subst q
                      exact j_blB (maxS_ok x.calm x.room) G (mgB x) (by decide +kernel) (by decide +kernel) (by decide +kernel) hs hns ha
                    · cases h
  · split at h
    · split at h
      · rename_i q; cases h; have q := eq_of_beq q; subst q
        exact j_blB (min2_ok x.calm) G (mgB x) (by decide +kernel) (by decide +kernel) (by decide +kernel) hs hns ha
      · split at h
        · rename_i q; cases h; have q := eq_of_beq q; subst q
          exact j_blB (max2_ok x.calm) G (mgB x) (by decide +kernel) (by decide +kernel) (by decide +kernel) hs hns ha
        · cases h
    · cases h
theorem spec_of {f : Str} {a y : Expr} {as : List Expr} {b : Bl} (h : spec sc f a as = some (b, y)) : ∃ g p q, a = .Call (.Name g p) [y] [] q ∧ as = [] ∧ glB sc g = true ∧ notStar y = true ∧ specB f g = some b := by
  unfold spec at h
  split at h
  · rename_i g p x q
    obtain ⟨hc, h⟩ := oif h
    obtain ⟨b', hb, h⟩ := omap h
    cases h
    rw [Bool.and_eq_true] at hc
    exact ⟨g, p, q, rfl, rfl, hc.1, hc.2, hb⟩
  · cases h
theorem spec_list {g : Str} {b : Bl} (h : specB "list" g = some b) : g = "range" ∧ b = .listRange := by
  unfold specB at h
  split at h
  · rename_i c
    rw [Bool.and_eq_true] at c
    cases h
    exact ⟨eq_of_beq c.2, rfl⟩
  · have h1 : ((("list" : Str) == ("sorted" : Str)) && g == ("set" : Str)) = false := by
      rw [show (("list" : Str) == ("sorted" : Str)) = false by decide +kernel]; rfl
    have h2 : ((("list" : Str) == ("len" : Str)) && g == ("set" : Str)) = false := by
      rw [show (("list" : Str) == ("len" : Str)) = false by decide +kernel]; rfl
    have h3 : ((("list" : Str) == ("tuple" : Str)) && g == ("range" : Str)) = false := by
      rw [show (("list" : Str) == ("tuple" : Str)) = false by decide +kernel]; rfl
    rw [h1, h2, h3] at h
    cases h
theorem spec_sound (x : XOk X ca F cg k N sc fn) {f g : Str} {b : Bl} {p p2 q pos : Pos} {y : Expr} {fa : Ga → Rs D} (hb : specB f g = some b) (hf : glB sc f = true) (hg : glB sc g = true) (hs : notStar y = true) (h : JR X ca y fa) :
    JV X ca (.Call (.Name f p) [.Call (.Name g p2) [y] [] q] [] pos) (fun g => (fa g).bind fun d => blD b [d]) := by
  unfold specB at hb
  split at hb
  · rename_i c
    rw [Bool.and_eq_true] at c
    have c1 := eq_of_beq c.1
    have c2 := eq_of_beq c.2
    subst c1 c2
    cases hb
    exact (jf_lrng x.calm (x.gl hf) (mgB x) (x.gl hg) (mgB x) hs h).v
  · split at hb
    · rename_i c
      rw [Bool.and_eq_true] at c
      have c1 := eq_of_beq c.1
      have c2 := eq_of_beq c.2
      subst c1 c2
      cases hb
      exact (jf_sset x.calm (x.gl hf) (mgB x) (x.gl hg) (mgB x) hs h).v
    · split at hb
      · rename_i c
        rw [Bool.and_eq_true] at c
        have c1 := eq_of_beq c.1
        have c2 := eq_of_beq c.2
        subst c1 c2
        cases hb
        exact j_lset x.calm (x.gl hf) (mgB x) (x.gl hg) (mgB x) hs h
      · split at hb
        · rename_i c
          rw [Bool.and_eq_true] at c
          have c1 := eq_of_beq c.1
          have c2 := eq_of_beq c.2
          subst c1 c2
          cases hb
          exact j_trng x.calm (x.gl hf) (mgB x) (x.gl hg) (mgB x) hs h
        · cases hb
theorem own_sub {scope : Scope} {t : Tg} (h : (namesT t).all (fun i => ((ownOf N scope).map (·.2)).contains i) = true) : ∀ i ∈ namesT t, i ∈ (ownOf N scope).map (·.2) := fun i hi => by
  have := List.all_eq_true.mp h i hi
  exact List.contains_iff_mem.mp this
/-- the comprehension's parts -/
theorem comp_of (S : Snd ca F cg k N n) (x : XOk X ca F cg k N sc fn) {scope : Scope} {tg iter elt : Expr} {ifs : List Expr} {s c y : E} {t : Tg} (hb : blkC N sc scope (ownOf N scope) = true) (hns : notSet iter = true) (h1 : cS cg N n sc fn tg iter = some s)
    (h2 : cT N (relS scope sc) (fun y => scope.names.lookup y == some .cell) n tg = some t) (h3 : (namesT t).all (fun i => ((ownOf N scope).map (·.2)).contains i) = true) (h4 : cI cg N n (relS scope sc) (fun y => scope.names.lookup y == some .cell) ifs = some c)
    (h5 : cE cg N n (relS scope sc) (fun y => scope.names.lookup y == some .cell) elt = some y) : CompOk X ca scope (ownOf N scope) tg iter elt ifs t (run F s).s (run F c).t (run F y).v where
  calm := x.calm
  nd := by rw [x.nN]; exact x.nd
  blk := by rw [x.nN, x.sc]; exact blkOk_by hb
  fold := fold_of hns
  src := S.s h1 x
  sub := own_sub h3
  tg := fun X' b => by
    have eK : X'.K = X.K := by obtain ⟨_, _, _, _, _, rfl⟩ := b; rfl
    have := cT_ok h2 (x.block b)
    rw [eK] at this
    exact this
  tst := fun X' b => S.i h4 (x.block b)
  elt := fun X' b => (S.e h5 (x.block b)).v
theorem snd_e (S : Snd ca F cg k N n) {e : Expr} {i : E} (h : cE cg N (n + 1) sc fn e = some i) (x : XOk X ca F cg k N sc fn) : J4 X ca e (run F i) := by
  unfold cE at h
  split at h
  · -- a name
    rename_i y q
    by_cases hv : (visB sc y && nmOk y) = true
    · rw [if_pos hv] at h
      obtain ⟨j, hj, rfl⟩ := omap h
      rw [Bool.and_eq_true] at hv
      obtain ⟨n1, n2⟩ := nm_of hv.2
      have V := j_var (ca := ca) (pos := q) (x.ix hj) (x.vis hv.1) n1 n2
      have R := j_varR (ca := ca) (pos := q) (x.ix hj) (x.vis hv.1) n1 n2
      exact ⟨V, R, j_truth rfl R, fun tg => js_seq V⟩
    · rw [if_neg hv] at h
      obtain ⟨hg, h⟩ := oif h
      cases hm : cg.cns.lookup y with
      | some m =>
        rw [hm] at h
        cases h
        obtain ⟨⟨t, ht⟩, hd⟩ := x.cns y m hm
        exact j4_0 rfl (j_c (pe_glob (v := .int m) (x.gl hg) ht ⟨t, rfl⟩ hd) fun _ => .int m)
      | none =>
        rw [hm] at h
        obtain ⟨s, hs, rfl⟩ := omap h
        obtain ⟨⟨t, ht⟩, hd⟩ := x.sts y s hs
        exact j4_0 rfl (j_c (pe_glob (v := .str s) (x.gl hg) ht ⟨t, rfl⟩ hd) fun _ => .str s)
  · obtain ⟨d, hd, rfl⟩ := omap h
    exact j4_0 rfl (j4_const hd)
  · -- tuple
    obtain ⟨hl, h⟩ := oif h
    obtain ⟨a, ha, rfl⟩ := omap h
    obtain ⟨a1, a2, a3⟩ := S.a ha x
    exact j4_0 rfl (j_tup a1 fun g ds e => by rw [a3 g ds e]; exact Nat.le_trans hl (by decide))
  · obtain ⟨hl, h⟩ := oif h
    obtain ⟨a, ha, rfl⟩ := omap h
    obtain ⟨a1, a2, a3⟩ := S.a ha x
    exact j4_0 rfl (j_lst a1 fun g ds e => by rw [a3 g ds e]; exact Nat.le_trans hl (by decide))
  · obtain ⟨o, ho, h⟩ := obind h
    obtain ⟨y, hy, h⟩ := obind h
    obtain ⟨z, hz, h⟩ := obind h
    cases h
    rw [op_of ho]
    exact j4_0 rfl (j_bin o (S.e hy x).r (S.e hz x).r)
  · obtain ⟨y, hy, rfl⟩ := omap h
    exact j4_0 rfl (j_neg (S.e hy x).v)
  · obtain ⟨y, hy, rfl⟩ := omap h
    have J := S.e hy x
    have V := j_notV (pos := by assumption) J.r
    exact ⟨V, V.r, j_notT J.t, fun tg => js_seq V⟩
  · obtain ⟨y, hy, h⟩ := obind h
    obtain ⟨z, hz, h⟩ := obind h
    cases h
    have J := S.e hy x
    obtain ⟨j1, j2⟩ := S.and hz x _
    have V := j_andV J.v j1
    exact ⟨V, V.r, j_wt (j_andW J.t j2), fun tg => js_seq V⟩
  · obtain ⟨y, hy, h⟩ := obind h
    obtain ⟨z, hz, h⟩ := obind h
    cases h
    have J := S.e hy x
    obtain ⟨j1, j2⟩ := S.or hz x _
    have V := j_orV J.v j1
    exact ⟨V, V.r, j_wt (j_orW J.t j2), fun tg => js_seq V⟩
  · obtain ⟨w, hw, h⟩ := obind h
    obtain ⟨y, hy, h⟩ := obind h
    obtain ⟨z, hz, h⟩ := obind h
    cases h
    have V := j_ife (pos := by assumption) (S.e hw x).t (S.e hy x).v (S.e hz x).v
    exact ⟨V, V.r, fun ps Hb0 H0 g σ Hb H Q W tk sat po => False.elim po, fun tg => js_seq V⟩
  · rename_i a op b pos
    obtain ⟨hm, h⟩ := oifn h
    obtain ⟨y, hy, h⟩ := obind h
    obtain ⟨z, hz, h⟩ := obind h
    cases h
    rw [cop_of op] at hm ⊢
    have e2 : copOf (opC (copOf op)) = copOf op := by cases op <;> rfl
    rw [e2]
    have V := j_cmp (pos := pos) x.room (copOf op) hm (S.e hy x).r (S.e hz x).r
    exact ⟨V, V.r, j_cmpT x.room (copOf op) hm (S.e hy x).r (S.e hz x).r, fun tg => js_seq V⟩
  · rename_i a op op' b c pos
    obtain ⟨hm, h⟩ := oifn h
    obtain ⟨y, hy, h⟩ := obind h
    obtain ⟨z, hz, h⟩ := obind h
    obtain ⟨w, hw, h⟩ := obind h
    cases h
    rw [cop_of op, cop_of op'] at hm ⊢
    have e2 : copOf (opC (copOf op)) = copOf op := by cases op <;> rfl
    have e3 : copOf (opC (copOf op')) = copOf op' := by cases op' <;> rfl
    rw [e2, e3]
    have V := j_chain (pos := pos) x.room (copOf op) (copOf op') hm (S.e hy x).r (S.e hz x).r (S.e hw x).r
    exact ⟨V, V.r, j_chainT x.room (copOf op) (copOf op') hm (S.e hy x).r (S.e hz x).r (S.e hw x).r, fun tg => js_seq V⟩
  · obtain ⟨y, hy, h⟩ := obind h
    obtain ⟨z, hz, h⟩ := obind h
    obtain ⟨w, hw, h⟩ := obind h
    cases h
    exact j4_0 rfl (j_slc (S.e hy x).r (S.o hz x) (S.o hw x))
  · obtain ⟨y, hy, rfl⟩ := omap h
    exact j4_0 rfl (j_rev (S.e hy x).r)
  · obtain ⟨hp, h⟩ := oif h
    obtain ⟨y, hy, h⟩ := obind h
    obtain ⟨z, hz, h⟩ := obind h
    cases h
    exact j4_0 rfl (j_idx hp (S.e hy x).r (S.e hz x).v)
  · -- a call
    rename_i f q a as pos
    obtain ⟨hc, hh⟩ := oif h
    clear h
    rw [Bool.and_eq_true] at hc
    have hst : notStar a = true ∧ noStars as = true := by
      have := hc.2
      unfold noStars at this
      rw [List.all_cons, Bool.and_eq_true] at this
      exact this
    split at hh
    · rename_i j hj
      obtain ⟨y, hy, rfl⟩ := omap hh
      exact j4_0 rfl (j_call x.room (x.gl hc.1) (x.fns j f (ix_get hj)) hst.1 hst.2 (S.a hy x).1)
    · split at hh
      · rename_i b y hsp
        obtain ⟨z, hz, rfl⟩ := omap hh
        obtain ⟨g, p2, q2, rfl, rfl, hg, hs, hb⟩ := spec_of hsp
        exact j4_0 rfl (spec_sound x hb hc.1 hg hs (S.e hz x).r)
      by_cases hi : (f == "isinstance") = true
      · rw [if_pos hi] at hh
        have ef := eq_of_beq hi
        subst ef
        obtain ⟨ty, hty, h⟩ := obind hh
        obtain ⟨y, hy, rfl⟩ := omap h
        obtain ⟨t, q2, rfl, hg, ht⟩ : ∃ t q2, as = [.Name t q2] ∧ glB sc t = true ∧ tyN t = some ty := by
          unfold tyA at hty
          split at hty
          · obtain ⟨g1, g2⟩ := oif hty
            exact ⟨_, _, rfl, g1, g2⟩
          · cases hty
        have et := tyN_of ht
        subst et
        exact j4_0 rfl (j_isi (x.gl hc.1) (mgB x) (x.gl hg) (x.blt _ (by cases ty <;> decide +kernel)) hst.1 (S.e hy x).r)
      · rw [if_neg hi] at hh
        obtain ⟨b, hb, h⟩ := obind hh
        obtain ⟨y, hy, rfl⟩ := omap h
        exact j4_0 rfl (bl_sound x hb hc.1 hst.1 hst.2 (S.a hy x).2.1)
  · -- count, index, split
    rename_i y q0 m q2 a p'
    obtain ⟨hc, h⟩ := oif h
    rw [Bool.and_eq_true] at hc
    obtain ⟨c4, c5⟩ := hc
    by_cases hv : (visB sc y && nmOk y) = true
    · rw [if_pos hv] at h
      obtain ⟨j, hj, h⟩ := obind h
      rw [Bool.and_eq_true] at hv
      obtain ⟨c2, c3⟩ := hv
      obtain ⟨n1, n2⟩ := nm_of c3
      by_cases c1 : (m == "count") = true
      · rw [if_pos c1] at h
        obtain ⟨z, hz, rfl⟩ := omap h
        have em := eq_of_beq c1
        subst em
        exact j4_0 rfl (j_count c5 c4 (j_varR (ca := ca) (pos := q0) (x.ix hj) (x.vis c2) n1 n2) (S.a hz x).1)
      · rw [if_neg c1] at h
        by_cases c1 : (m == "index") = true
        · rw [if_pos c1] at h
          obtain ⟨z, hz, rfl⟩ := omap h
          have em := eq_of_beq c1
          subst em
          exact j4_0 rfl (j_index c5 c4 (j_varR (ca := ca) (pos := q0) (x.ix hj) (x.vis c2) n1 n2) (S.a hz x).1)
        · rw [if_neg c1] at h
          obtain ⟨c1, h⟩ := oif h
          obtain ⟨s, hs, rfl⟩ := omap h
          have em := eq_of_beq c1
          subst em
          unfold strC at hs
          split at hs
          · cases hs
            exact j4_0 rfl (j_split c5 (j_var (ca := ca) (pos := q0) (x.ix hj) (x.vis c2) n1 n2))
          · cases hs
    · rw [if_neg hv] at h
      obtain ⟨hg, h⟩ := oif h
      rw [Bool.and_eq_true] at hg
      obtain ⟨c, hc, h⟩ := obind h
      obtain ⟨z, hz, rfl⟩ := omap h
      have em := eq_of_beq hg.2
      subst em
      obtain ⟨⟨t, ht⟩, hd⟩ := x.sts y c hc
      exact j4_0 rfl (j_sidx c5 c4 (j_c (pe_glob (v := .str c) (x.gl hg.1) ht ⟨t, rfl⟩ hd) fun _ => .str c) (S.e hz x).v)
  · -- join
    rename_i s j0 q0 m q2 a p'
    obtain ⟨hc, h⟩ := oif h
    rw [Bool.and_eq_true, Bool.and_eq_true] at hc
    obtain ⟨z, hz, rfl⟩ := omap h
    have em := eq_of_beq hc.1.1
    subst em
    exact j4_0 rfl (j_join hc.2 hc.1.2 (S.e hz x).r)
  · -- an f-string
    rw [cF_me (F := F) h]
    exact j4_0 rfl (j_fs (S.f h x))
  · -- a comprehension
    obtain ⟨hc, h⟩ := oif h
    obtain ⟨s, h1, h⟩ := obind h
    obtain ⟨t, h2, h⟩ := obind h
    obtain ⟨h3, h⟩ := oif h
    obtain ⟨c, h4, h⟩ := obind h
    obtain ⟨y, h5, h⟩ := obind h
    cases h
    rw [Bool.and_eq_true] at hc
    exact j4_0 rfl (j_compF (comp_of S x hc.1 hc.2 h1 h2 h3 h4 h5)).v
  · cases h
theorem snd_all : ∀ n, Snd ca F cg k N n
  | 0 => ⟨fun h _ => (by cases h), fun h _ => (by cases h), fun h _ _ => (by cases h), fun h _ _ => (by cases h), fun h _ => (by cases h), fun h _ => (by cases h), fun h _ => (by cases h), fun h _ => (by cases h)⟩
  | n + 1 => have S := snd_all n; ⟨fun h x => snd_e S h x, fun h x => snd_a S h x, fun h x p => snd_and S h x p, fun h x p => snd_or S h x p, fun h x => snd_o S h x, fun h x => snd_i S h x, fun h x => snd_s S h x, fun h x => snd_f S h x⟩
end
end Ip

set_option maxHeartbeats 4000000
namespace Ip
open PySem PySem.Spec PyProof.Rows L2
/-! ### parallel stores -/
section
variable {X : Cx} {ca : Nat → Addr} {a b : Expr} {pos : Pos}
theorem k_par {i j : Nat} {x y : Str} {fs : Ga → Rs D} {px py pt pt2 : Pos} {kt k2 : Nat} (hc : X.calm = true) (hN : X.N.Nodup) (hi : X.N[i]? = some x) (hj : X.N[j]? = some y) (hij : i ≠ j) (hx : X.env.scope.names.lookup x = some .local) (hy : X.env.scope.names.lookup y = some .local)
    (ha : JA X ca [a, b] fs) (hw : swappedStores [.Tuple [.Name x px, .Name y py] kt pt] (.Tuple [a, b] k2 pt2) X.env = pure (some [x, y])) :
    SJ X ca (.Assign [.Tuple [.Name x px, .Name y py] kt pt] (.Tuple [a, b] k2 pt2) pos) (fun g => (fs g).out g fun d => store (.t2 (.nm i) (.nm j)) d g) :=
  fun ps Hb0 H0 g σ Hb H D W tk sat po => tSt_of (ps_par hc hN hi hj hij hx hy pa_tA hw) (run_out ha tk sat po fun d vs Hb1 H1 e1 r1 g1 s1 p1 => by
    obtain ⟨ds, rfl, ra⟩ := r1
    cases ra with
    | nil => exact False.elim p1
    | @cons v1 vs1 d1 ds1 r ra => cases ra with
      | nil => exact False.elim p1
      | @cons v2 vs2 d2 ds2 r' ra => cases ra with
        | cons _ _ => exact False.elim p1
        | nil =>
          refine ⟨_, _, rfl, ?_⟩
          unfold store at p1
          cases hb : bindT (.t2 (.nm i) (.nm j)) (.tuple [d1, d2]) g with
          | none => rw [hb] at p1; exact False.elim p1
          | some g' =>
            rw [hb] at p1
            have hb : (bindT (.nm i) d1 g).bind (fun g => bindT (.nm j) d2 g) = some g' := hb
            obtain ⟨g2, hb1, hb2⟩ := obind hb
            unfold bindT at hb1 hb2
            obtain ⟨c1, hb1⟩ := oif hb1
            obtain ⟨c2, hb2⟩ := oif hb2
            cases hb1
            cases hb2
            rw [Bool.and_eq_true] at c1 c2
            exact p1 _ Hb1 H1 ((s1.set (of_decide_eq_true c1.1) r).set (of_decide_eq_true c2.1) r'))
end
theorem st1 {a : Expr} (h : notStar a = true) : (fun (z : Expr) => match z with | .Starred .. => true | _ => false) a = false := by
  cases a <;> first | rfl | cases h
def foldB (vs : List Expr) : Bool := vs.all (foldedForSure 8) || vs.all (constantsAlone 8)
theorem swap_aux {names : List Str} {x y : Str} {px py : Pos} {a b : Expr} (hn : names = [x, y]) (d2 : ([x, y] : List Str).eraseDups.length = 2) (hf1 : [a, b].all (foldedForSure 8) = false) (hf2 : [a, b].all (constantsAlone 8) = false) :
    (if (names.length != ([.Name x px, .Name y py] : List Expr).length || names.eraseDups.length != names.length) = true then (pure none : Sem (Option (List Str))) else if [a, b].all (foldedForSure 8) = true then pure none
      else if [a, b].all (constantsAlone 8) = true then (do unsupported "assign.tuple-of-constant-expressions:order-of-the-stores"; pure (some names)) else pure (some names)) = pure (some [x, y]) := by
  subst hn
  refine (if_neg (by rw [d2]; exact fun h => nomatch h)).trans ?_
  refine (if_neg (by rw [hf1]; exact Bool.false_ne_true)).trans ?_
  exact if_neg (by rw [hf2]; exact Bool.false_ne_true)
theorem swap_two {env : Env} {x y : Str} {px py pt pt2 : Pos} {kt k2 : Nat} {a b : Expr} (hk : env.scope.kind = .function) (hx : env.scope.names.lookup x = some .local) (hy : env.scope.names.lookup y = some .local) (hne : (x == y) = false) (hl : (py.line == px.line) = true) (hs : notStar a = true) (hs2 : notStar b = true) (hf : foldB [a, b] = false) :
    swappedStores [.Tuple [.Name x px, .Name y py] kt pt] (.Tuple [a, b] k2 pt2) env = pure (some [x, y]) := by
  have kx : (env.kindOf x == some .local) = true := by rw [show env.kindOf x = some .local from hx]; rfl
  have ky : (env.kindOf y == some .local) = true := by rw [show env.kindOf y = some .local from hy]; rfl
  have hb : (env.blockKind != .function) = false := by unfold Env.blockKind; rw [hk]; rfl
  unfold foldB at hf
  rw [Bool.or_eq_false_iff] at hf
  have st : (([a, b] : List Expr).any fun | .Starred .. => true | _ => false) = false := by
    rw [List.any_cons, List.any_cons, List.any_nil]
    have h1 := st1 hs
    have h2 := st1 hs2
    dsimp only at h1 h2
    rw [h1, h2]
    rfl
  have e1 : ([.Name x px, .Name y py] : List Expr).filterMap (fun e => match e with
    | .Name id pos => if (env.kindOf id == some .local && pos.line == px.line) = true then some id else none
    | _ => none) = [x, y] := by
    rw [List.filterMap_cons_some (b := x), List.filterMap_cons_some (b := y)]
    · rfl
    · dsimp only
      rw [ky, hl]
      rfl
    · dsimp only
      rw [kx, beq_self_eq_true]
      rfl
  have d2 : ([x, y] : List Str).eraseDups.length = 2 := by
    have hyx : (y == x) = false := by
      cases q : (y == x) with
      | false => rfl
      | true =>
        rw [eq_of_beq q, beq_self_eq_true] at hne
        cases hne
    rw [List.eraseDups_cons]
    have : ([y] : List Str).filter (fun b => !b == x) = [y] := by
      rw [List.filter_cons_of_pos (by rw [hyx]; rfl)]
      rfl
    rw [this, List.eraseDups_cons]
    rfl
  unfold swappedStores
  refine (if_neg (by rw [hb]; exact fun h => nomatch h)).trans ?_
  refine (if_neg (fun h => Bool.false_ne_true (st.symm.trans h))).trans ?_
  dsimp only [List.head?_cons, Option.map_some, Option.getD_some, Expr.pos]
  exact swap_aux e1 d2 hf.1 hf.2
theorem swap_none {env : Env} {x y : Str} {px py pt pt2 : Pos} {kt k2 : Nat} {a b : Expr} (hn : (env.scope.names.lookup x == some .local && env.scope.names.lookup y == some .local) = false) :
    swappedStores [.Tuple [.Name x px, .Name y py] kt pt] (.Tuple [a, b] k2 pt2) env = pure none := by
  unfold swappedStores
  dsimp only
  split
  · rfl
  · split
    · rfl
    · refine (if_pos ?_).trans rfl
      have kl : (([.Name x px, .Name y py] : List Expr).filterMap (fun e => match e with
        | .Name id pos => if (env.kindOf id == some .local && pos.line == px.line) = true then some id else none
        | _ => none)).length ≤ 1 := by
        rw [Bool.and_eq_false_iff] at hn
        rcases hn with hn | hn
        · have hn : (env.kindOf x == some .local) = false := hn
          rw [List.filterMap_cons_none (by dsimp only; rw [hn]; rfl)]
          exact List.length_filterMap_le _ _
        · have hn : (env.kindOf y == some .local) = false := hn
          have e2 : ([.Name y py] : List Expr).filterMap (fun e => match e with
            | .Name id pos => if (env.kindOf id == some .local && pos.line == px.line) = true then some id else none
            | _ => none) = [] := by
            rw [List.filterMap_cons_none (by dsimp only; rw [hn]; rfl)]
            rfl
          rw [List.filterMap_cons]
          split
          · rw [e2]; exact Nat.zero_le _
          · rw [e2]; exact Nat.le_refl _
      rw [Bool.or_eq_true]
      left
      rw [bne_iff_ne]
      intro z
      have z2 : (([.Name x px, .Name y py] : List Expr).filterMap (fun e => match e with
        | .Name id pos => if (env.kindOf id == some .local && pos.line == px.line) = true then some id else none
        | _ => none)).length = 2 := z
      omega

theorem sw_false {elt : Expr} {gs : List Comprehension} {scope : Scope} {pos py : Pos} {y : Str} {l : Nat} {env : Env} (hy : (env.scope.names.lookup y == some .local) = false) : swapsWith (.ListComp elt gs scope pos) (some (.Name y py)) l env = pure false := by
  have ky : (env.kindOf y == some .local) = false := hy
  unfold swapsWith
  dsimp only
  rw [ky, Bool.and_false, Bool.false_and, Bool.false_and]
/-! ### statements -/
/-- a name that is only read -/
def rdW (f : Expr → List Str) : Expr → List Str
  | .Name _ _ => []
  | e => f e
/-- names in a place where the list itself is handed on -/
def esc (fns : List Str) : Nat → Expr → List Str
  | 0, _ => []
  | n + 1, e => match e with
    | .Name x _ => [x]
    | .Tuple es _ _ => es.flatMap (esc fns n)
    | .List es _ => es.flatMap (esc fns n)
    | .BinOp a _ b _ => rdW (esc fns n) a ++ rdW (esc fns n) b
    | .UnaryOp _ a _ => rdW (esc fns n) a
    | .BoolOp _ vs _ => vs.flatMap (esc fns n)
    | .IfExp c a b _ => rdW (esc fns n) c ++ esc fns n a ++ esc fns n b
    | .Compare a _ bs _ => rdW (esc fns n) a ++ bs.flatMap (rdW (esc fns n))
    | .Subscript a b _ => rdW (esc fns n) a ++ esc fns n b
    | .Call (.Name f _) as _ _ => if fns.contains f || f == "enumerate" || f == "zip" then as.flatMap (esc fns n) else as.flatMap (rdW (esc fns n))
    | .ListComp elt gs _ _ => esc fns n elt ++ gs.flatMap (fun g => esc fns n g.iter ++ g.ifs.flatMap (rdW (esc fns n)))
    | _ => []
def frzs (N mu xs : List Str) (s : S) : S := xs.foldr (fun x s => if mu.contains x then match ix N x with
  | some i => .seq (.frz i) s
  | none => s else s) s
def fresh : Expr → Bool
  | .List _ _ => true
  | .ListComp _ _ _ _ => true
  | .BinOp _ .Add _ _ => true
  | .BinOp _ .Mult _ _ => true
  | .Call (.Name f _) [_] [] _ => f == "list"
  | _ => false
def slotB (sc : Scope) (x : Str) : Bool := visB sc x && nmOk x
def cHC (cg : Cg) (N : List Str) (sc : Scope) (n0 : Str) : Nat → Expr → Option HC
  | 0, _ => none
  | n + 1, e => match e with
    | .Call (.Name f _) [.Name a _, .Name c _] [] _ => if f == "isinstance" && glB sc f && a == n0 && glB sc c then (ix cg.cls c).map .isx else none
    | .Name x _ => if slotB sc x then (ix N x).map .v else none
    | .UnaryOp .Not a _ => (cHC cg N sc n0 n a).map .not
    | .BoolOp .And [a, b] _ => (cHC cg N sc n0 n a).bind fun x => (cHC cg N sc n0 n b).bind fun y => some (.and x y)
    | _ => none
/-- a or b or c, as a value -/
def cHV (cg : Cg) (N : List Str) (sc : Scope) (n0 : Str) : Nat → Expr → Option HC
  | 0, _ => none
  | n + 1, e => match e with
    | .Call (.Name f _) [.Name a _, .Name c _] [] _ => if f == "isinstance" && glB sc f && a == n0 && glB sc c then (ix cg.cls c).map .isx else none
    | .BoolOp .Or [a, b] _ => (cHV cg N sc n0 n a).bind fun x => (cHV cg N sc n0 n b).bind fun y => some (.or x y)
    | .BoolOp .Or [a, b, c] _ => (cHV cg N sc n0 n a).bind fun x => (cHV cg N sc n0 n b).bind fun y => (cHV cg N sc n0 n c).bind fun z => some (.or x (.or y z))
    | _ => none
def cHS (cg : Cg) (N : List Str) (sc : Scope) (fn : Str → Bool) (n0 : Str) : List Stmt → Option HS
  | [.Return (some (.IfExp c (.Constant (.str a) _ _) (.Constant (.str b) _ _) _)) _] => (cHC cg N sc n0 20 c).map fun h => .ret h (.str a) (.str b)
  | .Assign [.Name x _] e _ :: r => if storeB sc fn x && !(x == n0) && notComp e then (ix N x).bind fun i => (cHV cg N sc n0 20 e).bind fun h => (cHS cg N sc fn n0 r).map fun s => .asg i h s else none
  | _ => none
def cHds (cg : Cg) (N : List Str) (sc : Scope) (fn : Str → Bool) (n0 : Str) : List ExceptHandler → Option (List (Nat × HS))
  | [] => some []
  | .ExceptHandler (some (.Name x _)) (some m) (s0 :: ss) _ :: r => if m == n0 && glB sc x then (ix cg.cls x).bind fun c => (cHS cg N sc fn n0 (s0 :: ss)).bind fun h => (cHds cg N sc fn n0 r).map fun l => (c, h) :: l else none
  | _ => none
def hdName : List ExceptHandler → Str
  | .ExceptHandler _ (some m) _ _ :: _ => m
  | _ => ""
def lcB (sc : Scope) (x : Str) (px : Pos) : Expr → Bool
  | .ListComp _ gs scope pos => gs.length == 1 && (if sc.names.lookup x == some .local then (px.line == pos.line) && !(scope.names.any fun p => p.1 == x && (p.2 == .local || p.2 == .cell)) else true)
  | .SetComp _ _ _ _ => false
  | .DictComp _ _ _ _ _ => false
  | _ => true
def parB (sc : Scope) (ts : List Expr) (e : Expr) : Bool := match e with
  | .Tuple vs _ _ => match ts, vs with
    | [.Name x px, .Name y py], [a, b] => if (sc.names.lookup x == some .local && sc.names.lookup y == some .local) = true then !(x == y) && (py.line == px.line) && notStar a && notStar b && !foldB [a, b] else true
    | _, _ => false
  | _ => true
/-- except ParseError as e: return ["line", e.line] if isinstance(e, GraphError) and not isinstance(e, C) else ["other"] -/
def cPH : ExceptHandler → Option (Str × Str × Str)
  | .ExceptHandler (some (.Name x _)) (some n) [.Return (some (.IfExp (.BoolOp .And [.Call (.Name f1 _) [.Name n2 _, .Name cG _] [] _, .UnaryOp .Not (.Call (.Name f2 _) [.Name n3 _, .Name cI _] [] _) _] _) (.List [.Constant (.str s1) _ _, .Attribute (.Name n4 _) at1 _] _) (.List [.Constant (.str s2) _ _] _) _)) _] _ =>
    if x == "ParseError" && (f1 == "isinstance" && (f2 == "isinstance" && (n2 == n && (n3 == n && (n4 == n && (s1 == "line" && (at1 == "line" && s2 == "other"))))))) then some (n, cG, cI) else none
  | _ => none
theorem cPH_ok {h : ExceptHandler} {n cG cI : Str} (hc : cPH h = some (n, cG, cI)) : ∃ q1 q2 j1 j2 r1 r2 r3 r4 r5 r6 r7 r8 r9 r10 r11 r12 r13 r14 r15 r16 r17 r18, h = .ExceptHandler (some (.Name "ParseError" q1)) (some n) [suiteP n cG cI j1 j2 r1 r2 r3 r4 r5 r6 r7 r8 r9 r10 r11 r12 r13 r14 r15 r16 r17 r18] q2 := by
  unfold cPH at hc
  split at hc
  · split at hc
    · rename_i hh
      cases hc
      simp only [Bool.and_eq_true, beq_iff_eq] at hh
      obtain ⟨e1, e2, e3, e4, e5, e6, e7, e8, e9⟩ := hh
      subst e1 e2 e3 e4 e5 e6 e7 e8 e9
      exact ⟨_, _, _, _, _, _, _, _, _, _, _, _, _, _, _, _, _, _, _, _, _, _, rfl⟩
    · cases hc
  · cases hc
def phB (cg : Cg) (sc : Scope) (n cG cI : Str) : Bool := glB sc "isinstance" && (glB sc "ParseError" && (glB sc cG && (glB sc cI && ((ix cg.cls cG == some 0) && (match ix cg.cls cI with | some c => !(Nat.beq c 0) | none => false)))))
structure Cp where
  cg : Cg
  N : List Str
  mu : List Str
mutual
def cSt (c : Cp) : Nat → Scope → (Str → Bool) → Bool → Stmt → Option S
  | 0, _, _, _, _ => none
  | n + 1, sc, fn, top, st => match st with
    | .Pass _ => some .skip
    | .Break _ => some .brk
    | .Continue _ => some .cnt
    | .Expr (.Constant (.str _) _ _) _ => some .skip
    | .Expr (.Call (.Attribute (.Name x _) m q2) [e] [] p') _ => if slotB sc x && notStar e && (q2.endLine == p'.line) then (ix c.N x).bind fun i => (cE c.cg c.N n sc fn e).bind fun y =>
        if m == "append" then some (frzs c.N c.mu (esc c.cg.fns n e) (.app i y)) else if m == "extend" then some (frzs c.N c.mu (esc c.cg.fns n e) (.ext i y)) else none else none
    | .Expr e _ => if notComp e then (cE c.cg c.N n sc fn e).map fun y => frzs c.N c.mu (esc c.cg.fns n e) (.exp y) else none
    | .Return (some e) _ => (cE c.cg c.N n sc fn e).map fun y => frzs c.N c.mu (esc c.cg.fns n e) (.ret y)
    | .Return none _ => some .retN
    | .Assign [.Name x px] e pos => if storeB sc fn x && lcB sc x px e then (ix c.N x).bind fun i => (cE c.cg c.N n sc fn e).bind fun y =>
        if c.mu.contains x && fresh e then some (frzs c.N c.mu (esc c.cg.fns n e) (.own i y)) else some (frzs c.N c.mu (esc c.cg.fns n e) (.asg (.nm i) y)) else none
    | .Assign [.Subscript (.Name x _) j _] e _ => if slotB sc x && plainIx j && notComp e then (ix c.N x).bind fun i => (cE c.cg c.N n sc fn e).bind fun y => (cE c.cg c.N n sc fn j).map fun z => frzs c.N c.mu (esc c.cg.fns n e) (.setI i z y) else none
    | .Assign [.Tuple ts k pt] e _ => (cT c.N sc fn n (.Tuple ts k pt)).bind fun t => if notComp e && parB sc ts e then (cE c.cg c.N n sc fn e).map fun y => frzs c.N c.mu (esc c.cg.fns n e) (.asg t y) else none
    | .If t a b _ => (cE c.cg c.N n sc fn t).bind fun y => (cBk c n sc fn top a).bind fun u => (cBk c n sc fn top b).map fun v => frzs c.N c.mu (esc c.cg.fns n t) (.ifS y u v)
    | .For tg it b [] _ => if notSet it then (cT c.N sc fn n tg).bind fun t => (cS c.cg c.N n sc fn tg it).bind fun y => (cBk c n sc fn top b).map fun u => frzs c.N c.mu (esc c.cg.fns n it) (.forS t y u) else none
    | .While t b [] _ => (cE c.cg c.N n sc fn t).bind fun y => (cBk c n sc fn top b).map fun u => .whl y u
    | .Raise (some (.Call (.Name x _) [.Constant (.str _) _ _] [] _)) none _ => if glB sc x then (ix c.cg.cls x).map .rai else none
    | .Raise (some (.Call (.Name x _) [e] [] _)) none _ => if (x == "ParseError") && (c.cg.px && (glB sc x && notStar e)) then (cE c.cg c.N n sc fn e).map .raiP else none
    | .Try b (h0 :: hs) [] [] _ => if c.cg.px && (hs.isEmpty && (cPH h0).isSome) then (cPH h0).bind fun p => if top && (sc.names.lookup p.1 == some .local) && nmOk p.1 && phB c.cg sc p.1 p.2.1 p.2.2 then (ix c.N p.1).bind fun ie => (cBk c n sc fn true b).map fun u => .tryP ie u else none
      else if top && (sc.names.lookup (hdName (h0 :: hs)) == some .local) && nmOk (hdName (h0 :: hs)) then (ix c.N (hdName (h0 :: hs))).bind fun ie => (cBk c n sc fn true b).bind fun u => (cHds c.cg c.N sc fn (hdName (h0 :: hs)) (h0 :: hs)).map fun l => .tryS ie (List.range c.cg.cls.length) u l else none
    | _ => none
def cBk (c : Cp) : Nat → Scope → (Str → Bool) → Bool → List Stmt → Option S
  | 0, _, _, _, _ => none
  | _ + 1, _, _, _, [] => some .skip
  | n + 1, sc, fn, top, st :: r => (cBk c n sc fn top r).map fun b => .seq ((cSt c n sc fn top st).getD .bad) b
end
end Ip

set_option maxHeartbeats 4000000
namespace Ip
open PySem PySem.Spec PyProof.Rows L2
section
variable {ca : Nat → Addr} {F : Fn} {B : FnB} {cg : Cg} {k : Nat} {N : List Str} {n : Nat} {sc : Scope} {fn : Str → Bool} {X : Cx}
theorem k_frzs {t : TS} {s : S} (h : JK X ca t (exec F B s)) (mu : List Str) : ∀ xs : List Str, JK X ca t (exec F B (frzs N mu xs s))
  | [] => h
  | x :: xs => by
    have ih := k_frzs h mu xs
    show JK X ca t (exec F B (if mu.contains x = true then match ix N x with | some i => .seq (.frz i) (frzs N mu xs s) | none => frzs N mu xs s else frzs N mu xs s))
    split
    · split
      · rename_i i _
        exact k_frz i ih
      · exact ih
    · exact ih
theorem cls_of (x : XOk X ca F cg k N sc fn) {y : Str} {c : Nat} (h : ix cg.cls y = some c) : XcOk X.K X.mg y (ca c) ∧ c ∈ List.range cg.cls.length := by
  have := ix_get h
  exact ⟨x.cls c y this, List.mem_range.mpr (List.getElem?_eq_some_iff.mp this).1⟩
/-! except suites -/
theorem isx_ok (x : XOk X ca F cg k N sc fn) {n0 f a c : Str} {p1 p2 p3 pos : Pos} {i ie y : Nat} {at0 : Addr} {oe : Obj} {pn : List (Addr × Obj)} (hv0 : visB sc n0 = true) (hok : nmOk n0 = true) (hie : ix N n0 = some ie) (hc : (f == "isinstance" && glB sc f && a == n0 && glB sc c) = true) (hi : ix cg.cls c = some i)
    (S : Suite X ca (List.range cg.cls.length) y ie at0 oe) : HV (X.suite at0 ((at0, oe) :: pn)) y ie at0 (.Call (.Name f p1) [.Name a p2, .Name c p3] [] pos) (.isx i) := by
  rw [Bool.and_eq_true, Bool.and_eq_true, Bool.and_eq_true] at hc
  obtain ⟨⟨⟨h1, h2⟩, h3⟩, h4⟩ := hc
  have e1 := eq_of_beq h1
  have e3 := eq_of_beq h3
  subst e1 e3
  obtain ⟨n1, n2⟩ := nm_of hok
  obtain ⟨C, hm⟩ := cls_of x hi
  exact hv_isx (x.ix hie) (x.vis hv0) n1 n2 (x.gl h2) (mgB x) (x.gl h4) C S (S.k i hm)
theorem cHC_ok (x : XOk X ca F cg k N sc fn) {n0 : Str} {ie y : Nat} {at0 : Addr} {oe : Obj} {pn : List (Addr × Obj)} (hv0 : visB sc n0 = true) (hok : nmOk n0 = true) (hie : ix N n0 = some ie) (S : Suite X ca (List.range cg.cls.length) y ie at0 oe) :
    ∀ {n : Nat} {e : Expr} {h : HC}, cHC cg N sc n0 n e = some h → HT (X.suite at0 ((at0, oe) :: pn)) y ie at0 e h
  | n + 1, e, h, hc => by
    unfold cHC at hc
    split at hc
    · obtain ⟨h1, hc⟩ := oif hc
      obtain ⟨i, hi, rfl⟩ := omap hc
      exact ht_val rfl (isx_ok x hv0 hok hie h1 hi S)
    · obtain ⟨h1, hc⟩ := oif hc
      obtain ⟨i, hi, rfl⟩ := omap hc
      unfold slotB at h1
      rw [Bool.and_eq_true] at h1
      obtain ⟨n1, n2⟩ := nm_of h1.2
      exact ht_val rfl (hv_var (X := X.suite at0 ((at0, oe) :: pn)) (x.ix hi) (x.vis h1.1) n1 n2)
    · obtain ⟨h2, hh, rfl⟩ := omap hc
      exact ht_not (cHC_ok x hv0 hok hie S hh)
    · obtain ⟨a, ha, hc⟩ := obind hc
      obtain ⟨b, hb, hc⟩ := obind hc
      cases hc
      exact hw_t (hw_and (cHC_ok x hv0 hok hie S ha) (hw_and1 (cHC_ok x hv0 hok hie S hb)))
    · cases hc
theorem cHV_ok (x : XOk X ca F cg k N sc fn) {n0 : Str} {ie y : Nat} {at0 : Addr} {oe : Obj} {pn : List (Addr × Obj)} (hv0 : visB sc n0 = true) (hok : nmOk n0 = true) (hie : ix N n0 = some ie) (S : Suite X ca (List.range cg.cls.length) y ie at0 oe) :
    ∀ {n : Nat} {e : Expr} {h : HC}, cHV cg N sc n0 n e = some h → HV (X.suite at0 ((at0, oe) :: pn)) y ie at0 e h
  | n + 1, e, h, hc => by
    unfold cHV at hc
    split at hc
    · obtain ⟨h1, hc⟩ := oif hc
      obtain ⟨i, hi, rfl⟩ := omap hc
      exact isx_ok x hv0 hok hie h1 hi S
    · obtain ⟨a, ha, hc⟩ := obind hc
      obtain ⟨b, hb, hc⟩ := obind hc
      cases hc
      exact hv_or (cHV_ok x hv0 hok hie S ha) (hv_or1 (cHV_ok x hv0 hok hie S hb))
    · obtain ⟨a, ha, hc⟩ := obind hc
      obtain ⟨b, hb, hc⟩ := obind hc
      obtain ⟨c, hcc, hc⟩ := obind hc
      cases hc
      exact hv_or (cHV_ok x hv0 hok hie S ha) (hv_or (cHV_ok x hv0 hok hie S hb) (hv_or1 (cHV_ok x hv0 hok hie S hcc)))
    · cases hc
theorem ix_ne {N : List Str} {a b : Str} {i j : Nat} (h1 : ix N a = some i) (h2 : ix N b = some j) (h : (a == b) = false) : i ≠ j := fun e => by
  subst e
  have q1 := ix_get h1
  rw [ix_get h2] at q1
  cases q1
  rw [beq_self_eq_true] at h
  cases h
theorem cHS_ok (x : XOk X ca F cg k N sc fn) {n0 : Str} {ie y : Nat} {at0 : Addr} {oe : Obj} {pn : List (Addr × Obj)} (hv0 : visB sc n0 = true) (hok : nmOk n0 = true) (hie : ix N n0 = some ie) (S : Suite X ca (List.range cg.cls.length) y ie at0 oe) :
    ∀ (b : List Stmt) {h : HS}, cHS cg N sc fn n0 b = some h → HB (X.suite at0 ((at0, oe) :: pn)) y ie at0 b h := by
  intro b
  induction b with
  | nil => intro h hc; cases hc
  | cons st r ih =>
    intro h hc
    unfold cHS at hc
    split at hc
    · rename_i heq
      cases heq
      obtain ⟨h2, hh, rfl⟩ := omap hc
      exact hb_ret (cHC_ok x hv0 hok hie S hh)
    · rename_i heq
      cases heq
      obtain ⟨h1, hc⟩ := oif hc
      obtain ⟨i, hi, hc⟩ := obind hc
      obtain ⟨h2, hh, hc⟩ := obind hc
      obtain ⟨s, hs, rfl⟩ := omap hc
      rw [Bool.and_eq_true, Bool.and_eq_true] at h1
      obtain ⟨s1, s2⟩ := store_of x h1.1.1
      exact hb_asg (X := X.suite at0 ((at0, oe) :: pn)) (by rw [show (X.suite at0 ((at0, oe) :: pn)).N = N from x.nN]; exact x.nd) (x.ix hi) s1 s2 h1.2 (ix_ne hi hie (by simpa using h1.1.2)) (cHV_ok x hv0 hok hie S hh) (ih hs)
    · cases hc
theorem cHds_ok (x : XOk X ca F cg k N sc fn) {n0 : Str} {ie : Nat} (hv0 : visB sc n0 = true) (hok : nmOk n0 = true) (hie : ix N n0 = some ie) : ∀ {hds : List ExceptHandler} {l : List (Nat × HS)}, cHds cg N sc fn n0 hds = some l → ClsOk X ca (List.range cg.cls.length) ie n0 hds l ∧ ∀ p ∈ l, p.1 ∈ List.range cg.cls.length := by
  intro hds
  induction hds with
  | nil =>
    intro l h
    cases h
    exact ⟨.nil, fun p hp => by cases hp⟩
  | cons hd r ih =>
    intro l h
    unfold cHds at h
    split at h
    · rename_i heq; cases heq
    · rename_i y q1 m s0 ss q2 r' heq
      cases heq
      obtain ⟨h1, h⟩ := oif h
      obtain ⟨c, hcc, h⟩ := obind h
      obtain ⟨hh, hhs, h⟩ := obind h
      obtain ⟨l2, hl2, rfl⟩ := omap h
      rw [Bool.and_eq_true] at h1
      have em := eq_of_beq h1.1
      subst em
      obtain ⟨C, hm⟩ := cls_of x hcc
      obtain ⟨i1, i2⟩ := ih hl2
      refine ⟨.cons ⟨⟨y, s0, ss, _, _, rfl, ⟨x.gl h1.2, C.dbg, .inl C.g⟩, fun z at0 oe pn S => cHS_ok x hv0 hok hie S (s0 :: ss) hhs⟩⟩ i1, fun p hp => ?_⟩
      rcases List.mem_cons.mp hp with z | z
      · rw [z]; exact hm
      · exact i2 p z
    · cases h
end
end Ip

set_option maxHeartbeats 4000000
namespace Ip
open PySem PySem.Spec PyProof.Rows L2
def TopOk (X : Cx) : Prop := X.stack = X.env :: X.outer ∧ X.env.frame = some X.env.locals ∧ X.env.scope.kind = .function
structure SndS (ca : Nat → Addr) (F : Fn) (B : FnB) (c : Cp) (k : Nat) (n : Nat) : Prop where
  s : ∀ {sc fn top st s X}, cSt c n sc fn top st = some s → XOk X ca F c.cg k c.N sc fn → TopOk X → SJ X ca st (exec F B s)
  b : ∀ {sc fn top b s X}, cBk c n sc fn top b = some s → XOk X ca F c.cg k c.N sc fn → TopOk X → BJ X ca b (exec F B s)
section
variable {ca : Nat → Addr} {F : Fn} {B : FnB} {c : Cp} {k : Nat} {n : Nat} {sc : Scope} {fn : Str → Bool} {top : Bool} {X : Cx}
theorem snds_b (S : SndS ca F B c k n) {b : List Stmt} {s : Ip.S} (h : cBk c (n + 1) sc fn top b = some s) (x : XOk X ca F c.cg k c.N sc fn) (t : TopOk X) : BJ X ca b (exec F B s) := by
  cases b with
  | nil =>
    cases h
    exact k_nil
  | cons st r =>
    unfold cBk at h
    obtain ⟨b, hb, rfl⟩ := omap h
    refine k_cons ?_ (S.b hb x t)
    cases ha : cSt c n sc fn top st with
    | some a => exact S.s ha x t
    | none => exact fun ps Hb0 H0 g σ Hb H D W tk sat po => False.elim po
theorem XOk.tr (x : XOk X ca F c.cg k c.N sc fn) {pn : List (Addr × Obj)} {xe : Value → Shared → Prop} (hp : PassesOwn (model X.prog X.w) X.A X.env xe) : XOk (X.tr pn xe) ca F c.cg k c.N sc fn :=
  ⟨x.calm, x.nN, x.nd, x.sc, x.fn, x.room, hp, x.blt, fun i y h => ⟨(x.fns i y h).ex, (x.fns i y h).dbg⟩, x.cls, x.cns, x.kin, x.gs, x.sts, x.px⟩
theorem names_each {ts : List Expr} {kt : Nat} {pt : Pos} {env : Env} : (assignEach [.Tuple ts kt pt] env).map (·.2) = [assign (.Tuple ts kt pt) env] := rfl
theorem vis_local {sc : Scope} {y : Str} (lc : sc.names.lookup y = some .local) : visB sc y = true := by
  unfold visB
  rw [lc]
theorem swap_off {ts : List Expr} {e : Expr} {kt : Nat} {pt : Pos} {env : Env} (h : ∀ vs k2 p2, e ≠ .Tuple vs k2 p2) : swappedStores [.Tuple ts kt pt] e env = pure none := by
  cases e with
  | Tuple vs k2 p2 => exact absurd rfl (h vs k2 p2)
  | _ => rfl
/-- the parts of a comprehension that compiled -/
theorem comp_inv {m : Nat} {elt : Expr} {gs : List Comprehension} {scope : Scope} {pos : Pos} {z : E} (h : cE c.cg c.N m sc fn (.ListComp elt gs scope pos) = some z) (x : XOk X ca F c.cg k c.N sc fn) : ∃ tg iter ifs t fs ft fv, gs = [⟨tg, iter, ifs, 0⟩] ∧
    CompOk X ca scope (ownOf c.N scope) tg iter elt ifs t fs ft fv ∧ (run F z).v = fun g => (fs g).bind fun xs => (compL (compF t ((ownOf c.N scope).map (·.2)) ft fv g) xs).bind fun ys => .ok (.list ys) := by
  cases m with
  | zero => cases h
  | succ m =>
    unfold cE at h
    split at h <;> try (rename_i heq; cases heq; done)
    · rename_i heq
      cases heq
      obtain ⟨hc, h⟩ := oif h
      obtain ⟨s, h1, h⟩ := obind h
      obtain ⟨t, h2, h⟩ := obind h
      obtain ⟨h3, h⟩ := oif h
      obtain ⟨cc, h4, h⟩ := obind h
      obtain ⟨y, h5, h⟩ := obind h
      cases h
      rw [Bool.and_eq_true] at hc
      exact ⟨_, _, _, _, _, _, _, rfl, comp_of (snd_all m) x hc.1 hc.2 h1 h2 h3 h4 h5, rfl⟩
    · cases h
theorem new_lst {m : Nat} {es : List Expr} {pos : Pos} {z : E} (h : cE c.cg c.N m sc fn (.List es pos) = some z) (x : XOk X ca F c.cg k c.N sc fn) : JL X ca (tE X (.List es pos)) (run F z).v := by
  cases m with
  | zero => cases h
  | succ m =>
    unfold cE at h
    obtain ⟨hl, h⟩ := oif h
    obtain ⟨a, ha, rfl⟩ := omap h
    obtain ⟨a1, a2, a3⟩ := (snd_all m).a ha x
    exact (jf_lst a1 fun g ds e => by rw [a3 g ds e]; exact Nat.le_trans hl (by decide)).l
theorem new_bin {m : Nat} {a b : Expr} {op : Operator} {pos : Pos} {z : E} (h : cE c.cg c.N m sc fn (.BinOp a op b pos) = some z) (x : XOk X ca F c.cg k c.N sc fn) (ho : op = .Add ∨ op = .Mult) : JL X ca (tE X (.BinOp a op b pos)) (run F z).v := by
  cases m with
  | zero => cases h
  | succ m =>
    unfold cE at h
    obtain ⟨o, ho', h⟩ := obind h
    obtain ⟨y, hy, h⟩ := obind h
    obtain ⟨w, hw, h⟩ := obind h
    cases h
    rcases ho with e | e
    · subst e
      cases ho'
      exact jl_add ((snd_all m).e hy x).r ((snd_all m).e hw x).r
    · subst e
      cases ho'
      exact jl_mul ((snd_all m).e hy x).r ((snd_all m).e hw x).r
theorem new_list {m : Nat} {a : Expr} {p pos : Pos} {z : E} (h : cE c.cg c.N m sc fn (.Call (.Name "list" p) [a] [] pos) = some z) (x : XOk X ca F c.cg k c.N sc fn) : JL X ca (tE X (.Call (.Name "list" p) [a] [] pos)) (run F z).v := by
  cases m with
  | zero => cases h
  | succ m =>
    unfold cE at h
    obtain ⟨hc, h⟩ := oif h
    rw [Bool.and_eq_true] at hc
    have hst : notStar a = true := by
      have := hc.2
      unfold noStars at this
      rw [List.all_cons, Bool.and_eq_true] at this
      exact this.1
    split at h
    · rename_i j hj
      obtain ⟨fa, fd, ps, hm, _⟩ := (x.fns j _ (ix_get hj)).ex
      rw [mgB x] at hm
      cases hm
    · split at h
      · rename_i b y hsp
        obtain ⟨w, hw, rfl⟩ := omap h
        obtain ⟨g, p2, q2, rfl, _, hg, hs, hb⟩ := spec_of hsp
        obtain ⟨c1, c2⟩ := spec_list hb
        subst c1 c2
        exact (jf_lrng x.calm (x.gl hc.1) (mgB x) (x.gl hg) (mgB x) hs ((snd_all m).e hw x).r).l
      rw [if_neg (by decide +kernel)] at h
      obtain ⟨b, hb, h⟩ := obind h
      have eb : b = .list := by
        have : ∀ gs : Bool, bltOf gs "list" ([] : List Expr).length.succ = some .list := by decide +kernel
        have := this c.cg.gs
        exact Option.some.inj (hb.symm.trans this)
      subst eb
      obtain ⟨y, hy, rfl⟩ := omap h
      cases m with
      | zero => cases hy
      | succ m =>
        unfold cA at hy
        obtain ⟨hs, hy⟩ := oif hy
        obtain ⟨w, hw, hy⟩ := obind hy
        obtain ⟨r, hr, hy⟩ := obind hy
        cases hy
        cases m with
        | zero => cases hr
        | succ m =>
          cases hr
          have J := (jl_list (pos := pos) (p := p) (fb' := (run F w).r) (x.gl hc.1) (mgB x) hst ((snd_all (m + 1)).e hw x).r).l
          have ee : (fun g => ((run F w).r g).bind fun d => listF [d]) = (run F (.bl .list (.cons w .nil))).v := by
            funext g
            show _ = (((run F w).r g).bind fun x => (Rs.ok (PyData.tuple [])).bind (consD x)).bind (argsD listF)
            cases (run F w).r g <;> rfl
          rw [ee] at J
          exact J
theorem snds_s (S : SndS ca F B c k n) {st : Stmt} {s : Ip.S} (h : cSt c (n + 1) sc fn top st = some s) (x : XOk X ca F c.cg k c.N sc fn) (t : TopOk X) : SJ X ca st (exec F B s) := by
  have Sn : Snd ca F c.cg k c.N n := snd_all n
  have nd : X.N.Nodup := by rw [x.nN]; exact x.nd
  unfold cSt at h
  split at h
  · cases h; exact k_pass
  · cases h; exact k_brk
  · cases h; exact k_cnt
  · cases h; exact k_doc
  · -- a method of one's own list
    obtain ⟨h1, h⟩ := oif h
    obtain ⟨i, hi, h⟩ := obind h
    obtain ⟨y, hy, h⟩ := obind h
    unfold slotB at h1
    rw [Bool.and_eq_true, Bool.and_eq_true, Bool.and_eq_true] at h1
    obtain ⟨⟨⟨v1, v2⟩, hs⟩, hl⟩ := h1
    obtain ⟨n1, n2⟩ := nm_of v2
    split at h
    · rename_i hm
      cases h
      have em := eq_of_beq hm
      subst em
      exact k_frzs (s := .app i y) (k_app (x.ix hi) (x.vis v1) n1 n2 hs hl (Sn.e hy x).v) _ _
    · split at h
      · rename_i hm
        cases h
        have em := eq_of_beq hm
        subst em
        exact k_frzs (s := .ext i y) (k_ext (x.ix hi) (x.vis v1) n1 n2 hs hl (Sn.e hy x).v) _ _
      · cases h
  · obtain ⟨h1, h⟩ := oif h
    obtain ⟨y, hy, rfl⟩ := omap h
    exact k_frzs (s := .exp y) (k_exp h1 (Sn.e hy x).v) _ _
  · obtain ⟨y, hy, rfl⟩ := omap h
    exact k_frzs (s := .ret y) (k_ret (Sn.e hy x).v) _ _
  · cases h
    exact k_retN
  · -- name = value
    rename_i y px e pos
    obtain ⟨h1, h⟩ := oif h
    obtain ⟨i, hi, h⟩ := obind h
    obtain ⟨z, hz, h⟩ := obind h
    rw [Bool.and_eq_true] at h1
    obtain ⟨s1, s2⟩ := store_of x h1.1
    have hlc := h1.2
    by_cases hcomp : ∃ elt gs scope cp, e = .ListComp elt gs scope cp
    · obtain ⟨elt, gs, scope, cp, rfl⟩ := hcomp
      obtain ⟨tg, iter, ifs, ct, fs, ft, fv, rfl, C, ev⟩ := comp_inv hz x
      have key : ∃ t : TE, PS X (.Assign [.Name y px] (.ListComp elt [⟨tg, iter, ifs, 0⟩] scope cp) pos) (tAsg t (gName i)) ∧ JF X ca t (run F z).v := by
        by_cases hl : (sc.names.lookup y == some .local) = true
        · unfold lcB at hlc
          dsimp only at hlc
          rw [if_pos hl, Bool.and_eq_true, Bool.and_eq_true] at hlc
          have hl2 := eq_of_beq hl
          have sw : swapsWith (.ListComp elt [⟨tg, iter, ifs, 0⟩] scope cp) (some (.Name y px)) pos.line X.env = pure true := sw_true t.2.2 (by rw [x.sc]; exact hl2) hlc.2.1 (by simpa using hlc.2.2)
          obtain ⟨tt, p1, p2⟩ := k_setLc (x.ix hi) (by rw [x.sc]; exact hl2) sw C
          exact ⟨tt, p1, by rw [ev]; exact p2⟩
        · exact ⟨_, ps_set nd (x.ix hi) s1 pe_tE (sw_false (by rw [x.sc]; simpa using hl)) s2, by rw [ev]; exact j_compF C⟩
      obtain ⟨tt, p1, p2⟩ := key
      split at h
      · cases h
        exact k_frzs (s := .own i z) (k_own p1 p2.l) _ _
      · cases h
        exact k_frzs (s := .asg (.nm i) z) (k_asgT p1 p2.v) _ _
    · have hn : notComp e = true := by
        cases e with
        | ListComp elt gs scope cp => exact absurd ⟨elt, gs, scope, cp, rfl⟩ hcomp
        | SetComp _ _ _ _ => cases hlc
        | DictComp _ _ _ _ _ => cases hlc
        | _ => rfl
      split at h
      · rename_i hm
        cases h
        rw [Bool.and_eq_true] at hm
        refine k_frzs (s := .own i z) (k_own (ps_set nd (x.ix hi) s1 pe_tE (swaps_no hn) s2) ?_) _ _
        have hf := hm.2
        unfold fresh at hf
        split at hf
        · exact new_lst hz x
        · cases hn
        · exact new_bin hz x (.inl rfl)
        · exact new_bin hz x (.inr rfl)
        · have ef := eq_of_beq hf
          subst ef
          exact new_list hz x
        · cases hf
      · cases h
        exact k_frzs (s := .asg (.nm i) z) (k_set nd (x.ix hi) s1 s2 (swaps_no hn) (Sn.e hz x).v) _ _
  · -- x[j] = e
    obtain ⟨h1, h⟩ := oif h
    obtain ⟨i, hi, h⟩ := obind h
    obtain ⟨y, hy, h⟩ := obind h
    obtain ⟨z, hz, rfl⟩ := omap h
    unfold slotB at h1
    rw [Bool.and_eq_true, Bool.and_eq_true, Bool.and_eq_true] at h1
    obtain ⟨⟨⟨v1, v2⟩, hp⟩, hn⟩ := h1
    obtain ⟨n1, n2⟩ := nm_of v2
    exact k_frzs (s := .setI i z y) (k_setL (x.ix hi) (x.vis v1) n1 n2 hn hp (Sn.e hy x).v (Sn.e hz x).v) _ _
  · -- a, b = e
    rename_i ts kt pt e pos
    obtain ⟨tg, ht, h⟩ := obind h
    obtain ⟨h1, h⟩ := oif h
    obtain ⟨y, hy, rfl⟩ := omap h
    rw [Bool.and_eq_true] at h1
    refine k_frzs (s := .asg tg y) ?_ _ _
    by_cases he : ∃ vs k2 p2, e = .Tuple vs k2 p2
    · obtain ⟨vs, k2, p2, rfl⟩ := he
      have hp := h1.2
      unfold parB at hp
      dsimp only at hp
      split at hp
      · rename_i a px b py va vb _ _
        split at hp
        · rename_i hl
          rw [Bool.and_eq_true] at hl
          rw [Bool.and_eq_true, Bool.and_eq_true, Bool.and_eq_true, Bool.and_eq_true] at hp
          obtain ⟨⟨⟨⟨q1, q2⟩, q3⟩, q4⟩, q5⟩ := hp
          have lx : X.env.scope.names.lookup a = some .local := by rw [x.sc]; exact eq_of_beq hl.1
          have ly : X.env.scope.names.lookup b = some .local := by rw [x.sc]; exact eq_of_beq hl.2
          have q1 : (a == b) = false := by simpa using q1
          have q5 : foldB [va, vb] = false := by simpa using q5
          cases n with
          | zero => cases ht
          | succ m =>
            unfold cT at ht
            obtain ⟨ta, hta, ht⟩ := obind ht
            obtain ⟨tb, htb, ht⟩ := obind ht
            cases ht
            cases m with
            | zero => cases hta
            | succ m =>
              unfold cT at hta htb
              obtain ⟨_, hta⟩ := oif hta
              obtain ⟨_, htb⟩ := oif htb
              obtain ⟨i, hi, rfl⟩ := omap hta
              obtain ⟨j, hj, rfl⟩ := omap htb
              unfold cE at hy
              obtain ⟨_, hy⟩ := oif hy
              obtain ⟨ya, hya, rfl⟩ := omap hy
              exact k_par x.calm nd (x.ix hi) (x.ix hj) (ix_ne hi hj q1) lx ly ((snd_all (m + 1)).a hya x).1 (swap_two t.2.2 lx ly q1 q2 q3 q4 q5)
        · rename_i hl
          exact k_asg (cT_ok ht x) h1.1 (swap_none (by rw [x.sc]; simpa using hl)) (Sn.e hy x).v names_each
      · cases hp
    · exact k_asg (cT_ok ht x) h1.1 (swap_off fun vs k2 p2 z => he ⟨vs, k2, p2, z⟩) (Sn.e hy x).v names_each
  · obtain ⟨y, hy, h⟩ := obind h
    obtain ⟨u, hu, h⟩ := obind h
    obtain ⟨v, hv, rfl⟩ := omap h
    exact k_frzs (s := .ifS y u v) (k_if (Sn.e hy x).t (S.b hu x t) (S.b hv x t)) _ _
  · obtain ⟨h1, h⟩ := oif h
    obtain ⟨tg, ht, h⟩ := obind h
    obtain ⟨y, hy, h⟩ := obind h
    obtain ⟨u, hu, rfl⟩ := omap h
    exact k_frzs (s := .forS tg y u) (k_for x.po x.calm (Sn.s hy x) (cT_ok ht x) (S.b hu x t) (fold_of h1)) _ _
  · obtain ⟨y, hy, h⟩ := obind h
    obtain ⟨u, hu, rfl⟩ := omap h
    exact k_whl x.po (Sn.e hy x).t (S.b hu x t)
  · obtain ⟨h1, h⟩ := oif h
    obtain ⟨cc, hc, rfl⟩ := omap h
    exact k_rai x.calm (x.gl h1) (cls_of x hc).1 (by have := x.kin.lt cc (cls_of x hc).2; omega)
  · obtain ⟨h1, h⟩ := oif h
    obtain ⟨y, hy, rfl⟩ := omap h
    rw [Bool.and_eq_true, Bool.and_eq_true, Bool.and_eq_true] at h1
    obtain ⟨e1, e2, e3, e4⟩ := h1
    have e1 := eq_of_beq e1
    subst e1
    exact k_raiP x.calm x.room (x.gl e3) (x.px e2) e4 (Sn.e hy x).v
  · rename_i b h0 hs pos
    by_cases hpx : (c.cg.px && (hs.isEmpty && (cPH h0).isSome)) = true
    · rw [if_pos hpx] at h
      obtain ⟨⟨n0, cG, cI⟩, hp, h⟩ := obind h
      obtain ⟨h1, h⟩ := oif h
      obtain ⟨ie, hie, h⟩ := obind h
      obtain ⟨u, hu, rfl⟩ := omap h
      rw [Bool.and_eq_true, Bool.and_eq_true] at hpx
      obtain ⟨hx, he, _⟩ := hpx
      obtain rfl : hs = [] := List.isEmpty_iff.mp he
      obtain ⟨q1, q2, j1, j2, r1, r2, r3, r4, r5, r6, r7, r8, r9, r10, r11, r12, r13, r14, r15, r16, r17, r18, rfl⟩ := cPH_ok hp
      rw [Bool.and_eq_true, Bool.and_eq_true, Bool.and_eq_true] at h1
      obtain ⟨⟨⟨_, lc⟩, nm⟩, ph⟩ := h1
      unfold phB at ph
      rw [Bool.and_eq_true, Bool.and_eq_true, Bool.and_eq_true, Bool.and_eq_true, Bool.and_eq_true] at ph
      obtain ⟨g1, g2, g3, g4, c0, c1⟩ := ph
      have lc := eq_of_beq lc
      have c0 : ix c.cg.cls cG = some 0 := eq_of_beq c0
      have hv := vis_local lc
      obtain ⟨n1, n2⟩ := nm_of nm
      cases hI : ix c.cg.cls cI with
      | none => rw [hI] at c1; cases c1
      | some m =>
        rw [hI] at c1
        have C0 := cls_of x c0
        have C1 := cls_of x hI
        have hne : m ≠ 0 := fun z => by subst z; cases c1
        exact k_tryP t.1 t.2.1 nd (x.ix hie) (by unfold Env.kindOf; rw [x.sc]; exact lc) (x.vis hv) n1 n2 (x.gl g1) (mgB x) (x.gl g2) (x.px hx) (x.gl g3) C0.1.g C0.1.dbg (List.mem_range.mp C0.2) (x.gl g4) C1.1.g C1.1.dbg (List.mem_range.mp C1.2) hne
          (fun pn xe hp => S.b hu (x.tr hp) ⟨t.1, t.2.1, t.2.2⟩)
    rw [if_neg hpx] at h
    obtain ⟨h1, h⟩ := oif h
    obtain ⟨ie, hie, h⟩ := obind h
    obtain ⟨u, hu, h⟩ := obind h
    obtain ⟨l, hl, rfl⟩ := omap h
    rw [Bool.and_eq_true, Bool.and_eq_true] at h1
    obtain ⟨⟨_, lc⟩, nm⟩ := h1
    have lc := eq_of_beq lc
    have hv := vis_local lc
    obtain ⟨k1, k2⟩ := cHds_ok x hv nm hie hl
    exact k_try t.1 t.2.1 nd (x.ix hie) (by unfold Env.kindOf; rw [x.sc]; exact lc) x.kin k2 (fun pn xe hp => S.b hu (x.tr hp) ⟨t.1, t.2.1, t.2.2⟩) k1
  · cases h
theorem snds_all : ∀ n, SndS ca F B c k n
  | 0 => ⟨fun h _ _ => (by cases h), fun h _ _ => (by cases h)⟩
  | n + 1 => have S := snds_all n; ⟨fun h x t => snds_s S h x t, fun h x t => snds_b S h x t⟩
end
end Ip

set_option maxHeartbeats 4000000
namespace Ip
open PySem PySem.Spec PyProof.Rows L2
/-! ### a def by its body -/
def startG (N : List Str) (ds : List D) : Ga := ds.map (fun d => some (Sl.v d)) ++ List.replicate (N.length - ds.length) none
def fnRes : Out → Rs D
  | .rt d _ => .ok d
  | .nx _ => .ok .none
  | .ex c _ => .ex c
  | _ => .bad
/-- what a def's body gives -/
def sem (F : Fn) (B : FnB) (N : List Str) (n : Nat) (s : S) (ds : List D) : Rs D := if ds.length = n then fnRes (exec F B s (startG N ds)) else .bad
/-- the module: its defs (promises by data), classes, numbers -/
structure WOk (P : Program) (w : World) (K : PySem.W.Frag) (mg : Str → Option Value) (base : Heap) (ca : Nat → Addr) (F : Fn) (cg : Cg) (k : Nat) : Prop where
  blt : ∀ b ∈ bltNames, mg b = none
  fns : ∀ i x, cg.fns[i]? = some x → (∃ fa fd ps, mg x = some (.ref fa) ∧ PySem.W.keepIn K (.ref fa) = true ∧ Binds K fd ps [] ∧ FnOk P w K mg base (L2.CX P w) k fa fd ps (spD K ca ps.length (F i)) ∧ ∀ ds, F i ds ≠ .bad → ds.length = ps.length) ∧ (x == ("__debug__" : Str)) = false
  cls : ∀ c x, cg.cls[c]? = some x → XcOk K mg x (ca c)
  cns : ∀ x n, cg.cns.lookup x = some n → (∃ t, mg x = some (.int n t)) ∧ (x == ("__debug__" : Str)) = false
  kin : Kin K ca (List.range cg.cls.length)
  gs : cg.gs = false
  sts : ∀ x s, cg.sts.lookup x = some s → (∃ t, mg x = some (.str s t)) ∧ (x == ("__debug__" : Str)) = false
  px : cg.px = true → PxF P w K mg base (ca 999) ca cg.cls.length 2
theorem PxF.mono {P : Program} {w : World} {K : PySem.W.Frag} {mg : Str → Option Value} {base : Heap} {C : Addr} {ca : Nat → Addr} {nc k k' : Nat} (x : PxF P w K mg base C ca nc k) (h : k ≤ k') : PxF P w K mg base C ca nc k' := by
  obtain ⟨fI, fd, j, hj, r⟩ := x.init
  exact ⟨x.g, x.c, ⟨fI, fd, j, Nat.le_trans hj h, r⟩, x.xf, x.no, x.ask, x.kit, x.exm⟩
section
variable {P : Program} {w : World} {K : PySem.W.Frag} {mg : Str → Option Value} {base : Heap} {ca : Nat → Addr} {F : Fn} {B : FnB} {cg : Cg} {k : Nat}
theorem startG_get {N : List Str} {ds : List D} {i : Nat} {s : Sl} (h : (startG N ds)[i]? = some (some s)) : ∃ d, ds[i]? = some d ∧ s = .v d := by
  unfold startG at h
  by_cases hi : i < ds.length
  · rw [List.getElem?_append_left (by rw [List.length_map]; exact hi), List.getElem?_map] at h
    cases q : ds[i]? with
    | none => rw [q] at h; cases h
    | some d => rw [q] at h; cases h; exact ⟨d, rfl, rfl⟩
  · rw [List.getElem?_append_right (by rw [List.length_map]; omega), List.getElem?_replicate] at h
    split at h <;> cases h
theorem sat_start {N : List Str} {Hb H : Hp} {vs : List V} {ds : List D} (sm : Same Hb H) (ra : RpAll K Hb vs ds) : Sat K [] Hb H (startG N ds) (L2.start N vs) Hb H := by
  have hl := ra.length
  refine ⟨.refl sm, ?_, fun i d e => ?_, fun i b es e => ?_, fun i b kvs e => ?_, fun i j s t p e1 e2 o1 o2 _ _ => ?_⟩
  · unfold L2.start startG
    rw [List.length_append, List.length_append, List.length_map, List.length_map, List.length_replicate, List.length_replicate, hl]
  · obtain ⟨d', h1, h2⟩ := startG_get e
    cases h2
    obtain ⟨v, h3, h4⟩ := ra.get h1
    refine ⟨v, ?_, h4⟩
    have hi : i < vs.length := (List.getElem?_eq_some_iff.mp h3).1
    unfold L2.start
    rw [List.getElem?_append_left (by rw [List.length_map]; exact hi), List.getElem?_map, h3]
    rfl
  · obtain ⟨d', h1, h2⟩ := startG_get e
    cases h2
  · obtain ⟨d', h1, h2⟩ := startG_get e
    cases h2
  · obtain ⟨d', h1, h2⟩ := startG_get e1
    subst h2
    cases o1
/-- THE RULE: a def whose body compiles keeps what `sem` says -/
theorem def_ok {x qual : Str} {st : Stmt} {f : Addr} {fd : FuncData} {N ps : List Str} {mu : List Str} {n : Nat} {s : S} {b : Bool} (Fu : Fun K x qual st f fd) (Sc : FnScope N ps (defScope st)) (Wd : WOk P w K mg base ca F cg k)
    (hb : b = true → cg.px = true ∧ 2 ≤ k) (hc : cBk ⟨{ cg with px := b }, N, mu⟩ n (defScope st) (fun _ => true) true (defBody st) = some s) : FnOk P w K mg base (L2.CX P w) (k + 1) f fd ps (spD K ca ps.length (sem F B N ps.length s)) := by
  refine Fu.okX Sc (fun vs H Q E h => h.1) fun cdv A outer s0 H vs Q E hr h => ⟨tBk _ _, pss_tBk, ?_⟩
  obtain ⟨hl, Hb, ds, sm, ra, po⟩ := h
  have hld : ds.length = ps.length := by rw [← ra.length]; exact hl
  unfold sem at po
  rw [if_pos hld] at po
  have xo : XOk (cxOf (L2.CX P w) P w K mg base N qual (defScope st) f cdv A outer s0 H E) ca F { cg with px := b } k N (defScope st) (fun _ => true) :=
    ⟨rfl, rfl, Sc.nd, rfl, rfl, hr, passes_of rfl, Wd.blt, fun i y e => ⟨(Wd.fns i y e).1, (Wd.fns i y e).2⟩, Wd.cls, Wd.cns, Wd.kin, fun z => (by rw [Wd.gs] at z; cases z), Wd.sts, fun z => (Wd.px (hb z).1).mono (hb z).2⟩
  refine (snds_all (B := B) (c := ⟨{ cg with px := b }, N, mu⟩) n).b hc xo ⟨rfl, rfl, Sc.kind⟩ [] Hb H _ _ Hb H _ (fun cls d _ H => E cls d H) (takes_of rfl rfl rfl rfl) (sat_start sm ra) ?_
  cases ho : exec F B s (startG N ds) with
  | nx g => rw [ho] at po; exact fun σ' Hb' H' s' => po .non Hb' H' s'.gr .non
  | rt d g => rw [ho] at po; exact fun v σ' Hb' H' s' r => po v Hb' H' s'.gr r
  | ex c g => rw [ho] at po; exact fun σ' Hb' H' s' => po Hb' H' s'.gr
  | bk g => rw [ho] at po; exact False.elim po
  | ct g => rw [ho] at po; exact False.elim po
  | bad => rw [ho] at po; exact False.elim po
/-- a mirror in its place -/
theorem spD_imp {n : Nat} {f f' : List D → Rs D} {fa : Addr} {fd : FuncData} {ps : List Str} (G : FnOk P w K mg base (L2.CX P w) k fa fd ps (spD K ca n f)) (h : ∀ ds, f' ds ≠ .bad → f ds = f' ds) : FnOk P w K mg base (L2.CX P w) k fa fd ps (spD K ca n f') :=
  G.imp fun vs H Q E z => ⟨z.1, by
    obtain ⟨_, Hb, ds, sm, ra, po⟩ := z
    exact ⟨Hb, ds, sm, ra, by rw [h ds (po_nb po)]; exact po⟩⟩
end
end Ip

set_option maxHeartbeats 4000000
namespace Ip
open PySem PySem.Spec PyProof.Rows L2
/-! ### a module: its defs in order, each by its body or by hand -/
inductive Df where
  | ir (N : List Str) (n : Nat) (s : S) | fn (n : Nat) (f : List D → Rs D)
def nB : FnB := fun _ _ => .bad
def Df.n : Df → Nat
  | .ir _ n _ => n
  | .fn n _ => n
/-- what one def means, the defs before it given -/
def dfV (F : Fn) : Df → List D → Rs D
  | .ir N n s, a => sem F nB N n s a
  | .fn n f, a => if a.length = n then f a else .bad
def FF (ds : List Df) : Nat → Fn
  | 0 => fun _ _ => .bad
  | j + 1 => fun i a => if i = j then (match ds[j]? with
    | some d => dfV (FF ds j) d a
    | none => .bad) else FF ds j i a
theorem FF_ge {ds : List Df} : ∀ {j i : Nat} {a : List D}, j ≤ i → FF ds j i a = .bad
  | 0, _, _, _ => rfl
  | j + 1, i, a, h => by
    show (if i = j then _ else FF ds j i a) = .bad
    rw [if_neg (by omega)]
    exact FF_ge (by omega)
theorem FF_eq {ds : List Df} {i : Nat} {d : Df} (h : ds[i]? = some d) : ∀ {j : Nat}, i < j → FF ds j i = dfV (FF ds i) d
  | j + 1, hj => by
    funext a
    show (if i = j then _ else FF ds j i a) = _
    by_cases e : i = j
    · subst e
      rw [if_pos rfl, h]
    · rw [if_neg e, FF_eq h (by omega)]
theorem dfV_len {F : Fn} {d : Df} {a : List D} (h : dfV F d a ≠ .bad) : a.length = d.n := by
  cases d with
  | ir N n s =>
    by_cases e : a.length = n
    · exact e
    · exact absurd (show (if a.length = n then fnRes (exec F nB s (startG N a)) else .bad) = .bad from if_neg e) h
  | fn n f =>
    by_cases e : a.length = n
    · exact e
    · exact absurd (show (if a.length = n then f a else .bad) = .bad from if_neg e) h
section
variable {P : Program} {w : World} {K : PySem.W.Frag} {mg : Str → Option Value} {base : Heap} {ca : Nat → Addr} {cg : Cg} {ds : List Df} {k : Nat}
/-- what is to be known of one def: by its body … -/
inductive DefF (P : Program) (w : World) (K : PySem.W.Frag) (mg : Str → Option Value) (base : Heap) (ca : Nat → Addr) (cg : Cg) (ds : List Df) (i : Nat) (x : Str) : Df → Prop
  | ir {N mu ps : List Str} {n m : Nat} {s : S} {b : Bool} {st : Stmt} {fa : Addr} {fd : FuncData} : mg x = some (.ref fa) → Fun K x x st fa fd → Binds K fd ps [] → FnScope N ps (defScope st) → ps.length = n → (x == ("__debug__" : Str)) = false →
      (b = true → cg.px = true ∧ 2 ≤ i) → cBk ⟨{ cg with px := b }, N, mu⟩ m (defScope st) (fun _ => true) true (defBody st) = some s → DefF P w K mg base ca cg ds i x (.ir N n s)
  | fn {ps : List Str} {n : Nat} {f : List D → Rs D} {fa : Addr} {fd : FuncData} : mg x = some (.ref fa) → PySem.W.keepIn K (.ref fa) = true → Binds K fd ps [] → ps.length = n → (x == ("__debug__" : Str)) = false →
      (WOk P w K mg base ca (FF ds i) cg i → FnOk P w K mg base (L2.CX P w) (i + 1) fa fd ps (spD K ca n f)) → DefF P w K mg base ca cg ds i x (.fn n f)
theorem bad_ok {f : Addr} {fd : FuncData} {ps : List Str} {g : List D → Rs D} (h : ∀ a, g a = .bad) : FnOk P w K mg base (L2.CX P w) k f fd ps (spD K ca ps.length g) := by
  refine ⟨fun vs H Q E z => z.1, fun A outer s H args us vs Q E hr he hb hv z => ?_⟩
  obtain ⟨_, Hb, ds, _, _, po⟩ := z
  rw [h] at po
  exact False.elim po
theorem module_ok (hl : ds.length = cg.fns.length) (hf : ∀ i x d, cg.fns[i]? = some x → ds[i]? = some d → DefF P w K mg base ca cg ds i x d) (blt : ∀ b ∈ bltNames, mg b = none) (cls : ∀ c x, cg.cls[c]? = some x → XcOk K mg x (ca c))
    (cns : ∀ x n, cg.cns.lookup x = some n → (∃ t, mg x = some (.int n t)) ∧ (x == ("__debug__" : Str)) = false) (kin : Kin K ca (List.range cg.cls.length)) (gs : cg.gs = false) (sts : ∀ x s, cg.sts.lookup x = some s → (∃ t, mg x = some (.str s t)) ∧ (x == ("__debug__" : Str)) = false)
    (px : cg.px = true → PxF P w K mg base (ca 999) ca cg.cls.length 2) : ∀ j, WOk P w K mg base ca (FF ds j) cg j := by
  intro j
  induction j with
  | zero =>
    refine ⟨blt, fun i x e => ?_, cls, cns, kin, gs, sts, px⟩
    obtain ⟨d, hd⟩ : ∃ d, ds[i]? = some d := by
      have := (List.getElem?_eq_some_iff.mp e).1
      exact ⟨ds[i]'(by omega), List.getElem?_eq_getElem (by omega)⟩
    cases hf i x d e hd with
    | ir h1 h2 h3 h4 h5 h6 hb h7 => exact ⟨⟨_, _, _, h1, h2.kp, h3, bad_ok fun _ => rfl, fun _ z => absurd rfl z⟩, h6⟩
    | fn h1 h2 h3 h4 h5 h6 => exact ⟨⟨_, _, _, h1, h2, h3, bad_ok fun _ => rfl, fun _ z => absurd rfl z⟩, h5⟩
  | succ j ih =>
    refine ⟨blt, fun i x e => ?_, cls, cns, kin, gs, sts, px⟩
    obtain ⟨d, hd⟩ : ∃ d, ds[i]? = some d := by
      have := (List.getElem?_eq_some_iff.mp e).1
      exact ⟨ds[i]'(by omega), List.getElem?_eq_getElem (by omega)⟩
    rcases Nat.lt_trichotomy i j with h | h | h
    · obtain ⟨⟨fa, fd, ps, h1, h2, h3, h4, h5⟩, h6⟩ := ih.fns i x e
      have q : FF ds (j + 1) i = FF ds j i := by rw [FF_eq hd (by omega), FF_eq hd h]
      rw [q]
      exact ⟨⟨fa, fd, ps, h1, h2, h3, h4.mono (Nat.le_succ _), h5⟩, h6⟩
    · subst h
      rw [FF_eq hd (Nat.lt_succ_self _)]
      cases hf i x d e hd with
      | @ir N mu ps n m s b st fa fd h1 h2 h3 h4 h5 h6 hb h7 =>
        subst h5
        exact ⟨⟨_, _, ps, h1, h2.kp, h3, def_ok h2 h4 ih hb h7, fun a z => dfV_len z⟩, h6⟩
      | @fn ps n f fa fd h1 h2 h3 h4 h5 h6 =>
        subst h4
        refine ⟨⟨_, _, ps, h1, h2, h3, spD_imp (h6 ih) fun a z => ?_, fun a z => dfV_len z⟩, h5⟩
        by_cases e : a.length = ps.length
        · exact (show (if a.length = ps.length then f a else .bad) = f a from if_pos e).symm
        · exact absurd (show (if a.length = ps.length then f a else .bad) = .bad from if_neg e) z
    · obtain ⟨⟨fa, fd, ps, h1, h2, h3, h4, h5⟩, h6⟩ := ih.fns i x e
      refine ⟨⟨fa, fd, ps, h1, h2, h3, bad_ok fun a => FF_ge (by omega), fun a z => absurd (FF_ge (by omega)) z⟩, h6⟩
/-- the law's own promise -/
def spLaw (K : PySem.W.Frag) : Sp := fun vs H Q _ => ∃ (a : Addr) (ns : List Int), vs = [.ref a] ∧ SqL K H a (ns.map V.int) ∧ ns.length ≤ 63 ∧ ∀ H', Q (.bl true) H'
theorem law_ok {f : List D → Rs D} {fa : Addr} {fd : FuncData} {x : Str} (G : FnOk P w K mg base (L2.CX P w) k fa fd [x] (spD K ca 1 f)) (h : ∀ ns : List Int, ns.length ≤ 63 → f [scrD ns] = .ok (.bool true)) : FnOk P w K mg base (L2.CX P w) k fa fd [x] (spLaw K) :=
  G.imp fun vs H Q E z => by
    obtain ⟨a, ns, rfl, hs, hl, q⟩ := z
    refine ⟨rfl, H, [scrD ns], Same.refl _, .cons (.scr hs) .nil, ?_⟩
    rw [h ns hl]
    intro v Hb' H' g r
    have r : Rp K Hb' v (.bool true) := r
    cases r
    exact q H'
end
end Ip

set_option maxHeartbeats 4000000
namespace Ip
open PySem PySem.Spec PyProof.Rows L2
/-! ### what the top has written, read off by one check -/
def isB (b : Bool) : Option Bool → Bool
  | some c => c == b
  | none => false
theorem isB_of {b : Bool} {o : Option Bool} (h : isB b o = true) : o = some b := by
  cases o with
  | none => cases h
  | some c => rw [show c = b from eq_of_beq h]
def isTyp (s : String) : Option Value → Bool
  | some (.type t) => t == s
  | _ => false
theorem isTyp_of {s : String} {o : Option Value} (h : isTyp s o = true) : o = some (.type s) := by
  unfold isTyp at h
  split at h
  · rw [show _ = s from eq_of_beq h]
  · cases h
def isBlt (s : String) : Option (Option Value) → Bool
  | some (some (.builtin t)) => t == s
  | _ => false
theorem isBlt_of {s : String} {o : Option (Option Value)} (h : isBlt s o = true) : o = some (some (.builtin s)) := by
  unfold isBlt at h
  split at h
  · rw [show _ = s from eq_of_beq h]
  · cases h
def isNo : Option (Option Value) → Bool
  | some none => true
  | _ => false
theorem isNo_of {o : Option (Option Value)} (h : isNo o = true) : o = some none := by
  unfold isNo at h
  split at h
  · rfl
  · cases h
def isRf (a : Addr) : Option (Option Value) → Bool
  | some (some (.ref b)) => Nat.beq b a
  | _ => false
theorem isRf_of {a : Addr} {o : Option (Option Value)} (h : isRf a o = true) : o = some (some (.ref a)) := by
  unfold isRf at h
  split at h
  · rename_i b
    have e : b = a := Nat.eq_of_beq_eq_true h
    rw [e]
  · cases h
def isNum (n : Int) : Option (Option Value) → Bool
  | some (some (.int m _)) => m == n
  | _ => false
theorem isNum_of {n : Int} {o : Option (Option Value)} (h : isNum n o = true) : ∃ t, o = some (some (.int n t)) := by
  unfold isNum at h
  split at h
  · rename_i m t
    exact ⟨t, by rw [show m = n from eq_of_beq h]⟩
  · cases h
def isTxt (s : Str) : Option (Option Value) → Bool
  | some (some (.str m _)) => m == s
  | _ => false
theorem isTxt_of {s : Str} {o : Option (Option Value)} (h : isTxt s o = true) : ∃ t, o = some (some (.str s t)) := by
  unfold isTxt at h
  split at h
  · rename_i m t
    exact ⟨t, by rw [show m = s from eq_of_beq h]⟩
  · cases h
abbrev bases : List Value := [.type "ValueError", .type "Exception", .type "BaseException", .type "object"]
def excB (K : PySem.W.Frag) (C : Addr) : Bool :=
  PySem.W.excIn K C bases "ValueError.__new__" && (PySem.W.keepIn K (.ref C) && (isB true (PySem.W.subIn K (.ref C) (.type "BaseException")) && (isTyp "type" (PySem.W.typeIn K (.ref C)) &&
    (isBlt "BaseException.__getattribute__" (PySem.W.findIn K (.ref C) "__getattribute__") && (isNo (PySem.W.findIn K (.ref C) "__getattr__") && (PySem.W.hasDictIn K C && (isBlt "object.__class__" (PySem.W.findIn K (.ref C) "__class__") &&
      (isBlt "getset_descriptor.__get__" (PySem.W.specialIn K (.builtin "object.__class__") "__get__") && (isB true (PySem.W.takesIn K (.builtin "object.__class__")) && isB true (PySem.W.mroIn K C (.type "object")))))))))))
/-- where a class lies -/
def adr (K : PySem.W.Frag) (x : Str) : Addr := match PySem.W.nsIn K mainGlobals x with
  | some (some (.ref a)) => a
  | _ => 0
def notDbg (x : Str) : Bool := !(x == ("__debug__" : Str))
def modB (K : PySem.W.Frag) (cg : Cg) (cs : List Addr) : Bool :=
  (!cg.gs && (cg.sts.all fun p => isTxt p.2 (PySem.W.nsIn K mainGlobals p.1) && notDbg p.1)) && (bltNames.all fun b => isNo (PySem.W.nsIn K mainGlobals b)) && ((cg.cns.all fun p => isNum p.2 (PySem.W.nsIn K mainGlobals p.1) && notDbg p.1) && ((Nat.beq cs.length cg.cls.length && Nat.ble cs.length 900) && (((cg.cls.zip cs).all fun p => isRf p.2 (PySem.W.nsIn K mainGlobals p.1) && (notDbg p.1 && excB K p.2)) &&
    ((List.range cs.length).all fun c => (List.range cs.length).all fun d => isB (sub c d) (PySem.W.subIn K (.ref (cs.getD c 0)) (.ref (cs.getD d 0))) && isB (sub c d) (PySem.W.kitOne K (.ref (cs.getD c 0)) (.ref (cs.getD d 0)))))))
section
variable {P : Program} {w : World} {K : PySem.W.Frag} {mg : Str → Option Value} {base h : Heap} {cg : Cg} {cs : List Addr} {ds : List Df}
theorem and2 {a b : Bool} (h : (a && b) = true) : a = true ∧ b = true := by
  rw [Bool.and_eq_true] at h
  exact h
theorem exc_of {x : Str} {C : Addr} (X : K.In h) (G : h.Ns mainGlobals mg) (h1 : isRf C (PySem.W.nsIn K mainGlobals x) = true) (h2 : notDbg x = true) (h3 : excB K C = true) : XcOk K mg x C ∧ ExcC K C := by
  unfold excB at h3
  obtain ⟨a1, h3⟩ := and2 h3
  obtain ⟨a2, h3⟩ := and2 h3
  obtain ⟨a3, h3⟩ := and2 h3
  obtain ⟨a4, h3⟩ := and2 h3
  obtain ⟨a5, h3⟩ := and2 h3
  obtain ⟨a6, h3⟩ := and2 h3
  obtain ⟨a7, h3⟩ := and2 h3
  obtain ⟨a8, h3⟩ := and2 h3
  obtain ⟨a9, h3⟩ := and2 h3
  obtain ⟨a10, a11⟩ := and2 h3
  have E : ExcC K C := ⟨isBlt_of a5, isNo_of a6, isB_of a3, a7, isBlt_of a8, isBlt_of a9, isB_of a10, isB_of a11⟩
  exact ⟨⟨a1, PySem.W.mg_of X G (isRf_of h1), a2, isB_of a3, isTyp_of a4, E, by unfold notDbg at h2; simpa using h2⟩, E⟩
structure ModF (K : PySem.W.Frag) (mg : Str → Option Value) (cg : Cg) (ca : Nat → Addr) : Prop where
  blt : ∀ b ∈ bltNames, mg b = none
  cls : ∀ c x, cg.cls[c]? = some x → XcOk K mg x (ca c)
  cns : ∀ x n, cg.cns.lookup x = some n → (∃ t, mg x = some (.int n t)) ∧ (x == ("__debug__" : Str)) = false
  kin : Kin K ca (List.range cg.cls.length)
  gs : cg.gs = false
  sts : ∀ x s, cg.sts.lookup x = some s → (∃ t, mg x = some (.str s t)) ∧ (x == ("__debug__" : Str)) = false
theorem lookup_mem {α : Type} {x : Str} {a : α} : ∀ {l : List (Str × α)}, l.lookup x = some a → (x, a) ∈ l
  | (y, b) :: r, h => by
    unfold List.lookup at h
    split at h
    · rename_i e
      cases h
      rw [show x = y from eq_of_beq e]
      exact List.mem_cons_self
    · exact List.mem_cons_of_mem _ (lookup_mem h)
theorem mod_of (X : K.In h) (G : h.Ns mainGlobals mg) (hm : modB K cg cs = true) : ModF K mg cg (fun c => cs.getD c 0) := by
  unfold modB at hm
  rw [Bool.and_assoc] at hm
  obtain ⟨a00, hm⟩ := and2 hm
  obtain ⟨a0, as⟩ := and2 a00
  obtain ⟨a1, hm⟩ := and2 hm
  obtain ⟨a2, hm⟩ := and2 hm
  obtain ⟨a3, hm⟩ := and2 hm
  obtain ⟨a3, a3b⟩ := and2 a3
  obtain ⟨a4, a5⟩ := and2 hm
  have hl : cs.length = cg.cls.length := Nat.eq_of_beq_eq_true a3
  have one : ∀ c x, cg.cls[c]? = some x → XcOk K mg x (cs.getD c 0) ∧ ExcC K (cs.getD c 0) := fun c x e => by
    have hc : c < cg.cls.length := (List.getElem?_eq_some_iff.mp e).1
    have e2 : cs[c]? = some (cs[c]'(by omega)) := List.getElem?_eq_getElem (by omega)
    have hz : (x, cs[c]'(by omega)) ∈ cg.cls.zip cs := List.mem_of_getElem? (i := c) (List.getElem?_zip_eq_some.mpr ⟨e, e2⟩)
    obtain ⟨b1, b2⟩ := and2 (List.all_eq_true.mp a4 _ hz)
    obtain ⟨b3, b4⟩ := and2 b2
    have e3 : cs.getD c 0 = cs[c]'(by omega) := by rw [List.getD_eq_getElem?_getD, e2]; rfl
    rw [e3]
    exact exc_of X G b1 b3 b4
  have get : ∀ c ∈ List.range cg.cls.length, ∃ x, cg.cls[c]? = some x := fun c hc => ⟨_, List.getElem?_eq_getElem (List.mem_range.mp hc)⟩
  have pr : ∀ c ∈ List.range cg.cls.length, ∀ d ∈ List.range cg.cls.length, isB (sub c d) (PySem.W.subIn K (.ref (cs.getD c 0)) (.ref (cs.getD d 0))) = true ∧ isB (sub c d) (PySem.W.kitOne K (.ref (cs.getD c 0)) (.ref (cs.getD d 0))) = true := fun c hc d hd => by
    rw [hl] at a5
    exact and2 (List.all_eq_true.mp (List.all_eq_true.mp a5 c hc) d hd)
  refine ⟨fun b hb => PySem.W.mg_none_of X G (isNo_of (List.all_eq_true.mp a1 b hb)), fun c x e => (one c x e).1, fun x n e => ?_, ⟨fun c hc => (by have := List.mem_range.mp hc; have := Nat.le_of_ble_eq_true a3b; omega), fun c hc => ?_, fun c hc => ?_, fun c hc => ?_, fun c hc d hd => isB_of (pr c hc d hd).1, fun c hc d hd => isB_of (pr c hc d hd).2⟩, (by cases z : cg.gs <;> rw [z] at a0 <;> first | rfl | cases a0), fun x s e => ?_⟩
  · obtain ⟨b1, b2⟩ := and2 (List.all_eq_true.mp a2 _ (lookup_mem e))
    obtain ⟨t, ht⟩ := isNum_of b1
    exact ⟨⟨t, PySem.W.mg_of X G ht⟩, by unfold notDbg at b2; simpa using b2⟩
  · obtain ⟨x, e⟩ := get c hc; exact (one c x e).2
  · obtain ⟨x, e⟩ := get c hc; exact (one c x e).1.b
  · obtain ⟨x, e⟩ := get c hc; exact (one c x e).1.t
  · obtain ⟨b1, b2⟩ := and2 (List.all_eq_true.mp as _ (lookup_mem e))
    obtain ⟨t, ht⟩ := isTxt_of b1
    exact ⟨⟨t, PySem.W.mg_of X G ht⟩, by unfold notDbg at b2; simpa using b2⟩
/-- the classes, and that of number 999 -/
def caOf (cs : List Addr) (C : Addr) : Nat → Addr := fun c => if c = 999 then C else cs.getD c 0
theorem caOf_lt {cs : List Addr} {C : Addr} {c : Nat} (h : c < 999) : caOf cs C c = cs.getD c 0 := if_neg (by omega)
theorem caOf_self {cs : List Addr} {C : Addr} : caOf cs C 999 = C := if_pos rfl
theorem ModF.at (M : ModF K mg cg (fun c => cs.getD c 0)) (C : Addr) : ModF K mg cg (caOf cs C) := by
  have lt : ∀ c x, cg.cls[c]? = some x → c < 999 := fun c x e => M.kin.lt c (List.mem_range.mpr (List.getElem?_eq_some_iff.mp e).1)
  refine ⟨M.blt, fun c x e => by rw [caOf_lt (lt c x e)]; exact M.cls c x e, M.cns, ⟨M.kin.lt, fun c hc => ?_, fun c hc => ?_, fun c hc => ?_, fun c hc d hd => ?_, fun c hc d hd => ?_⟩, M.gs, M.sts⟩
  · rw [caOf_lt (M.kin.lt c hc)]; exact M.kin.exc c hc
  · rw [caOf_lt (M.kin.lt c hc)]; exact M.kin.b c hc
  · rw [caOf_lt (M.kin.lt c hc)]; exact M.kin.t c hc
  · rw [caOf_lt (M.kin.lt c hc), caOf_lt (M.kin.lt d hd)]; exact M.kin.s c hc d hd
  · rw [caOf_lt (M.kin.lt c hc), caOf_lt (M.kin.lt d hd)]; exact M.kin.k c hc d hd
/-- one def, as the top has written it -/
def DFact (K : PySem.W.Frag) (x : Str) (st : Stmt) : Prop := ∃ f : Addr, PySem.W.nsIn K mainGlobals x = some (some (.ref f)) ∧ PySem.W.keepIn K (.ref f) = true ∧
  ∃ (oc : Value) (od : Option Addr) (kV doc pm : Value) (an : Option Addr) (cdv ct : Value) (osl : Array (Option Value)), K.lookup f = some ⟨oc, od, .func (PySem.W.fnOf x x (defArgs st) (defBody st) (defScope st) .none kV doc pm an cdv ct), osl⟩ ∧ PySem.W.codeIn K cdv x = true
theorem dfact {x : Str} {st : Stmt} {f : Addr} {oc : Value} {od : Option Addr} {kV doc pm : Value} {an : Option Addr} {cdv ct : Value} {osl : Array (Option Value)} (a : PySem.W.nsIn K mainGlobals x = some (some (.ref f)))
    (l : K.lookup f = some ⟨oc, od, .func (PySem.W.fnOf x x (defArgs st) (defBody st) (defScope st) .none kV doc pm an cdv ct), osl⟩) (c : PySem.W.codeIn K cdv x = true) (k : PySem.W.keepIn K (.ref f) = true) : DFact K x st := ⟨f, a, k, oc, od, kV, doc, pm, an, cdv, ct, osl, l, c⟩
/-- what the text itself says of it -/
structure TFact (cg : Cg) (x : Str) (st : Stmt) (ps N : List Str) (n : Nat) (s : S) : Prop where
  sc : FnScope N ps (defScope st)
  n : ps.length = n
  d : notDbg x = true
  b : ∀ (kV doc pm : Value) (an : Option Addr) (cdv ct : Value) (us : List Value), us.length = ps.length → bindArgs (PySem.W.fnOf x x (defArgs st) (defBody st) (defScope st) .none kV doc pm an cdv ct) ⟨us, []⟩ = pure (ps.zip us)
  c : ∃ mu m, cBk ⟨cg, N, mu⟩ m (defScope st) (fun _ => true) true (defBody st) = some s
theorem def_of {x : Str} {st : Stmt} {ps N : List Str} {n i : Nat} {s : S} {ca : Nat → Addr} (b : Bool) (hb : (!b || (cg.px && Nat.ble 2 i)) = true) (X : K.In h) (G : h.Ns mainGlobals mg) (D : DFact K x st) (T : TFact { cg with px := b } x st ps N n s) : DefF P w K mg base ca cg ds i x (.ir N n s) := by
  obtain ⟨f, a, k, oc, od, kV, doc, pm, an, cdv, ct, osl, l, c⟩ := D
  obtain ⟨mu, m, hc⟩ := T.c
  have F := fun_mk (st := st) l c k
  exact .ir (PySem.W.mg_of X G a) F (F.binds T.b) T.sc T.n (by have := T.d; unfold notDbg at this; simpa using this) (fun z => by
    subst z
    rw [Bool.not_true, Bool.false_or, Bool.and_eq_true] at hb
    exact ⟨hb.1, Nat.le_of_ble_eq_true hb.2⟩) hc
inductive AllF (P : Program) (w : World) (K : PySem.W.Frag) (mg : Str → Option Value) (base : Heap) (ca : Nat → Addr) (cg : Cg) (ds : List Df) : Nat → List Str → List Df → Prop
  | nil {i : Nat} : AllF P w K mg base ca cg ds i [] []
  | cons {i : Nat} {x : Str} {d : Df} {xs : List Str} {es : List Df} : DefF P w K mg base ca cg ds i x d → AllF P w K mg base ca cg ds (i + 1) xs es → AllF P w K mg base ca cg ds i (x :: xs) (d :: es)
theorem AllF.get {ca : Nat → Addr} : ∀ {j : Nat} {xs : List Str} {es : List Df}, AllF P w K mg base ca cg ds j xs es → ∀ i x d, xs[i]? = some x → es[i]? = some d → DefF P w K mg base ca cg ds (j + i) x d
  | _, _, _, .cons h r, 0, x, d, e1, e2 => by
    cases e1
    cases e2
    exact h
  | j, _, _, .cons h r, i + 1, x, d, e1, e2 => by
    have := r.get i x d (by simpa using e1) (by simpa using e2)
    rw [show j + (i + 1) = j + 1 + i by omega]
    exact this
theorem AllF.len {ca : Nat → Addr} : ∀ {j : Nat} {xs : List Str} {es : List Df}, AllF P w K mg base ca cg ds j xs es → es.length = xs.length
  | _, _, _, .nil => rfl
  | _, _, _, .cons _ r => congrArg (· + 1) r.len
/-- the whole: the law's promise -/
theorem fin_mk {k : Nat} {x : Str} {st : Stmt} {N : List Str} {s : S} {fa C : Addr} (b : Bool) (hb : (!b || (cg.px && Nat.ble 2 k)) = true) (X : K.In h) (G : h.Ns mainGlobals mg) (hfa : mg x = some (.ref fa)) (hm : modB K cg cs = true) (hpx : ∀ base : Heap, cg.px = true → PxF P w K mg base (caOf cs C 999) (caOf cs C) cg.cls.length 2) (D : DFact K x st) (T : TFact { cg with px := b } x st ["script"] N 1 s) (hk : cg.fns[k]? = some x) (hd : ds[k]? = some (.ir N 1 s))
    (all : ∀ (base : Heap), AllF P w K mg base (caOf cs C) cg ds 0 cg.fns ds) (law : ∀ ns : List Int, ns.length ≤ 63 → FF ds (k + 1) k [scrD ns] = .ok (.bool true)) :
    ∃ fd : FuncData, (∀ (s : Shared) (v : Value), BindsTo s fd ⟨[v], []⟩ [("script", v)]) ∧ ∀ base : Heap, K.In base → base.Ns mainGlobals mg → FnOk P w K mg base (L2.CX P w) (k + 1) fa fd ["script"] (spLaw K) := by
  obtain ⟨f, a, kp, oc, od, kV, doc, pm, an, cdv, ct, osl, l, c⟩ := D
  obtain ⟨mu, m, hc⟩ := T.c
  have F := fun_mk (st := st) l c kp
  have e := hfa.symm.trans (PySem.W.mg_of X G a)
  cases e
  refine ⟨_, fun s v => .of_eq (T.b kV doc pm an cdv ct [v] rfl), fun base XB GB => ?_⟩
  have M := (mod_of X G hm).at C
  have A := all base
  have W := module_ok A.len (fun i x d e1 e2 => by have := A.get i x d e1 e2; rw [Nat.zero_add] at this; exact this) M.blt M.cls M.cns M.kin M.gs M.sts (hpx base) k
  have R : FnOk P w K mg base (L2.CX P w) (k + 1) _ _ ["script"] (spD K (caOf cs C) 1 (sem (FF ds k) nB N 1 s)) := def_ok F T.sc W (fun z => by
    subst z
    rw [Bool.not_true, Bool.false_or, Bool.and_eq_true] at hb
    exact ⟨hb.1, Nat.le_of_ble_eq_true hb.2⟩) hc
  refine law_ok R fun ns hn => ?_
  have := law ns hn
  rw [FF_eq hd (Nat.lt_succ_self _)] at this
  exact this
end
end Ip

set_option maxHeartbeats 4000000
namespace Ip
open PySem PySem.Spec PyProof.Rows L2
/-! ### the law's def where the stack below is known: no text is being made further out -/
section
variable {P : Program} {w : World} {K : PySem.W.Frag} {mg : Str → Option Value} {base : Heap} {ca : Nat → Addr} {F : Fn} {B : FnB} {cg : Cg} {k : Nat}
/-- one call of a def, by its body, at one place -/
theorem call_at {x : Str} {st : Stmt} {f : Addr} {oc : Value} {od : Option Addr} {kV doc pm : Value} {an : Option Addr} {cdv ct : Value} {osl : Array (Option Value)} {N ps : List Str} {A : Around} {outer : List Env} {s : Shared} {H : Hp} {args : Args} {us : List Value} {vs : List V} {Q : VK} {E : XK} {t : TS}
    (hf : K.lookup f = some ⟨oc, od, .func (PySem.W.fnOf x x (defArgs st) (defBody st) (defScope st) .none kV doc pm an cdv ct), osl⟩) (hcode : PySem.W.codeIn K cdv x = true) (Sc : FnScope N ps (defScope st)) (room : Room (k + 1) A) (here : Env0 P w K mg base A outer s H)
    (bnd : BindsTo s (PySem.W.fnOf x x (defArgs st) (defBody st) (defScope st) .none kV doc pm an cdv ct) args (ps.zip us)) (rel : Vals vs us) (many : vs.length = ps.length)
    (body : PSs (cxOf (L2.CX P w) P w K mg base N x (defScope st) f cdv A outer s H E) (defBody st) t) (want : t { nx := fun _ H' => Q .non H', rt := Q } (L2.start N vs) H) :
    codeAny (model P w) A (.call (.ref f) args) (CR (L2.CX P w) outer P w H s Q E) s := by
  have inK := here.mod.kin.keeps (h' := s.heap) fun b o e => (here.bs b o e).1
  have kinds : ∀ y ∈ ps.zip us, (defScope st).names.lookup y.1 = some .local ∨ ((defScope st).names.lookup y.1 = some .cell ∧ ((cellsFrom (s.heap.objs.size + 1) (defScope st).names []).lookup y.1).isSome = true) := by
    rintro ⟨nm, v⟩ hy
    exact (Sc.par nm (List.of_mem_zip hy).1).imp id fun q => ⟨q, PySem.W.cellsFrom_some _ _ _ (.inl q)⟩
  have nolim := here.mod.nolimit.keeps (h' := s.heap) fun b o e => (here.bs b o e).1
  refine codeAny_call_function room.depth (inK _ _ hf) rfl Sc.co Sc.gen rfl (PySem.W.codeRec_of inK hcode) (bnd _ _ _ _ (wpAny_newFunctionEnv_cells Sc.kind kinds ?_))
  rintro env rfl s1 q
  refine ⟨nolim.keeps q.toInCall.keep, codeAny_func (wpAny_mono (body.run [] s1 _ H _ (inv_start Sc room.hd here many rel q) want) ?_ fun e s' z => z)⟩
  intro fl s' z
  cases fl with
  | ret u =>
    obtain ⟨v, σ', H', J, rv, qv⟩ := z
    exact ⟨v, H', J.os, J.bare, J.base, J.hok, rv, qv⟩
  | next =>
    obtain ⟨σ', H', J, qv⟩ := z
    exact ⟨V.non, H', J.os, J.bare, J.base, J.hok, rfl, qv⟩
  | brk => exact z.elim fun _ z => z.elim fun _ z => z.2.elim
  | cont => exact z.elim fun _ z => z.elim fun _ z => z.2.elim
/-- the law's call, its script laid on the abstract heap -/
theorem script_call {fa a : Addr} {mb : Str → Option Value} {s1 : Shared} {vs : List Value} {ns : List Int} (KX : K.In s1.heap) (hns : s1.heap.Ns mainGlobals mg) (hb : s1.heap.Ns builtinsNs mb) (hbb : ∀ x : Str, x ≠ "__name__" → mb x = bootBuiltins x) (hlim : s1.heap.NoLimit) (hg : s1.gens = #[])
    (ha : s1.heap.get? a = some { cls := .type "list", data := .seq vs.toArray }) (hi : IntsAre vs ns) (hl : ns.length ≤ sizeLine)
    (run : ∀ (base : Heap) (H : Hp), K.In base → base.Ns mainGlobals mg → Env0 P w K mg base callerA [] s1 H → SqL K H a (ns.map V.int) → codeAny (model P w) callerA (.call (.ref fa) ⟨[.ref a], []⟩) (CR (L2.CX P w) [] P w H s1 (fun v _ => v = .bl true) fun _ _ _ => False) s1) :
    codeAny (model P w) callerA (.call (.ref fa) ⟨[.ref a], []⟩) (fun r s' => r = .ok (.ret (.bool true)) ∧ OldK s1.heap s'.heap ∧ s'.os = s1.os ∧ AllBare s'.gens) s1 := by
  have rel := vals_ints hi
  have lens := hi.length
  -- what is tracked: the script, unless it is the module's
  obtain ⟨H, only, sq, hok, isA, notK⟩ : ∃ H : Hp, (∀ b, H b = none ∨ ∃ o xs, H b = some (.frz o (.lst xs))) ∧ SqL K H a (ns.map V.int) ∧ HOk P w H s1.heap ∧ (∀ b, H b ≠ none → b = a) ∧ (H a ≠ none → K.lookup a = none) := by
    cases q : K.lookup a with
    | some o =>
      have e := (KX a o q).symm.trans ha
      cases e
      refine ⟨fun _ => none, fun _ => .inl rfl, .inr ⟨_, vs.toArray, _, q, rfl, rfl, rfl, ?_, by simpa using rel⟩, fun b u z => (by cases z), fun b z => absurd rfl z, fun z => absurd rfl z⟩
      rw [List.size_toArray, lens]
      exact hl
    | none =>
      have at_a : (fun b => if b = a then some (HO.frz { cls := .type "list", data := .seq vs.toArray } (.lst (ns.map V.int))) else none : Hp) a = some (.frz { cls := .type "list", data := .seq vs.toArray } (.lst (ns.map V.int))) := if_pos rfl
      refine ⟨fun b => if b = a then some (HO.frz { cls := .type "list", data := .seq vs.toArray } (.lst (ns.map V.int))) else none, fun b => ?_, .inl (.inr ⟨_, at_a⟩), fun b u z => ?_, fun b z => ?_, fun _ => rfl⟩
      · by_cases e : b = a
        · exact .inr ⟨_, _, if_pos e⟩
        · exact .inl (if_neg e)
      · by_cases e : b = a
        · have z2 := (if_pos e).symm.trans z
          cases z2
          subst e
          exact ⟨ha, (by rw [List.length_map]; exact hl), vs, _, rel, ha⟩
        · have z2 := (if_neg e).symm.trans z
          cases z2
      · exact Classical.byContradiction fun e => z (if_neg e)
  have untr : ∀ (b : Addr) (o : Obj), s1.heap.get? b = some o → (b = a → False) → H b = none := fun b o _ ne => Classical.byContradiction fun z => ne (isA b z)
  have dictN : ∀ (b : Addr) (m : Str → Option Value), s1.heap.Ns b m → (hidT s1.heap H).Ns b m := by
    rintro b m ⟨o, es, ep, e, d, r⟩
    refine ⟨o, es, ep, hidT_get e (untr b o e fun z => ?_), d, r⟩
    subst z
    have := e.symm.trans ha
    cases this
    cases d
  have kinB : K.In (hidT s1.heap H) := fun b o e => hidT_get (KX b o e) (Classical.byContradiction fun z => by
    have ea := isA b z
    subst ea
    rw [notK z] at e
    cases e)
  obtain ⟨mc, l1, l2⟩ := hlim
  have here : Env0 P w K mg (hidT s1.heap H) callerA [] s1 H := ⟨rfl, ⟨kinB, dictN _ _ hns, ⟨mb, dictN _ _ hb, hbb⟩, ⟨mc, dictN _ _ l1, l2⟩⟩, fun b o e => of_hidT e, Nat.le_of_eq (hidT_size _ _), trivial, (fun b z => by cases z), hok, .of_eq hg⟩
  refine codeAny_mono (run _ H kinB (dictN _ _ hns) here sq) fun r s' z => ?_
  cases r with
  | error e =>
    obtain ⟨_, _, _, _, _, _, _, _, _, _, _, _, bad⟩ := z
    exact bad.elim
  | ok fl =>
    cases fl with
    | ret u =>
      obtain ⟨v, H', os, bare, un, hok', rv, qv⟩ := z
      have qv : v = .bl true := qv
      subst qv
      have eu : u = Value.bool true := rv
      subst eu
      refine ⟨rfl, OldK.of_keep fun b o e => ?_, os, bare⟩
      rcases only b with n | ⟨ob, xs, n⟩
      · exact un.keep b o e n (fun z => by cases z) (by simp)
      · have e1 := (hok b _ n).1
        have e2 := (hok' b _ (un.frzs b ob _ n)).1
        rw [e] at e1
        cases e1
        exact e2
    | next => exact z.elim
    | brk => exact z.elim
    | cont => exact z.elim
end
/-- what k_head leaves, from one call of the law -/
theorem walk_at {l : PySem.W.OpenLaw} {n : Nat} {q : Program} {loose : List Str} {XP : (Str → Option Value) → Heap → Prop} {YP : World → Heap → Prop} {d : DefRec} {K : Params → PySem.W.Frag} (hn : l.most = some n) (hn2 : n ≤ sizeLine) (hdf : d.params.defaults = []) (hY : ∀ (w : World) (h : Heap), YP w h → (K w.params).In h)
    (run : ∀ (w : World) (mg : Str → Option Value) (fa : Addr) (h : Heap), (K w.params).In h → h.Ns mainGlobals mg → mg d.name = some (.ref fa) → ∀ (base : Heap) (H : Hp) (s : Shared) (a : Addr) (ns : List Int), (K w.params).In base → base.Ns mainGlobals mg → Env0 l.prog w (K w.params) mg base callerA [] s H → SqL (K w.params) H a (ns.map V.int) → ns.length ≤ n →
      codeAny (model l.prog w) callerA (.call (.ref fa) ⟨[.ref a], []⟩) (CR (L2.CX l.prog w) [] l.prog w H s (fun v _ => v = .bl true) fun _ _ _ => False) s) :
    PySem.W.WalkO q loose XP YP l.row.toRowW d [] (fun f vs => PySem.call f vs) := by
  refine Att.attach_call hn hdf ?_
  intro w s0 s1 mg mb fa o pm cd doc a vs ns G Y ho hd hcd hmg hobj hints hlen hg
  exact script_call (hY w _ Y) G.T.g G.T.b G.T.builtins G.T.nolimit hg hobj hints (Nat.le_trans hlen hn2) fun base H h1 h2 h3 h4 => run w mg fa _ (hY w _ Y) G.T.g hmg base H s1 a ns h1 h2 h3 h4 hlen
section
variable {P : Program} {w : World} {K : PySem.W.Frag} {mg : Str → Option Value} {h : Heap} {cg : Cg} {cs : List Addr} {ds : List Df}
/-- a def of which nothing is said -/
theorem bad_of {x : Str} {st : Stmt} {ps N : List Str} {n i : Nat} {s : S} {ca : Nat → Addr} {base : Heap} {cg' : Cg} (X : K.In h) (G : h.Ns mainGlobals mg) (D : DFact K x st) (T : TFact cg' x st ps N n s) : DefF P w K mg base ca cg ds i x (.fn n fun _ => .bad) := by
  obtain ⟨f, a, k, oc, od, kV, doc, pm, an, cdv, ct, osl, l, c⟩ := D
  have F := fun_mk (st := st) l c k
  have hn := T.n
  subst hn
  exact .fn (PySem.W.mg_of X G a) F.kp (F.binds T.b) rfl (by have := T.d; unfold notDbg at this; simpa using this) fun _ => bad_ok fun _ => rfl
/-- the whole, where the law itself may make texts of tuples -/
theorem fin_at {k : Nat} {x : Str} {st : Stmt} {N : List Str} {s : S} {fa C : Addr} (X : K.In h) (G : h.Ns mainGlobals mg) (hfa : mg x = some (.ref fa)) (hm : modB K cg cs = true) (hpx : ∀ base : Heap, cg.px = true → PxF P w K mg base (caOf cs C 999) (caOf cs C) cg.cls.length 2) (hk2 : 2 ≤ k) (D : DFact K x st) (T : TFact { cg with gs := true } x st ["script"] N 1 s) (hr : Room (k + 1) callerA)
    (all : ∀ (base : Heap), AllF P w K mg base (caOf cs C) cg ds 0 cg.fns ds) (law : ∀ ns : List Int, ns.length ≤ 63 → sem (FF ds k) nB N 1 s [scrD ns] = .ok (.bool true)) :
    ∀ (base : Heap) (H : Hp) (s0 : Shared) (a : Addr) (ns : List Int), K.In base → base.Ns mainGlobals mg → Env0 P w K mg base callerA [] s0 H → SqL K H a (ns.map V.int) → ns.length ≤ 63 →
      codeAny (model P w) callerA (.call (.ref fa) ⟨[.ref a], []⟩) (CR (L2.CX P w) [] P w H s0 (fun v _ => v = .bl true) fun _ _ _ => False) s0 := by
  obtain ⟨f, a0, kp, oc, od, kV, doc, pm, an, cdv, ct, osl, l, c⟩ := D
  obtain ⟨mu, m, hc⟩ := T.c
  have e := hfa.symm.trans (PySem.W.mg_of X G a0)
  cases e
  intro base H s0 a ns XB GB here sq hn
  have M := (mod_of X G hm).at C
  have A := all base
  have W := module_ok A.len (fun i x d e1 e2 => by have := A.get i x d e1 e2; rw [Nat.zero_add] at this; exact this) M.blt M.cls M.cns M.kin M.gs M.sts (hpx base) k
  have lw := (show sem (FF ds k) nB N 1 s [scrD ns] = fnRes (exec (FF ds k) nB s (startG N [scrD ns])) from if_pos rfl).symm.trans (law ns hn)
  have xo : XOk (cxOf (L2.CX P w) P w K mg base N x (defScope st) fa cdv callerA [] s0 H fun _ _ _ => False) (caOf cs C) (FF ds k) { cg with gs := true } k N (defScope st) (fun _ => true) :=
    ⟨rfl, rfl, T.sc.nd, rfl, rfl, hr.deeper _, passes_of rfl, W.blt, fun i y e => ⟨(W.fns i y e).1, (W.fns i y e).2⟩, W.cls, W.cns, W.kin, fun _ => rfl, W.sts, fun z => (W.px z).mono hk2⟩
  refine call_at (t := tBk _ _) l c T.sc hr here (.of_eq (T.b kV doc pm an cdv ct [.ref a] rfl)) (.cons (a := V.ref a) rfl .nil) rfl pss_tBk ?_
  refine (snds_all (B := nB) (c := ⟨{ cg with gs := true }, N, mu⟩) m).b hc xo ⟨rfl, rfl, T.sc.kind⟩ [] H H _ _ H H _ (fun _ _ _ _ => False) (takes_of rfl rfl rfl rfl) (sat_start (Same.refl _) (.cons (.scr sq) .nil)) ?_
  cases ho : exec (FF ds k) nB s (startG N [scrD ns]) with
  | rt d g =>
    rw [ho] at lw
    have lw : Rs.ok d = .ok (.bool true) := lw
    cases lw
    intro v σ' Hb' H' s' r
    have r : Rp K Hb' v (.bool true) := r
    cases r
    rfl
  | nx g => rw [ho] at lw; cases lw
  | ex c g => rw [ho] at lw; cases lw
  | bk g => rw [ho] at lw; cases lw
  | ct g => rw [ho] at lw; cases lw
  | bad => rw [ho] at lw; cases lw
end
end Ip

set_option maxHeartbeats 4000000
namespace Ip
/-! ### two ways to mark connected components -/
def mk (ms : List Int) (v : Int) : Int := ms.getD v.toNat 0
inductive Con (es : List (Int × Int)) : Int → Int → Prop
  | refl (v : Int) : Con es v v
  | edge {p : Int × Int} {v : Int} : p ∈ es → Con es p.2 v → Con es p.1 v
  | back {p : Int × Int} {v : Int} : p ∈ es → Con es p.1 v → Con es p.2 v
theorem Con.trans {es : List (Int × Int)} {a b c : Int} (h : Con es a b) (k : Con es b c) : Con es a c := by
  induction h with
  | refl v => exact k
  | edge hp _ ih => exact .edge hp (ih k)
  | back hp _ ih => exact .back hp (ih k)
theorem Con.symm {es : List (Int × Int)} {a b : Int} (h : Con es a b) : Con es b a := by
  induction h with
  | refl v => exact .refl v
  | edge hp _ ih => exact ih.trans (.back hp (.refl _))
  | back hp _ ih => exact ih.trans (.edge hp (.refl _))
theorem Con.mono {es fs : List (Int × Int)} {a b : Int} (s : ∀ p ∈ es, p ∈ fs) (h : Con es a b) : Con fs a b := by
  induction h with
  | refl v => exact .refl v
  | edge hp _ ih => exact .edge (s _ hp) ih
  | back hp _ ih => exact .back (s _ hp) ih
/-- a marking: within the component, not above -/
structure Low (n : Nat) (es : List (Int × Int)) (ms : List Int) : Prop where
  len : ms.length = n
  lo : ∀ v : Int, 0 ≤ v → v < n → 0 ≤ mk ms v ∧ mk ms v ≤ v
  con : ∀ v : Int, 0 ≤ v → v < n → Con es (mk ms v) v
def Flat (es : List (Int × Int)) (ms : List Int) : Prop := ∀ p ∈ es, mk ms p.1 = mk ms p.2
theorem Flat.con {es : List (Int × Int)} {ms : List Int} (f : Flat es ms) {a b : Int} (h : Con es a b) : mk ms a = mk ms b := by
  induction h with
  | refl v => rfl
  | edge hp _ ih => rw [f _ hp, ih]
  | back hp _ ih => rw [← f _ hp, ih]
theorem mk_ext {n : Nat} {ms ks : List Int} (h1 : ms.length = n) (h2 : ks.length = n) (h : ∀ v : Int, 0 ≤ v → v < n → mk ms v = mk ks v) : ms = ks := by
  apply List.ext_getElem (by omega)
  intro i a b
  have := h i (by omega) (by omega)
  unfold mk at this
  rw [List.getD_eq_getElem?_getD, List.getD_eq_getElem?_getD, Int.toNat_natCast, List.getElem?_eq_getElem a, List.getElem?_eq_getElem b] at this
  exact this
theorem low_le {n : Nat} {es : List (Int × Int)} {ms ks : List Int} (l : Low n es ms) (k : Low n es ks) (f : Flat es ks) {v : Int} (h0 : 0 ≤ v) (h1 : v < n) : mk ks v ≤ mk ms v := by
  have a := l.lo v h0 h1
  have c := f.con (l.con v h0 h1)
  have b := (k.lo (mk ms v) a.1 (by omega)).2
  omega
theorem low_eq {n : Nat} {es : List (Int × Int)} {ms ks : List Int} (l : Low n es ms) (g : Flat es ms) (k : Low n es ks) (f : Flat es ks) : ms = ks :=
  mk_ext l.len k.len fun v h0 h1 => by
    have a := low_le l k f h0 h1
    have b := low_le k l g h0 h1
    omega
/-- the nodes themselves -/
def ids (n : Nat) : List Int := (List.range n).map fun i => (i : Nat)
theorem mk_ids {n : Nat} {v : Int} (h0 : 0 ≤ v) (h1 : v < n) : mk (ids n) v = v := by
  unfold mk ids
  rw [List.getD_eq_getElem?_getD, List.getElem?_map, List.getElem?_range (by omega)]
  show ((v.toNat : Nat) : Int) = v
  omega
theorem low_ids (n : Nat) (es : List (Int × Int)) : Low n es (ids n) :=
  ⟨by simp [ids], fun v h0 h1 => by rw [mk_ids h0 h1]; omega, fun v h0 h1 => by rw [mk_ids h0 h1]; exact .refl v⟩
def EsOk (n : Nat) (es : List (Int × Int)) : Prop := ∀ p ∈ es, 0 ≤ p.1 ∧ p.1 < p.2 ∧ p.2 < n
/-- by relabelling -/
def relab (ms : List Int) (p : Int × Int) : List Int :=
  ms.map fun m => if m = (if mk ms p.2 > mk ms p.1 then mk ms p.2 else mk ms p.1) then (if mk ms p.2 < mk ms p.1 then mk ms p.2 else mk ms p.1) else m
theorem mk_map {n : Nat} {ms : List Int} {f : Int → Int} (hl : ms.length = n) {v : Int} (h0 : 0 ≤ v) (h1 : v < n) : mk (ms.map f) v = f (mk ms v) := by
  unfold mk
  have : v.toNat < ms.length := by omega
  rw [List.getD_eq_getElem?_getD, List.getElem?_map, List.getElem?_eq_getElem this, List.getD_eq_getElem?_getD, List.getElem?_eq_getElem this]
  rfl
theorem relab_ok {n : Nat} {es all : List (Int × Int)} {ms : List Int} {p : Int × Int} (hp : p ∈ all) (ok : EsOk n all) (hs : ∀ q ∈ es, q ∈ all) (l : Low n all ms) (f : Flat es ms) : Low n all (relab ms p) ∧ Flat (es ++ [p]) (relab ms p) := by
  obtain ⟨p1, p2, p3⟩ := ok p hp
  have q1 : (0 : Int) ≤ p.2 := by omega
  have q2 : p.1 < (n : Int) := by omega
  have la := l.lo p.1 p1 q2
  have lb := l.lo p.2 q1 p3
  have ca := l.con p.1 p1 q2
  have cb := l.con p.2 q1 p3
  have cab : Con all (mk ms p.1) (mk ms p.2) := ca.trans ((Con.edge hp (.refl _)).trans cb.symm)
  have at' : ∀ v : Int, 0 ≤ v → v < n → mk (relab ms p) v = if mk ms v = (if mk ms p.2 > mk ms p.1 then mk ms p.2 else mk ms p.1) then (if mk ms p.2 < mk ms p.1 then mk ms p.2 else mk ms p.1) else mk ms v := fun v h0 h1 => mk_map l.len h0 h1
  obtain ⟨hi, lo, e1, e2, hle, hc, hor⟩ : ∃ hi lo : Int, (if mk ms p.2 > mk ms p.1 then mk ms p.2 else mk ms p.1) = hi ∧ (if mk ms p.2 < mk ms p.1 then mk ms p.2 else mk ms p.1) = lo ∧ (0 ≤ lo ∧ lo ≤ hi) ∧ Con all lo hi ∧ ((mk ms p.1 = hi ∧ mk ms p.2 = lo) ∨ (mk ms p.1 = lo ∧ mk ms p.2 = hi)) := by
    by_cases h : mk ms p.2 > mk ms p.1
    · exact ⟨_, _, if_pos h, if_neg (by omega), by omega, cab, .inr ⟨rfl, rfl⟩⟩
    · by_cases h2 : mk ms p.2 < mk ms p.1
      · exact ⟨_, _, if_neg h, if_pos h2, by omega, cab.symm, .inl ⟨rfl, rfl⟩⟩
      · have e : mk ms p.2 = mk ms p.1 := by omega
        exact ⟨_, _, if_neg h, if_neg h2, by omega, .refl _, .inl ⟨rfl, e⟩⟩
  have at2 : ∀ v : Int, 0 ≤ v → v < n → mk (relab ms p) v = if mk ms v = hi then lo else mk ms v := fun v h0 h1 => by rw [at' v h0 h1, e1, e2]
  refine ⟨⟨by simp [relab, l.len], fun v h0 h1 => ?_, fun v h0 h1 => ?_⟩, fun q hq => ?_⟩
  · have lv := l.lo v h0 h1
    rw [at2 v h0 h1]
    split <;> omega
  · have cv := l.con v h0 h1
    rw [at2 v h0 h1]
    split
    · rename_i e; rw [e] at cv; exact hc.trans cv
    · exact cv
  · rcases List.mem_append.mp hq with h | h
    · obtain ⟨a1, a2, a3⟩ := ok q (hs q h)
      rw [at2 q.1 a1 (by omega), at2 q.2 (by omega) a3, f q h]
    · rw [List.mem_singleton] at h
      subst h
      rw [at2 q.1 p1 q2, at2 q.2 q1 p3]
      rcases hor with ⟨x, y⟩ | ⟨x, y⟩ <;> rw [x, y] <;> split <;> (try split) <;> omega
theorem relab_all {n : Nat} {all : List (Int × Int)} (ok : EsOk n all) : ∀ {es done : List (Int × Int)} {ms : List Int}, done ++ es = all → Low n all ms → Flat done ms → Low n all (es.foldl relab ms) ∧ Flat all (es.foldl relab ms)
  | [], done, ms, e, l, f => by
    rw [List.append_nil] at e
    subst e
    exact ⟨l, f⟩
  | p :: r, done, ms, e, l, f => by
    have hp : p ∈ all := by rw [← e]; simp
    obtain ⟨l1, f1⟩ := relab_ok hp ok (fun q h => by rw [← e]; simp [h]) l f
    exact relab_all ok (es := r) (done := done ++ [p]) (ms := relab ms p) (by rw [List.append_assoc]; exact e) l1 f1
end Ip

set_option maxHeartbeats 4000000
namespace Ip
/-! ### by rounds of lowering -/
def lowr (ms : List Int) (p : Int × Int) : List Int :=
  (ms.set p.1.toNat (if mk ms p.2 < mk ms p.1 then mk ms p.2 else mk ms p.1)).set p.2.toNat (if mk ms p.2 < mk ms p.1 then mk ms p.2 else mk ms p.1)
theorem mk_set {n : Nat} {ms : List Int} (hl : ms.length = n) {u v x : Int} (h0 : 0 ≤ v) (h1 : v < n) (u0 : 0 ≤ u) : mk (ms.set u.toNat x) v = if v = u then x else mk ms v := by
  unfold mk
  rw [List.getD_eq_getElem?_getD, List.getElem?_set, List.getD_eq_getElem?_getD]
  by_cases e : v = u
  · subst e
    rw [if_pos rfl, if_pos rfl, if_pos (by omega)]
    rfl
  · rw [if_neg (by omega), if_neg e]
theorem lowr_at {n : Nat} {ms : List Int} (hl : ms.length = n) {p : Int × Int} (p1 : 0 ≤ p.1) (p2 : p.1 < p.2) (p3 : p.2 < n) {v : Int} (h0 : 0 ≤ v) (h1 : v < n) :
    mk (lowr ms p) v = if v = p.1 ∨ v = p.2 then (if mk ms p.2 < mk ms p.1 then mk ms p.2 else mk ms p.1) else mk ms v := by
  unfold lowr
  rw [mk_set (n := n) (by rw [List.length_set]; exact hl) h0 h1 (by omega), mk_set hl h0 h1 p1]
  by_cases a : v = p.2
  · rw [if_pos a, if_pos (show v = p.1 ∨ v = p.2 from Or.inr a)]
  · rw [if_neg a]
    by_cases b : v = p.1
    · rw [if_pos b, if_pos (show v = p.1 ∨ v = p.2 from Or.inl b)]
    · rw [if_neg b, if_neg (show ¬ (v = p.1 ∨ v = p.2) from fun z => z.elim b a)]
theorem lowr_ok {n : Nat} {es : List (Int × Int)} {ms : List Int} {p : Int × Int} (hp : p ∈ es) (ok : EsOk n es) (l : Low n es ms) : Low n es (lowr ms p) ∧ (∀ v : Int, 0 ≤ v → v < n → mk (lowr ms p) v ≤ mk ms v) ∧ mk (lowr ms p) p.1 ≤ mk ms p.2 ∧ mk (lowr ms p) p.2 ≤ mk ms p.1 := by
  obtain ⟨p1, p2, p3⟩ := ok p hp
  have la := l.lo p.1 p1 (by omega)
  have lb := l.lo p.2 (by omega) p3
  have ca := l.con p.1 p1 (by omega)
  have cb := l.con p.2 (by omega) p3
  have cp : Con es p.1 p.2 := .edge hp (.refl _)
  have a1 := lowr_at l.len p1 p2 p3 (v := p.1) p1 (by omega)
  have a2 := lowr_at l.len p1 p2 p3 (v := p.2) (by omega) p3
  rw [if_pos (.inl rfl)] at a1
  rw [if_pos (.inr rfl)] at a2
  refine ⟨⟨by unfold lowr; rw [List.length_set, List.length_set]; exact l.len, fun v h0 h1 => ?_, fun v h0 h1 => ?_⟩, fun v h0 h1 => ?_, ?_, ?_⟩
  · have lv := l.lo v h0 h1
    rw [lowr_at l.len p1 p2 p3 h0 h1]
    split
    · rename_i h
      rcases h with rfl | rfl <;> split <;> omega
    · exact lv
  · rw [lowr_at l.len p1 p2 p3 h0 h1]
    split
    · rename_i h
      rcases h with rfl | rfl
      · split
        · exact cb.trans cp.symm
        · exact ca
      · split
        · exact cb
        · exact ca.trans cp
    · exact l.con v h0 h1
  · rw [lowr_at l.len p1 p2 p3 h0 h1]
    split
    · rename_i h
      rcases h with rfl | rfl <;> split <;> omega
    · exact Int.le_refl _
  · rw [a1]; split <;> omega
  · rw [a2]; split <;> omega
/-- a round -/
theorem round_ok {n : Nat} {all : List (Int × Int)} (ok : EsOk n all) : ∀ {es : List (Int × Int)} {ms : List Int}, (∀ p ∈ es, p ∈ all) → Low n all ms → Low n all (es.foldl lowr ms) ∧ (∀ v : Int, 0 ≤ v → v < n → mk (es.foldl lowr ms) v ≤ mk ms v) ∧ ∀ p ∈ es, mk (es.foldl lowr ms) p.1 ≤ mk ms p.2 ∧ mk (es.foldl lowr ms) p.2 ≤ mk ms p.1
  | [], ms, _, l => ⟨l, fun v _ _ => Int.le_refl _, fun p hp => by cases hp⟩
  | p :: r, ms, hs, l => by
    have hp := hs p List.mem_cons_self
    obtain ⟨p1, p2, p3⟩ := ok p hp
    obtain ⟨l1, d1, e1, e2⟩ := lowr_ok hp ok l
    obtain ⟨l2, d2, e3⟩ := round_ok ok (es := r) (ms := lowr ms p) (fun q hq => hs q (List.mem_cons_of_mem _ hq)) l1
    refine ⟨l2, fun v h0 h1 => Int.le_trans (d2 v h0 h1) (d1 v h0 h1), fun q hq => ?_⟩
    obtain ⟨q1, q2, q3⟩ := ok q (hs q hq)
    rcases List.mem_cons.mp hq with e | e
    · subst e
      have a := d2 q.1 q1 (by omega)
      have b := d2 q.2 (by omega) q3
      exact ⟨Int.le_trans a e1, Int.le_trans b e2⟩
    · have a := d1 q.1 q1 (by omega)
      have b := d1 q.2 (by omega) q3
      obtain ⟨c, d⟩ := e3 q e
      exact ⟨Int.le_trans c b, Int.le_trans d a⟩
theorem countP_lt {α : Type} {p q : α → Bool} {x : α} : ∀ {l : List α}, (∀ y ∈ l, p y = true → q y = true) → x ∈ l → p x = false → q x = true → l.countP p < l.countP q
  | y :: r, h, hx, h1, h2 => by
    have hm : r.countP p ≤ r.countP q := List.countP_mono_left fun z hz => h z (List.mem_cons_of_mem _ hz)
    rcases List.mem_cons.mp hx with e | e
    · subst e
      rw [List.countP_cons_of_neg (by rw [h1]; exact Bool.false_ne_true), List.countP_cons_of_pos h2]
      omega
    · have ih := countP_lt (l := r) (fun z hz => h z (List.mem_cons_of_mem _ hz)) e h1 h2
      cases q1 : p y with
      | false =>
        rw [List.countP_cons_of_neg (by rw [q1]; exact Bool.false_ne_true)]
        cases q2 : q y with
        | false => rw [List.countP_cons_of_neg (by rw [q2]; exact Bool.false_ne_true)]; exact ih
        | true => rw [List.countP_cons_of_pos q2]; omega
      | true => rw [List.countP_cons_of_pos q1, List.countP_cons_of_pos (h y List.mem_cons_self q1)]; omega
def good (ks ms : List Int) (v : Nat) : Bool := decide (mk ms (v : Nat) = mk ks (v : Nat))
/-- a set that keeps to no edge has an edge that leaves it -/
theorem con_leaves {es : List (Int × Int)} {S : Int → Prop} {a b : Int} (h : Con es a b) (hc : ∀ p ∈ es, (S p.1 ↔ S p.2)) : S a ↔ S b := by
  induction h with
  | refl v => exact Iff.rfl
  | edge hp _ ih => exact (hc _ hp).trans ih
  | back hp _ ih => exact (hc _ hp).symm.trans ih
theorem round_more {n : Nat} {es : List (Int × Int)} {ks ms : List Int} (ok : EsOk n es) (k : Low n es ks) (f : Flat es ks) (l : Low n es ms) : (∀ v < n, good ks (es.foldl lowr ms) v = true) ∨ (List.range n).countP (good ks ms) < (List.range n).countP (good ks (es.foldl lowr ms)) := by
  obtain ⟨l2, d2, e2⟩ := round_ok ok (es := es) (fun p hp => hp) l
  have stay : ∀ v : Int, 0 ≤ v → v < n → mk ms v = mk ks v → mk (es.foldl lowr ms) v = mk ks v := fun v h0 h1 e => by
    have a := d2 v h0 h1
    have b := low_le l2 k f h0 h1
    omega
  have mono : ∀ v ∈ List.range n, good ks ms v = true → good ks (es.foldl lowr ms) v = true := fun v hv h => by
    have h := of_decide_eq_true h
    exact decide_eq_true (stay v (by omega) (by have := List.mem_range.mp hv; omega) h)
  by_cases hall : ∀ v < n, good ks ms v = true
  · exact .inl fun v hv => mono v (List.mem_range.mpr hv) (hall v hv)
  · right
    obtain ⟨v, hv, hb⟩ : ∃ v, v < n ∧ good ks ms v = false := by
      apply Classical.byContradiction
      intro hz
      exact hall fun v hv => by
        cases q : good ks ms v with
        | true => rfl
        | false => exact absurd ⟨v, hv, q⟩ hz
    have hb : ¬ mk ms (v : Nat) = mk ks (v : Nat) := of_decide_eq_false hb
    -- the least of the component is good
    have kv := k.lo v (by omega) (by omega)
    have hm : mk ms (mk ks v) = mk ks (mk ks v) := by
      have c := f.con (k.con v (by omega) (by omega))
      have a := l.lo (mk ks v) kv.1 (by omega)
      have b := low_le l k f (v := mk ks v) kv.1 (by omega)
      omega
    have : ¬ ∀ p ∈ es, (mk ms p.1 = mk ks p.1 ↔ mk ms p.2 = mk ks p.2) := fun hc => hb ((con_leaves (S := fun x => mk ms x = mk ks x) (k.con v (by omega) (by omega)) hc).mp hm)
    obtain ⟨p, hp, hne⟩ : ∃ p, p ∈ es ∧ ¬ (mk ms p.1 = mk ks p.1 ↔ mk ms p.2 = mk ks p.2) := by
      apply Classical.byContradiction
      intro hz
      exact this fun p hp => Classical.byContradiction fun hn => hz ⟨p, hp, hn⟩
    obtain ⟨p1, p2, p3⟩ := ok p hp
    have fe := f p hp
    obtain ⟨x1, x2⟩ := e2 p hp
    by_cases h1 : mk ms p.1 = mk ks p.1
    · have h2 : ¬ mk ms p.2 = mk ks p.2 := fun z => hne ⟨fun _ => z, fun _ => h1⟩
      have b := low_le l2 k f (v := p.2) (by omega) p3
      refine countP_lt (x := p.2.toNat) mono (List.mem_range.mpr (by omega)) ?_ ?_
      · unfold good; rw [show ((p.2.toNat : Nat) : Int) = p.2 by omega]; exact decide_eq_false h2
      · unfold good; rw [show ((p.2.toNat : Nat) : Int) = p.2 by omega]; exact decide_eq_true (by omega)
    · have h2 : mk ms p.2 = mk ks p.2 := Classical.byContradiction fun z => hne ⟨fun h => absurd h h1, fun h => absurd h z⟩
      have b := low_le l2 k f (v := p.1) p1 (by omega)
      refine countP_lt (x := p.1.toNat) mono (List.mem_range.mpr (by omega)) ?_ ?_
      · unfold good; rw [show ((p.1.toNat : Nat) : Int) = p.1 by omega]; exact decide_eq_false h1
      · unfold good; rw [show ((p.1.toNat : Nat) : Int) = p.1 by omega]; exact decide_eq_true (by omega)
def rounds (es : List (Int × Int)) : Nat → List Int → List Int
  | 0, ms => ms
  | t + 1, ms => es.foldl lowr (rounds es t ms)
theorem rounds_ok {n : Nat} {es : List (Int × Int)} {ks : List Int} (ok : EsOk n es) (k : Low n es ks) (f : Flat es ks) : ∀ t, Low n es (rounds es t (ids n)) ∧ ((∀ v < n, good ks (rounds es t (ids n)) v = true) ∨ t ≤ (List.range n).countP (good ks (rounds es t (ids n))))
  | 0 => ⟨low_ids n es, .inr (Nat.zero_le _)⟩
  | t + 1 => by
    obtain ⟨l, h⟩ := rounds_ok ok k f t
    obtain ⟨l2, d2, _⟩ := round_ok ok (es := es) (fun p hp => hp) l
    refine ⟨l2, ?_⟩
    rcases round_more ok k f l with a | a
    · exact .inl a
    · rcases h with b | b
      · have : (List.range n).countP (good ks (rounds es t (ids n))) = n := by
          rw [List.countP_eq_length.mpr fun v hv => b v (List.mem_range.mp hv), List.length_range]
        have c := List.countP_le_length (p := good ks (es.foldl lowr (rounds es t (ids n)))) (l := List.range n)
        rw [List.length_range] at c
        omega
      · exact .inr (by show t + 1 ≤ List.countP (good ks (es.foldl lowr (rounds es t (ids n)))) _; omega)
/-- THE MARKS AGREE -/
theorem marks_eq {n : Nat} {es : List (Int × Int)} (ok : EsOk n es) : rounds es n (ids n) = es.foldl relab (ids n) := by
  obtain ⟨k, f⟩ := relab_all ok (es := es) (done := []) rfl (low_ids n es) (fun p hp => by cases hp)
  obtain ⟨l, h⟩ := rounds_ok ok k f n
  have all : ∀ v < n, good (es.foldl relab (ids n)) (rounds es n (ids n)) v = true := by
    rcases h with a | a
    · exact a
    · have c := List.countP_le_length (p := good (es.foldl relab (ids n)) (rounds es n (ids n))) (l := List.range n)
      rw [List.length_range] at c
      have e : (List.range n).countP (good (es.foldl relab (ids n)) (rounds es n (ids n))) = (List.range n).length := by rw [List.length_range]; omega
      exact fun v hv => List.countP_eq_length.mp e v (List.mem_range.mpr hv)
  refine mk_ext l.len k.len fun v h0 h1 => ?_
  have := of_decide_eq_true (all v.toNat (by omega))
  rw [show ((v.toNat : Nat) : Int) = v by omega] at this
  exact this
end Ip

set_option maxHeartbeats 4000000
namespace Ip
open PySem
/-! ### rewriting rules of the small language (printed) -/
def compB (F : Fn) (tg : Tg) (cond elt : E) (own : List Nat) (g : Ga) : D → Rs (Option D) := fun x => match bindT tg x (wipeG g own) with
  | some g' => ((run F cond).t g').bind fun t => if t then ((run F elt).v g').bind fun y => .ok (some y) else .ok none
  | none => .bad
def forB (F : Fn) (B : FnB) (t : Tg) (b : S) : D → Ga → Out := fun x g => match bindT t x g with
  | some g' => exec F B b g'
  | none => .bad
def thenO : Out → (Ga → Out) → Out
  | .nx g, k => k g
  | o, _ => o
@[simp] theorem thenO_nx {g : Ga} {k : Ga → Out} : thenO (.nx g) k = k g := rfl
@[simp] theorem thenO_rt {g : Ga} {d : D} {k : Ga → Out} : thenO (.rt d g) k = .rt d g := rfl
@[simp] theorem thenO_ex {g : Ga} {c : Nat} {k : Ga → Out} : thenO (.ex c g) k = .ex c g := rfl
@[simp] theorem thenO_bk {g : Ga} {k : Ga → Out} : thenO (.bk g) k = .bk g := rfl
@[simp] theorem thenO_ct {g : Ga} {k : Ga → Out} : thenO (.ct g) k = .ct g := rfl
@[simp] theorem thenO_bad {k : Ga → Out} : thenO .bad k = .bad := rfl
@[simp] theorem out_ok {α : Type} {a : α} {g : Ga} {k : α → Out} : (Rs.ok a).out g k = k a := rfl
@[simp] theorem out_ex {α : Type} {c : Nat} {g : Ga} {k : α → Out} : (Rs.ex c : Rs α).out g k = .ex c g := rfl
section
variable (F : Fn) (B : FnB) (g : Ga)
@[simp] theorem rv_k (d : D) : (run F (.k d)).v g = (Rs.ok d) := rfl
@[simp] theorem rr_k (d : D) : (run F (.k d)).r g = (Rs.ok d) := rfl
@[simp] theorem rt_k (d : D) : (run F (.k d)).t g = (Rs.ok d).bind truth := rfl
@[simp] theorem rs_k (d : D) : (run F (.k d)).s g = (Rs.ok d).bind walkD := rfl
@[simp] theorem rv_nil  : (run F (.nil)).v g = (Rs.ok (.tuple [])) := rfl
@[simp] theorem rr_nil  : (run F (.nil)).r g = (Rs.ok (.tuple [])) := rfl
@[simp] theorem rt_nil  : (run F (.nil)).t g = (Rs.ok (.tuple [])).bind truth := rfl
@[simp] theorem rs_nil  : (run F (.nil)).s g = (Rs.ok (.tuple [])).bind walkD := rfl
@[simp] theorem rv_mkT (a : E) : (run F (.mkT a)).v g = ((run F a).v g) := rfl
@[simp] theorem rr_mkT (a : E) : (run F (.mkT a)).r g = ((run F a).v g) := rfl
@[simp] theorem rt_mkT (a : E) : (run F (.mkT a)).t g = ((run F a).v g).bind truth := rfl
@[simp] theorem rs_mkT (a : E) : (run F (.mkT a)).s g = ((run F a).v g).bind walkD := rfl
@[simp] theorem rv_mkL (a : E) : (run F (.mkL a)).v g = (((run F a).v g).bind toL) := rfl
@[simp] theorem rr_mkL (a : E) : (run F (.mkL a)).r g = (((run F a).v g).bind toL) := rfl
@[simp] theorem rt_mkL (a : E) : (run F (.mkL a)).t g = (((run F a).v g).bind toL).bind truth := rfl
@[simp] theorem rs_mkL (a : E) : (run F (.mkL a)).s g = (((run F a).v g).bind toL).bind walkD := rfl
@[simp] theorem rv_bin (o : Bop) (a b : E) : (run F (.bin o a b)).v g = (((run F a).r g).bind fun x => ((run F b).r g).bind fun y => binD o x y) := rfl
@[simp] theorem rr_bin (o : Bop) (a b : E) : (run F (.bin o a b)).r g = (((run F a).r g).bind fun x => ((run F b).r g).bind fun y => binD o x y) := rfl
@[simp] theorem rt_bin (o : Bop) (a b : E) : (run F (.bin o a b)).t g = (((run F a).r g).bind fun x => ((run F b).r g).bind fun y => binD o x y).bind truth := rfl
@[simp] theorem rs_bin (o : Bop) (a b : E) : (run F (.bin o a b)).s g = (((run F a).r g).bind fun x => ((run F b).r g).bind fun y => binD o x y).bind walkD := rfl
@[simp] theorem rv_neg (a : E) : (run F (.neg a)).v g = (((run F a).v g).bind negD) := rfl
@[simp] theorem rr_neg (a : E) : (run F (.neg a)).r g = (((run F a).v g).bind negD) := rfl
@[simp] theorem rt_neg (a : E) : (run F (.neg a)).t g = (((run F a).v g).bind negD).bind truth := rfl
@[simp] theorem rs_neg (a : E) : (run F (.neg a)).s g = (((run F a).v g).bind negD).bind walkD := rfl
@[simp] theorem rv_cmp (o : Cop) (a b : E) : (run F (.cmp o a b)).v g = (((run F a).r g).bind fun x => ((run F b).r g).bind fun y => (cmpD o x y).bind boolD) := rfl
@[simp] theorem rr_cmp (o : Cop) (a b : E) : (run F (.cmp o a b)).r g = (((run F a).r g).bind fun x => ((run F b).r g).bind fun y => (cmpD o x y).bind boolD) := rfl
@[simp] theorem rt_cmp (o : Cop) (a b : E) : (run F (.cmp o a b)).t g = (((run F a).r g).bind fun x => ((run F b).r g).bind fun y => (cmpD o x y).bind boolD).bind truth := rfl
@[simp] theorem rs_cmp (o : Cop) (a b : E) : (run F (.cmp o a b)).s g = (((run F a).r g).bind fun x => ((run F b).r g).bind fun y => (cmpD o x y).bind boolD).bind walkD := rfl
@[simp] theorem rv_chain (o p : Cop) (a b c : E) : (run F (.chain o p a b c)).v g = (((run F a).r g).bind fun x => ((run F b).r g).bind fun y => (cmpD o x y).bind fun t => if t then ((run F c).r g).bind fun z => (cmpD p y z).bind boolD else .ok (.bool false)) := rfl
@[simp] theorem rr_chain (o p : Cop) (a b c : E) : (run F (.chain o p a b c)).r g = (((run F a).r g).bind fun x => ((run F b).r g).bind fun y => (cmpD o x y).bind fun t => if t then ((run F c).r g).bind fun z => (cmpD p y z).bind boolD else .ok (.bool false)) := rfl
@[simp] theorem rt_chain (o p : Cop) (a b c : E) : (run F (.chain o p a b c)).t g = (((run F a).r g).bind fun x => ((run F b).r g).bind fun y => (cmpD o x y).bind fun t => if t then ((run F c).r g).bind fun z => (cmpD p y z).bind boolD else .ok (.bool false)).bind truth := rfl
@[simp] theorem rs_chain (o p : Cop) (a b c : E) : (run F (.chain o p a b c)).s g = (((run F a).r g).bind fun x => ((run F b).r g).bind fun y => (cmpD o x y).bind fun t => if t then ((run F c).r g).bind fun z => (cmpD p y z).bind boolD else .ok (.bool false)).bind walkD := rfl
@[simp] theorem rv_idx (a b : E) : (run F (.idx a b)).v g = (((run F a).r g).bind fun x => ((run F b).v g).bind fun y => idxD x y) := rfl
@[simp] theorem rr_idx (a b : E) : (run F (.idx a b)).r g = (((run F a).r g).bind fun x => ((run F b).v g).bind fun y => idxD x y) := rfl
@[simp] theorem rt_idx (a b : E) : (run F (.idx a b)).t g = (((run F a).r g).bind fun x => ((run F b).v g).bind fun y => idxD x y).bind truth := rfl
@[simp] theorem rs_idx (a b : E) : (run F (.idx a b)).s g = (((run F a).r g).bind fun x => ((run F b).v g).bind fun y => idxD x y).bind walkD := rfl
@[simp] theorem rv_slc (a lo hi : E) : (run F (.slc a lo hi)).v g = (((run F a).r g).bind fun x => (part lo ((run F lo).v g)).bind fun l => (part hi ((run F hi).v g)).bind fun h => slcD x l h) := rfl
@[simp] theorem rr_slc (a lo hi : E) : (run F (.slc a lo hi)).r g = (((run F a).r g).bind fun x => (part lo ((run F lo).v g)).bind fun l => (part hi ((run F hi).v g)).bind fun h => slcD x l h) := rfl
@[simp] theorem rt_slc (a lo hi : E) : (run F (.slc a lo hi)).t g = (((run F a).r g).bind fun x => (part lo ((run F lo).v g)).bind fun l => (part hi ((run F hi).v g)).bind fun h => slcD x l h).bind truth := rfl
@[simp] theorem rs_slc (a lo hi : E) : (run F (.slc a lo hi)).s g = (((run F a).r g).bind fun x => (part lo ((run F lo).v g)).bind fun l => (part hi ((run F hi).v g)).bind fun h => slcD x l h).bind walkD := rfl
@[simp] theorem rv_rev (a : E) : (run F (.rev a)).v g = (((run F a).r g).bind revD) := rfl
@[simp] theorem rr_rev (a : E) : (run F (.rev a)).r g = (((run F a).r g).bind revD) := rfl
@[simp] theorem rt_rev (a : E) : (run F (.rev a)).t g = (((run F a).r g).bind revD).bind truth := rfl
@[simp] theorem rs_rev (a : E) : (run F (.rev a)).s g = (((run F a).r g).bind revD).bind walkD := rfl
@[simp] theorem rv_call (f : Nat) (a : E) : (run F (.call f a)).v g = (((run F a).v g).bind (argsD (F f))) := rfl
@[simp] theorem rr_call (f : Nat) (a : E) : (run F (.call f a)).r g = (((run F a).v g).bind (argsD (F f))) := rfl
@[simp] theorem rt_call (f : Nat) (a : E) : (run F (.call f a)).t g = (((run F a).v g).bind (argsD (F f))).bind truth := rfl
@[simp] theorem rs_call (f : Nat) (a : E) : (run F (.call f a)).s g = (((run F a).v g).bind (argsD (F f))).bind walkD := rfl
@[simp] theorem rv_isi (t : Ty) (a : E) : (run F (.isi t a)).v g = (((run F a).r g).bind (isiR t)) := rfl
@[simp] theorem rr_isi (t : Ty) (a : E) : (run F (.isi t a)).r g = (((run F a).r g).bind (isiR t)) := rfl
@[simp] theorem rt_isi (t : Ty) (a : E) : (run F (.isi t a)).t g = (((run F a).r g).bind (isiR t)).bind truth := rfl
@[simp] theorem rs_isi (t : Ty) (a : E) : (run F (.isi t a)).s g = (((run F a).r g).bind (isiR t)).bind walkD := rfl
@[simp] theorem rv_bl (b : Bl) (a : E) : (run F (.bl b a)).v g = (((run F a).r g).bind (argsD (blD b))) := rfl
@[simp] theorem rr_bl (b : Bl) (a : E) : (run F (.bl b a)).r g = (((run F a).r g).bind (argsD (blD b))) := rfl
@[simp] theorem rt_bl (b : Bl) (a : E) : (run F (.bl b a)).t g = (((run F a).r g).bind (argsD (blD b))).bind truth := rfl
@[simp] theorem rs_bl (b : Bl) (a : E) : (run F (.bl b a)).s g = (((run F a).r g).bind (argsD (blD b))).bind walkD := rfl
@[simp] theorem rv_bl1 (b : Bl) (a : E) : (run F (.bl1 b a)).v g = (((run F a).r g).bind fun d => blD b [d]) := rfl
@[simp] theorem rr_bl1 (b : Bl) (a : E) : (run F (.bl1 b a)).r g = (((run F a).r g).bind fun d => blD b [d]) := rfl
@[simp] theorem rt_bl1 (b : Bl) (a : E) : (run F (.bl1 b a)).t g = (((run F a).r g).bind fun d => blD b [d]).bind truth := rfl
@[simp] theorem rs_bl1 (b : Bl) (a : E) : (run F (.bl1 b a)).s g = (((run F a).r g).bind fun d => blD b [d]).bind walkD := rfl
@[simp] theorem rv_comp (elt : E) (tg : Tg) (src cond : E) (own : List Nat) : (run F (.comp elt tg src cond own)).v g = (((run F src).s g).bind fun xs => (compL (compB F tg cond elt own g) xs).bind fun ys => .ok (.list ys)) := rfl
@[simp] theorem rr_comp (elt : E) (tg : Tg) (src cond : E) (own : List Nat) : (run F (.comp elt tg src cond own)).r g = (((run F src).s g).bind fun xs => (compL (compB F tg cond elt own g) xs).bind fun ys => .ok (.list ys)) := rfl
@[simp] theorem rt_comp (elt : E) (tg : Tg) (src cond : E) (own : List Nat) : (run F (.comp elt tg src cond own)).t g = (((run F src).s g).bind fun xs => (compL (compB F tg cond elt own g) xs).bind fun ys => .ok (.list ys)).bind truth := rfl
@[simp] theorem rs_comp (elt : E) (tg : Tg) (src cond : E) (own : List Nat) : (run F (.comp elt tg src cond own)).s g = (((run F src).s g).bind fun xs => (compL (compB F tg cond elt own g) xs).bind fun ys => .ok (.list ys)).bind walkD := rfl
@[simp] theorem rv_jn (sep : Str) (a : E) : (run F (.jn sep a)).v g = (((run F a).r g).bind (joinD sep)) := rfl
@[simp] theorem rr_jn (sep : Str) (a : E) : (run F (.jn sep a)).r g = (((run F a).r g).bind (joinD sep)) := rfl
@[simp] theorem rt_jn (sep : Str) (a : E) : (run F (.jn sep a)).t g = (((run F a).r g).bind (joinD sep)).bind truth := rfl
@[simp] theorem rs_jn (sep : Str) (a : E) : (run F (.jn sep a)).s g = (((run F a).r g).bind (joinD sep)).bind walkD := rfl
@[simp] theorem rv_fcat (a b : E) : (run F (.fcat a b)).v g = (((run F a).v g).bind fun x => (fmtD x).bind fun y => noEx ((run F b).v g) (catD y)) := rfl
@[simp] theorem rr_fcat (a b : E) : (run F (.fcat a b)).r g = (((run F a).v g).bind fun x => (fmtD x).bind fun y => noEx ((run F b).v g) (catD y)) := rfl
@[simp] theorem rt_fcat (a b : E) : (run F (.fcat a b)).t g = (((run F a).v g).bind fun x => (fmtD x).bind fun y => noEx ((run F b).v g) (catD y)).bind truth := rfl
@[simp] theorem rs_fcat (a b : E) : (run F (.fcat a b)).s g = (((run F a).v g).bind fun x => (fmtD x).bind fun y => noEx ((run F b).v g) (catD y)).bind walkD := rfl
@[simp] theorem rv_spl (a : E) (sep : Str) : (run F (.spl a sep)).v g = (((run F a).v g).bind (splD sep)) := rfl
@[simp] theorem rr_spl (a : E) (sep : Str) : (run F (.spl a sep)).r g = (((run F a).v g).bind (splD sep)) := rfl
@[simp] theorem rt_spl (a : E) (sep : Str) : (run F (.spl a sep)).t g = (((run F a).v g).bind (splD sep)).bind truth := rfl
@[simp] theorem rs_spl (a : E) (sep : Str) : (run F (.spl a sep)).s g = (((run F a).v g).bind (splD sep)).bind walkD := rfl
@[simp] theorem rv_sidx (c : Str) (a : E) : (run F (.sidx c a)).v g = (((run F a).v g).bind (sidxD c)) := rfl
@[simp] theorem rr_sidx (c : Str) (a : E) : (run F (.sidx c a)).r g = (((run F a).v g).bind (sidxD c)) := rfl
@[simp] theorem rt_sidx (c : Str) (a : E) : (run F (.sidx c a)).t g = (((run F a).v g).bind (sidxD c)).bind truth := rfl
@[simp] theorem rs_sidx (c : Str) (a : E) : (run F (.sidx c a)).s g = (((run F a).v g).bind (sidxD c)).bind walkD := rfl
@[simp] theorem rv_var (i : Nat) : (run F (.var i)).v g = slotD g[i]? := rfl
@[simp] theorem rr_var (i : Nat) : (run F (.var i)).r g = readD g[i]? := rfl
@[simp] theorem rt_var (i : Nat) : (run F (.var i)).t g = (readD g[i]?).bind truth := rfl
@[simp] theorem rs_var (i : Nat) : (run F (.var i)).s g = (slotD g[i]?).bind walkD := rfl
@[simp] theorem rv_cons (a b : E) : (run F (.cons a b)).v g = ((run F a).v g).bind fun x => ((run F b).v g).bind (consD x) := rfl
@[simp] theorem rr_cons (a b : E) : (run F (.cons a b)).r g = ((run F a).r g).bind fun x => ((run F b).r g).bind (consD x) := rfl
@[simp] theorem rv_not (a : E) : (run F (.not a)).v g = (((run F a).r g).bind truth).bind fun b => boolD (!b) := rfl
@[simp] theorem rr_not (a : E) : (run F (.not a)).r g = (((run F a).r g).bind truth).bind fun b => boolD (!b) := rfl
@[simp] theorem rt_not (a : E) : (run F (.not a)).t g = ((run F a).t g).bind fun b => Rs.ok (!b) := rfl
@[simp] theorem rv_and (a b : E) : (run F (.and a b)).v g = ((run F a).v g).bind fun x => andD x ((run F b).v g) := rfl
@[simp] theorem rr_and (a b : E) : (run F (.and a b)).r g = ((run F a).v g).bind fun x => andD x ((run F b).v g) := rfl
@[simp] theorem rt_and (a b : E) : (run F (.and a b)).t g = ((run F a).t g).bind fun c => if c then (run F b).t g else .ok false := rfl
@[simp] theorem rv_or (a b : E) : (run F (.or a b)).v g = ((run F a).v g).bind fun x => orD x ((run F b).v g) := rfl
@[simp] theorem rr_or (a b : E) : (run F (.or a b)).r g = ((run F a).v g).bind fun x => orD x ((run F b).v g) := rfl
@[simp] theorem rt_or (a b : E) : (run F (.or a b)).t g = ((run F a).t g).bind fun c => if c then .ok true else (run F b).t g := rfl
@[simp] theorem rv_ife (c a b : E) : (run F (.ife c a b)).v g = ((run F c).t g).bind fun t => if t then (run F a).v g else (run F b).v g := rfl
@[simp] theorem rr_ife (c a b : E) : (run F (.ife c a b)).r g = ((run F c).t g).bind fun t => if t then (run F a).v g else (run F b).v g := rfl
@[simp] theorem rs_rng1 (a : E) : (run F (.rng1 a)).s g = ((run F a).v g).bind rng1D := rfl
@[simp] theorem rs_rngN (a b : E) : (run F (.rngN a b)).s g = ((run F a).v g).bind fun x => ((run F b).v g).bind fun y => rngND x y := rfl
@[simp] theorem rs_rng2 (a b : E) : (run F (.rng2 a b)).s g = ((run F a).v g).bind fun x => ((run F b).v g).bind fun y => rng2D x y := rfl
@[simp] theorem rs_enum (a : E) : (run F (.enum a)).s g = ((run F a).v g).bind enumD := rfl
@[simp] theorem rs_zip (a b : E) : (run F (.zip a b)).s g = ((run F a).v g).bind fun x => ((run F b).v g).bind fun y => zipD x y := rfl
@[simp] theorem x_skip : exec F B .skip g = .nx g := rfl
@[simp] theorem x_seq (a b : S) : exec F B (.seq a b) g = thenO (exec F B a g) (exec F B b) := by
  show (match exec F B a g with | .nx g' => exec F B b g' | o => o) = _
  cases exec F B a g <;> rfl
@[simp] theorem x_asg (t : Tg) (e : E) : exec F B (.asg t e) g = ((run F e).v g).out g fun d => store t d g := rfl
@[simp] theorem x_own (i : Nat) (e : E) : exec F B (.own i e) g = ((run F e).v g).out g fun d => ownO i d g := rfl
@[simp] theorem x_frz (i : Nat) : exec F B (.frz i) g = frzO i g := rfl
@[simp] theorem x_app (i : Nat) (e : E) : exec F B (.app i e) g = if isLst g[i]? then ((run F e).v g).out g fun d => appO i d g else .bad := rfl
@[simp] theorem x_ext (i : Nat) (e : E) : exec F B (.ext i e) g = if isLst g[i]? then ((run F e).v g).out g fun d => extO i d g else .bad := rfl
@[simp] theorem x_setI (i : Nat) (j e : E) : exec F B (.setI i j e) g = ((run F e).v g).out g fun d => if isLst g[i]? then ((run F j).v g).out g fun k => setO i k d g else .bad := rfl
@[simp] theorem x_exp (e : E) : exec F B (.exp e) g = ((run F e).v g).out g fun _ => .nx g := rfl
@[simp] theorem x_ifS (c : E) (a b : S) : exec F B (.ifS c a b) g = ((run F c).t g).out g fun t => if t then exec F B a g else exec F B b g := rfl
@[simp] theorem x_forS (t : Tg) (src : E) (b : S) : exec F B (.forS t src b) g = ((run F src).s g).out g fun xs => loopL (forB F B t b) xs g := rfl
@[simp] theorem x_whl (c : E) (b : S) : exec F B (.whl c b) g = whileL (run F c).t (exec F B b) fuel g := rfl
@[simp] theorem x_ret (e : E) : exec F B (.ret e) g = ((run F e).v g).out g fun d => .rt d g := rfl
@[simp] theorem x_retN : exec F B .retN g = .rt .none g := rfl
@[simp] theorem x_rai (c : Nat) : exec F B (.rai c) g = .ex c g := rfl
@[simp] theorem x_cnt : exec F B .cnt g = .ct g := rfl
@[simp] theorem x_brk : exec F B .brk g = .bk g := rfl
@[simp] theorem x_tryS (ie : Nat) (cs : List Nat) (b : S) (hs : List (Nat × HS)) : exec F B (.tryS ie cs b hs) g = tryO ie cs hs (exec F B b g) := rfl
end
/-! data -/
@[simp] theorem d_add {i j : Int} : binD .add (.int i) (.int j) = .ok (.int (i + j)) := rfl
@[simp] theorem d_sub {i j : Int} : binD .sub (.int i) (.int j) = .ok (.int (i - j)) := rfl
@[simp] theorem d_lt {i j : Int} : cmpD .lt (.int i) (.int j) = .ok (decide (i < j)) := rfl
@[simp] theorem d_le {i j : Int} : cmpD .le (.int i) (.int j) = .ok (decide (i ≤ j)) := rfl
@[simp] theorem d_gt {i j : Int} : cmpD .gt (.int i) (.int j) = .ok (decide (j < i)) := rfl
@[simp] theorem d_ge {i j : Int} : cmpD .ge (.int i) (.int j) = .ok (decide (j ≤ i)) := rfl
@[simp] theorem d_eqI {i j : Int} : cmpD .eq (.int i) (.int j) = .ok (i == j) := rfl
@[simp] theorem d_neI {i j : Int} : cmpD .ne (.int i) (.int j) = .ok (!(i == j)) := rfl
@[simp] theorem d_eqB {i j : Bool} : cmpD .eq (.bool i) (.bool j) = .ok (i == j) := by cases i <;> cases j <;> rfl
@[simp] theorem d_neB {i j : Bool} : cmpD .ne (.bool i) (.bool j) = .ok (!(i == j)) := by cases i <;> cases j <;> rfl
theorem d_mul {i j : Int} (h : -(2 ^ 64) < j ∧ j < 2 ^ 64) : binD .mul (.int i) (.int j) = .ok (.int (i * j)) := by
  show (if okMul i j = true then Rs.ok (PyData.int (i * j)) else .bad) = _
  rw [if_pos (by unfold okMul; rw [decide_eq_true h.1, decide_eq_true h.2]; simp)]
theorem d_mul' {i j : Int} (h : -(2 ^ 64) < i ∧ i < 2 ^ 64) : binD .mul (.int i) (.int j) = .ok (.int (i * j)) := by
  show (if okMul i j = true then Rs.ok (PyData.int (i * j)) else .bad) = _
  rw [if_pos (by unfold okMul; rw [decide_eq_true h.1, decide_eq_true h.2]; simp)]
theorem d_mod {i j : Int} (h : 0 < j) : binD .mod (.int i) (.int j) = .ok (.int (i % j)) := by
  show (if 0 < j then Rs.ok (PyData.int (i % j)) else .bad) = _
  rw [if_pos h]
theorem d_fdiv {i j : Int} (h : 0 < j) (h2 : j < 1073741824) : binD .fdiv (.int i) (.int j) = .ok (.int (i / j)) := by
  show (if decide (0 < j) && decide (j < 1073741824) then Rs.ok (PyData.int (i / j)) else .bad) = _
  rw [decide_eq_true h, decide_eq_true h2]
  rfl
@[simp] theorem d_truB {b : Bool} : truth (.bool b) = .ok b := rfl
@[simp] theorem d_truI {i : Int} : truth (.int i) = .ok (i != 0) := rfl
@[simp] theorem d_truN : truth .none = .ok false := rfl
@[simp] theorem d_truL {xs : List D} : truth (.list xs) = .ok (!xs.isEmpty) := rfl
@[simp] theorem d_truT {xs : List D} : truth (.tuple xs) = .ok (!xs.isEmpty) := rfl
@[simp] theorem d_boolD {b : Bool} : boolD b = .ok (.bool b) := rfl
@[simp] theorem d_walkL {xs : List D} : walkD (.list xs) = .ok xs := rfl
@[simp] theorem d_walkT {xs : List D} : walkD (.tuple xs) = .ok xs := rfl
@[simp] theorem d_consD {x : D} {r : List D} : consD x (.tuple r) = .ok (.tuple (x :: r)) := rfl
@[simp] theorem d_toL {r : List D} : toL (.tuple r) = .ok (.list r) := rfl
@[simp] theorem d_negD {i : Int} : negD (.int i) = .ok (.int (-i)) := rfl
@[simp] theorem d_args {f : List D → Rs D} {r : List D} : argsD f (.tuple r) = f r := rfl
@[simp] theorem d_slot {d : D} : slotD (some (some (.v d))) = .ok d := rfl
@[simp] theorem d_read {d : D} : readD (some (some (.v d))) = .ok d := rfl
@[simp] theorem d_readL {b : Option Nat} {ds : List D} : readD (some (some (.l b ds))) = .ok (.list ds) := rfl
@[simp] theorem d_andT {b : Rs D} : andD (.bool true) b = b := rfl
@[simp] theorem d_andF {b : Rs D} : andD (.bool false) b = .ok (.bool false) := rfl
@[simp] theorem d_orT {b : Rs D} : orD (.bool true) b = .ok (.bool true) := rfl
@[simp] theorem d_orF {b : Rs D} : orD (.bool false) b = b := rfl
@[simp] theorem d_lenL {xs : List D} : blD .len [.list xs] = .ok (.int xs.length) := rfl
@[simp] theorem d_lenT {xs : List D} : blD .len [.tuple xs] = .ok (.int xs.length) := rfl
@[simp] theorem d_lenS {ns : List Int} : blD .len [scrD ns] = .ok (.int ns.length) := by
  show Rs.ok (PyData.int ((ns.map PyData.int).length)) = _
  rw [List.length_map]
@[simp] theorem d_int1B {b : Bool} : blD .int1 [.bool b] = .ok (.int (if b then 1 else 0)) := rfl
@[simp] theorem d_int1 {i : Int} : blD .int1 [.int i] = .ok (.int i) := rfl
@[simp] theorem d_min2 {i j : Int} : blD .min2 [.int i, .int j] = .ok (.int (if j < i then j else i)) := rfl
@[simp] theorem d_max2 {i j : Int} : blD .max2 [.int i, .int j] = .ok (.int (if j > i then j else i)) := rfl
@[simp] theorem d_tupL {xs : List D} : blD .tuple [.list xs] = .ok (.tuple xs) := rfl
@[simp] theorem d_tupT {xs : List D} : blD .tuple [.tuple xs] = .ok (.tuple xs) := rfl
@[simp] theorem d_lstL {xs : List D} : blD .list [.list xs] = .ok (.list xs) := rfl
@[simp] theorem d_lstT {xs : List D} : blD .list [.tuple xs] = .ok (.list xs) := rfl
theorem d_lrng {n : Int} (h0 : 0 ≤ n) (h : n ≤ 1000000) : blD .listRange [.int n] = .ok (.list (rngL 0 n)) := by
  show (if decide (-1000000 ≤ n) && decide (n ≤ 1000000) then Rs.ok (PyData.list (rngL 0 n)) else .bad) = _
  rw [decide_eq_true (show -1000000 ≤ n by omega), decide_eq_true h]
  rfl
theorem d_rng1 {n : Int} (h0 : -1000000 ≤ n) (h : n ≤ 1000000) : rng1D (.int n) = .ok (rngL 0 n) := by
  show (if decide (-1000000 ≤ n) && decide (n ≤ 1000000) then Rs.ok (rngL 0 n) else .bad) = _
  rw [decide_eq_true h0, decide_eq_true h]
  rfl
theorem d_ixT {xs : List D} {j : Nat} {d : D} (h : xs[j]? = some d) : idxD (.tuple xs) (.int (j : Nat)) = .ok d := by
  show (match L2.atI xs (j : Nat) with | some d => Rs.ok d | none => .bad) = _
  rw [L2.atI_nat h]
theorem d_ixL {xs : List D} {j : Nat} {d : D} (h : xs[j]? = some d) : idxD (.list xs) (.int (j : Nat)) = .ok d := by
  show (match L2.atI xs (j : Nat) with | some d => Rs.ok d | none => .bad) = _
  rw [L2.atI_nat h]
theorem d_ixS {ns : List Int} {j : Nat} {k : Int} (h : ns[j]? = some k) : idxD (scrD ns) (.int (j : Nat)) = .ok (.int k) := by
  show (match L2.atI (ns.map PyData.int) (j : Nat) with | some d => Rs.ok d | none => .bad) = _
  rw [L2.atI_nat (v := .int k) (by rw [List.getElem?_map, h]; rfl)]
theorem d_ixI {ns : List Int} {i : Int} (h0 : 0 ≤ i) (h : i < ns.length) : idxD (.list (ns.map .int)) (.int i) = .ok (.int (ns.getD i.toNat 0)) := by
  have e : i = (i.toNat : Nat) := by omega
  have hl : i.toNat < ns.length := by omega
  rw [e]
  rw [d_ixL (j := i.toNat) (d := .int (ns.getD i.toNat 0)) (by rw [List.getElem?_map, List.getElem?_eq_getElem hl, List.getD_eq_getElem?_getD, List.getElem?_eq_getElem hl]; rfl)]
  rfl
@[simp] theorem d_i0 {a : D} {r : List D} : idxD (.tuple (a :: r)) (.int 0) = .ok a := d_ixT (j := 0) rfl
@[simp] theorem d_i1 {a b : D} {r : List D} : idxD (.tuple (a :: b :: r)) (.int 1) = .ok b := d_ixT (j := 1) rfl
@[simp] theorem d_lent0 : lent (some none) = false := rfl
@[simp] theorem d_lentv {d : D} : lent (some (some (.v d))) = false := rfl
@[simp] theorem d_lentl {ds : List D} : lent (some (some (.l none ds))) = false := rfl
/-- a slot that holds some data or nothing -/
def st (o : Option D) : Option Sl := o.map .v
@[simp] theorem st_some {d : D} : st (some d) = some (.v d) := rfl
@[simp] theorem st_none : st none = none := rfl
@[simp] theorem d_lents {o : Option D} : lent (some (st o)) = false := by cases o <;> rfl
@[simp] theorem d_isl {b : Option Nat} {ds : List D} : isLst (some (some (.l b ds))) = true := rfl
@[simp] theorem d_storeN {i : Nat} {d : D} {g : Ga} : store (.nm i) d g = if i < g.length && !lent g[i]? then .nx (g.set i (some (.v d))) else .bad := by
  unfold store bindT
  by_cases h : (decide (i < g.length) && !lent g[i]?) = true
  · rw [if_pos h, if_pos h]
  · rw [if_neg h, if_neg h]
theorem nm_ok {i : Nat} {d : D} {g : Ga} (h : i < g.length) (hl : lent g[i]? = false) : bindT (.nm i) d g = some (g.set i (some (.v d))) := by
  unfold bindT
  rw [if_pos (by rw [decide_eq_true h, hl]; rfl)]
@[simp] theorem d_noEx {d : D} {k : D → Rs D} : noEx (.ok d) k = k d := rfl
/-! loops -/
theorem compL_map {f : D → Rs (Option D)} {h : D → Option D} : ∀ {xs : List D}, (∀ x ∈ xs, f x = .ok (h x)) → compL f xs = .ok (xs.filterMap h)
  | [], _ => rfl
  | x :: r, hx => by
    have ih := compL_map (f := f) (h := h) (xs := r) fun y hy => hx y (List.mem_cons_of_mem _ hy)
    unfold compL
    rw [hx x List.mem_cons_self, ih]
    show Rs.ok _ = _
    cases q : h x with
    | none => rw [List.filterMap_cons_none q]
    | some y => rw [List.filterMap_cons_some q]
theorem loopL_inv {f : D → Ga → Out} (Pv : Nat → Ga → Prop) : ∀ {xs : List D} {n : Nat} {g : Ga}, Pv n g → (∀ i x g, xs[i]? = some x → Pv (n + i) g → ∃ g', (f x g = .nx g' ∨ f x g = .ct g') ∧ Pv (n + i + 1) g') → ∃ g', loopL f xs g = .nx g' ∧ Pv (n + xs.length) g'
  | [], n, g, h, _ => ⟨g, rfl, h⟩
  | x :: r, n, g, h, hs => by
    obtain ⟨g1, e, h1⟩ := hs 0 x g rfl h
    obtain ⟨g2, e2, h2⟩ := loopL_inv Pv (xs := r) (n := n + 1) (g := g1) h1 fun i y g' hy hp => by
      have := hs (i + 1) y g' (by simpa using hy) (by rw [show n + (i + 1) = n + 1 + i by omega]; exact hp)
      rw [show n + (i + 1) + 1 = n + 1 + i + 1 by omega] at this
      exact this
    refine ⟨g2, ?_, by rw [List.length_cons, show n + (r.length + 1) = n + 1 + r.length by omega]; exact h2⟩
    unfold loopL
    rcases e with e | e <;> rw [e] <;> exact e2
end Ip

set_option maxHeartbeats 4000000
namespace Ip
open PySem
/-! ### comparisons of data -/
/-- numbers, truth values, None in lists and tuples, so deep -/
def shp : Nat → D → Bool
  | n + 1, .list xs => xs.all (shp n)
  | n + 1, .tuple xs => xs.all (shp n)
  | _, .none => true
  | _, .bool _ => true
  | _, .int _ => true
  | _, _ => false
theorem lay_all {xs : List D} (h : ∀ x ∈ xs, x.canLay0 = true) : PyData.canLayAll0 xs = true := by
  induction xs with
  | nil => simp [PyData.canLayAll0]
  | cons x r ih => rw [PyData.canLayAll0, h x List.mem_cons_self, ih fun y hy => h y (List.mem_cons_of_mem _ hy)]; rfl
theorem dep_all {n : Nat} {xs : List D} (h : ∀ x ∈ xs, x.depth ≤ n) : PyData.depthAll xs ≤ n := by
  induction xs with
  | nil => simp [PyData.depthAll]
  | cons x r ih =>
    rw [PyData.depthAll]
    exact Nat.max_le.mpr ⟨h x List.mem_cons_self, ih fun y hy => h y (List.mem_cons_of_mem _ hy)⟩
theorem shp_lay : ∀ {n : Nat} {d : D}, shp n d = true → d.canLay0 = true ∧ d.depth ≤ n
  | n, .none, _ => by simp [PyData.canLay0, PyData.depth]
  | n, .bool _, _ => by simp [PyData.canLay0, PyData.depth]
  | n, .int _, _ => by simp [PyData.canLay0, PyData.depth]
  | 0, .str _, h => by simp [shp] at h
  | 0, .list _, h => by simp [shp] at h
  | 0, .tuple _, h => by simp [shp] at h
  | 0, .dict _, h => by simp [shp] at h
  | n + 1, .str _, h => by simp [shp] at h
  | n + 1, .dict _, h => by simp [shp] at h
  | n + 1, .list xs, h => by
    have h : xs.all (shp n) = true := h
    have hx : ∀ x ∈ xs, x.canLay0 = true ∧ x.depth ≤ n := fun x hx => shp_lay (List.all_eq_true.mp h x hx)
    exact ⟨by rw [PyData.canLay0]; exact lay_all fun x h => (hx x h).1, by rw [PyData.depth]; exact Nat.succ_le_succ (dep_all fun x h => (hx x h).2)⟩
  | n + 1, .tuple xs, h => by
    have h : xs.all (shp n) = true := h
    have hx : ∀ x ∈ xs, x.canLay0 = true ∧ x.depth ≤ n := fun x hx => shp_lay (List.all_eq_true.mp h x hx)
    exact ⟨by rw [PyData.canLay0]; exact lay_all fun x h => (hx x h).1, by rw [PyData.depth]; exact Nat.succ_le_succ (dep_all fun x h => (hx x h).2)⟩
theorem shp_shaped {n : Nat} {d : D} (h : shp n d = true) (hn : n ≤ 64) : SeqAt.shaped d = true := by
  obtain ⟨h1, h2⟩ := shp_lay h
  unfold SeqAt.shaped
  rw [h1, decide_eq_true (Nat.le_trans h2 hn)]
  rfl
theorem c_eq {n m : Nat} {a b : D} (ha : shp n a = true) (hb : shp m b = true) (hn : n ≤ 64) (hm : m ≤ 64) : cmpD .eq a b = .ok (PyData.eqv a b) := by
  have : cmpD .eq a b = if SeqAt.shaped a && SeqAt.shaped b then Rs.ok (PyData.eqv a b) else .bad := by cases a <;> cases b <;> rfl
  rw [this, shp_shaped ha hn, shp_shaped hb hm]
  rfl
theorem c_ne {n m : Nat} {a b : D} (ha : shp n a = true) (hb : shp m b = true) (hn : n ≤ 64) (hm : m ≤ 64) : cmpD .ne a b = .ok (!PyData.eqv a b) := by
  have : cmpD .ne a b = if SeqAt.shaped a && SeqAt.shaped b then Rs.ok (!PyData.eqv a b) else .bad := by cases a <;> cases b <;> rfl
  rw [this, shp_shaped ha hn, shp_shaped hb hm]
  rfl
theorem eqvA_refl {xs : List D} (h : ∀ x ∈ xs, PyData.eqv x x = true) : PyData.eqvAll xs xs = true := by
  induction xs with
  | nil => rw [PyData.eqvAll]
  | cons x r ih => rw [PyData.eqvAll, h x List.mem_cons_self, ih fun y hy => h y (List.mem_cons_of_mem _ hy)]; rfl
theorem eqv_refl : ∀ {n : Nat} {d : D}, shp n d = true → PyData.eqv d d = true
  | n, .none, _ => by rw [PyData.eqv]
  | n, .bool _, _ => by rw [PyData.eqv]; exact beq_self_eq_true _
  | n, .int _, _ => by rw [PyData.eqv]; exact beq_self_eq_true _
  | 0, .str _, h => by simp [shp] at h
  | 0, .list _, h => by simp [shp] at h
  | 0, .tuple _, h => by simp [shp] at h
  | 0, .dict _, h => by simp [shp] at h
  | n + 1, .str _, h => by simp [shp] at h
  | n + 1, .dict _, h => by simp [shp] at h
  | n + 1, .list xs, h => by rw [PyData.eqv]; exact eqvA_refl fun x hx => eqv_refl (List.all_eq_true.mp (show xs.all (shp n) = true from h) x hx)
  | n + 1, .tuple xs, h => by rw [PyData.eqv]; exact eqvA_refl fun x hx => eqv_refl (List.all_eq_true.mp (show xs.all (shp n) = true from h) x hx)
theorem eqv_nil {xs : List D} : PyData.eqv (.list xs) (.list []) = xs.isEmpty := by
  cases xs <;> simp [PyData.eqv, PyData.eqvAll]
theorem shp_ints {n : Nat} (ns : List Int) : (ns.map PyData.int).all (shp n) = true := by
  rw [List.all_map, List.all_eq_true]
  intro x _
  cases n <;> rfl
/-- an edge, a graph -/
def eD (p : Int × Int) : D := .tuple [.int p.1, .int p.2]
def grD (n : Int) (es : List (Int × Int)) : D := .tuple [.int n, .tuple (es.map eD)]
theorem shp_eD {n : Nat} (p : Int × Int) : shp (n + 1) (eD p) = true := by
  show [PyData.int p.1, PyData.int p.2].all (shp n) = true
  exact shp_ints [p.1, p.2]
theorem shp_eDs {n : Nat} (es : List (Int × Int)) : (es.map eD).all (shp (n + 1)) = true := by
  rw [List.all_map, List.all_eq_true]
  intro x _
  exact shp_eD x
theorem compL_on {α : Type} {f : D → Rs (Option D)} {φ : α → D} {h : α → Option D} : ∀ {ps : List α}, (∀ p ∈ ps, f (φ p) = .ok (h p)) → compL f (ps.map φ) = .ok (ps.filterMap h)
  | [], _ => rfl
  | x :: r, hx => by
    have ih := compL_on (f := f) (φ := φ) (h := h) (ps := r) fun y hy => hx y (List.mem_cons_of_mem _ hy)
    rw [List.map_cons]
    unfold compL
    rw [hx x List.mem_cons_self, ih]
    show Rs.ok _ = _
    cases q : h x with
    | none => rw [List.filterMap_cons_none q]
    | some y => rw [List.filterMap_cons_some q]
theorem cut_from {xs : List D} : slcD (.tuple xs) (some 1) none = .ok (.tuple xs.tail) := by
  show Rs.ok (PyData.tuple (cutL xs (some 1) none)) = _
  unfold cutL
  rw [show HT.sIx xs.length 0 (some 1) = min 1 xs.length from HT.sIx_nat xs.length 0 1, HT.sIx_none]
  cases xs with
  | nil => rfl
  | cons x r =>
    rw [show min 1 (x :: r).length = 1 by rw [List.length_cons]; omega]
    simp
/-- rising -/
def asc : List Int → Bool
  | a :: b :: r => decide (a < b) && asc (b :: r)
  | _ => true
theorem zip_pairs (ks ms : List Int) : zipL (ks.map .int) (ms.map .int) = (ks.zip ms).map eD := by
  unfold zipL
  rw [List.zip_map, List.map_map]
  rfl
theorem asc_none {d : D} : ∀ ks : List Int, ((ks.zip ks.tail).filterMap fun p => if p.2 ≤ p.1 then some d else none).isEmpty = asc ks
  | [] => rfl
  | [_] => rfl
  | a :: b :: r => by
    have ih := asc_none (d := d) (b :: r)
    show (((a, b) :: (b :: r).zip (b :: r).tail).filterMap _).isEmpty = _
    unfold asc
    by_cases h : b ≤ a
    · rw [List.filterMap_cons_some (b := d) (by simp [h])]
      rw [decide_eq_false (by omega)]
      rfl
    · rw [List.filterMap_cons_none (by simp [h]), ih, decide_eq_true (by omega), Bool.true_and]
def insd (es : List (Int × Int)) (ks : List Int) : Nat := (es.filter fun p => ks.contains p.1 && ks.contains p.2).length
theorem in_ints {a : Int} {ks : List Int} : cmpD .inn (.int a) (.tuple (ks.map .int)) = .ok (ks.contains a) := by
  show inD (.int a) (.tuple (ks.map .int)) = _
  unfold inD
  have h : (ks.map PyData.int).all flatD = true := by rw [List.all_map, List.all_eq_true]; intro x _; rfl
  dsimp only
  rw [h, show flatD (.int a) = true from rfl, Bool.true_and, if_pos rfl, List.any_map]
  congr 1
  induction ks with
  | nil => rfl
  | cons k r ih =>
    rw [List.any_cons, List.contains_cons, ih (by rw [List.all_map, List.all_eq_true]; intro x _; rfl)]
    congr 1
    show PyData.eqv (.int k) (.int a) = (a == k)
    rw [PyData.eqv]
    exact Bool.beq_comm
theorem in_list {a : Int} {ks : List Int} : cmpD .inn (.int a) (.list (ks.map .int)) = .ok (ks.contains a) := by
  show inD (.int a) (.list (ks.map .int)) = _
  unfold inD
  dsimp only
  rw [shp_shaped (n := 1) (d := .int a) rfl (by decide), shp_shaped (n := 1) (d := .list (ks.map .int)) (shp_ints ks) (by decide), Bool.true_and, if_pos rfl, List.any_map]
  congr 1
  induction ks with
  | nil => rfl
  | cons k r ih =>
    rw [List.any_cons, List.contains_cons, ih]
    congr 1
    show PyData.eqv (.int k) (.int a) = (a == k)
    rw [PyData.eqv]
    exact Bool.beq_comm
theorem fm_len {α : Type} {p : α → Bool} {d : D} : ∀ xs : List α, (xs.filterMap fun x => if p x then some d else none).length = (xs.filter p).length
  | [] => rfl
  | x :: r => by
    cases q : p x with
    | true => rw [List.filterMap_cons_some (b := d) (by simp [q]), List.filter_cons_of_pos q, List.length_cons, List.length_cons, fm_len r]
    | false => rw [List.filterMap_cons_none (by simp [q]), List.filter_cons_of_neg (by simp [q]), fm_len r]
theorem eD_get {p : Int × Int} : (eD p) = .tuple [.int p.1, .int p.2] := rfl
end Ip

set_option maxHeartbeats 4000000
namespace Ip
open PySem
/-! ### loops over typed lists -/
theorem loop_fold {α β : Type} {f : D → Ga → Out} {φ : α → D} (P : β → Ga → Prop) (step : β → α → β) : ∀ {xs : List α} {b : β} {g : Ga}, P b g → (∀ b x g, x ∈ xs → P b g → ∃ g', (f (φ x) g = .nx g' ∨ f (φ x) g = .ct g') ∧ P (step b x) g') → ∃ g', loopL f (xs.map φ) g = .nx g' ∧ P (xs.foldl step b) g'
  | [], b, g, h, _ => ⟨g, rfl, h⟩
  | x :: r, b, g, h, hs => by
    obtain ⟨g1, e, h1⟩ := hs b x g List.mem_cons_self h
    obtain ⟨g2, e2, h2⟩ := loop_fold P step (xs := r) (b := step b x) (g := g1) h1 fun b y g hy hp => hs b y g (List.mem_cons_of_mem _ hy) hp
    refine ⟨g2, ?_, h2⟩
    rw [List.map_cons]
    unfold loopL
    rcases e with e | e <;> rw [e] <;> exact e2
theorem compL_some {α : Type} {f : D → Rs (Option D)} {φ h : α → D} {ps : List α} (hp : ∀ p ∈ ps, f (φ p) = .ok (some (h p))) : compL f (ps.map φ) = .ok (ps.map h) := by
  rw [compL_on (h := fun p => some (h p)) hp]
  congr 1
  induction ps with
  | nil => rfl
  | cons x r ih => rw [List.filterMap_cons_some (f := fun p => some (h p)) (a := x) (b := h x) rfl, List.map_cons, ih fun p hm => hp p (List.mem_cons_of_mem _ hm)]
/-- a comprehension that keeps some -/
theorem compL_filter {α : Type} {f : D → Rs (Option D)} {φ h : α → D} {p : α → Bool} {ps : List α} (hp : ∀ x ∈ ps, f (φ x) = .ok (if p x then some (h x) else none)) : compL f (ps.map φ) = .ok ((ps.filter p).map h) := by
  rw [compL_on (h := fun x => if p x then some (h x) else none) hp]
  congr 1
  clear hp
  induction ps with
  | nil => rfl
  | cons x r ih =>
    cases q : p x with
    | true => rw [List.filterMap_cons_some (b := h x) (by simp [q]), List.filter_cons_of_pos q, List.map_cons, ih]
    | false => rw [List.filterMap_cons_none (by simp [q]), List.filter_cons_of_neg (by simp [q]), ih]
theorem rng_ids {n : Int} : rngL 0 n = (ids n.toNat).map .int := by
  unfold rngL ids
  rw [List.map_map, Int.sub_zero]
  apply List.map_congr_left
  intro i _
  show PyData.int (0 + (i : Nat)) = PyData.int (i : Nat)
  rw [Int.zero_add]
theorem mem_ids {n : Nat} {v : Int} : v ∈ ids n ↔ 0 ≤ v ∧ v < n := by
  unfold ids
  rw [List.mem_map]
  constructor
  · rintro ⟨i, h, rfl⟩
    have := List.mem_range.mp h
    omega
  · rintro ⟨h0, h1⟩
    exact ⟨v.toNat, List.mem_range.mpr (by omega), by omega⟩
theorem ids_len (n : Nat) : (ids n).length = n := by simp [ids]
theorem ints_back : ∀ ks : List Int, intsOf (ks.map .int) = some ks
  | [] => rfl
  | k :: r => by
    show (intsOf (r.map PyData.int)).map (k :: ·) = _
    rw [ints_back r]
    rfl
theorem d_sset {ns : List Int} (h : ns.length < 60) : blD .sortedSet [.list (ns.map .int)] = .ok (.list ((sortU ns).map .int)) := by
  show (match intsOf (ns.map .int) with | some ns => if ns.length < 60 then Rs.ok (PyData.list ((sortU ns).map .int)) else .bad | none => .bad) = _
  rw [ints_back]
  dsimp only
  rw [if_pos h]
theorem d_mk {ms : List Int} {v : Int} (h0 : 0 ≤ v) (h : v < ms.length) : idxD (.list (ms.map .int)) (.int v) = .ok (.int (mk ms v)) := d_ixI h0 h
/-- the groups of equal marks -/
def grps (n : Nat) (ms : List Int) : List (List Int) := (sortU ms).map fun m => (ids n).filter fun v => mk ms v == m
def ll (xs : List (List Int)) : D := .list (xs.map fun l => .list (l.map .int))
/-- a tuple of numbers -/
def tD (ks : List Int) : D := .tuple (ks.map .int)
theorem relab_len {ms : List Int} {p : Int × Int} : (relab ms p).length = ms.length := by simp [relab]
theorem relabs_len : ∀ {es : List (Int × Int)} {ms : List Int}, (es.foldl relab ms).length = ms.length
  | [], _ => rfl
  | p :: r, ms => by rw [List.foldl_cons, relabs_len, relab_len]
end Ip

set_option maxHeartbeats 4000000
namespace Ip
open PySem
/-! ### sorting -/
theorem alike_ints : ∀ {xs ys : List Int}, PySem.W.alikeAll (xs.map .int) (ys.map .int) = true
  | [], _ => by rw [List.map_nil, PySem.W.alikeAll]
  | _ :: _, [] => by rw [List.map_nil, List.map_cons, PySem.W.alikeAll]
  | x :: xs, y :: ys => by
    rw [List.map_cons, List.map_cons, PySem.W.alikeAll, PySem.W.alike, alike_ints]
    rfl
theorem alikes_of {xs : List D} (h : ∀ x ∈ xs, ∀ y ∈ xs, PySem.W.alike x y = true) : alikes xs = true := by
  unfold alikes
  rw [List.all_eq_true]
  intro x hx
  rw [List.all_eq_true]
  exact fun y hy => h x hx y hy
theorem srt_map {α : Type} {φ : α → D} {xs : List α} : srt (xs.map φ) = (xs.mergeSort fun a b => PySem.W.dataLe false id (φ a) (φ b)).map φ := by
  unfold srt
  rw [List.map_mergeSort]
  intro a _ b _
  rfl
theorem d_sorted {α : Type} {φ : α → D} {xs : List α} (ha : ∀ x ∈ xs, ∀ y ∈ xs, PySem.W.alike (φ x) (φ y) = true) (ht : (∀ x ∈ xs, isTup1 (φ x) = true) ∨ (∀ x ∈ xs, notTup (φ x) = true)) (hl : xs.length ≤ lim) (hs : ∀ x ∈ xs, shp 60 (φ x) = true) :
    blD .sorted [.list (xs.map φ)] = .ok (.list ((xs.mergeSort fun a b => PySem.W.dataLe false id (φ a) (φ b)).map φ)) := by
  show (if sortOk (xs.map φ) then Rs.ok (PyData.list (srt (xs.map φ))) else .bad) = _
  have h : sortOk (xs.map φ) = true := by
    unfold sortOk
    rw [alikes_of (by
      intro x hx y hy
      obtain ⟨a, ha1, rfl⟩ := List.mem_map.mp hx
      obtain ⟨b, hb1, rfl⟩ := List.mem_map.mp hy
      exact ha a ha1 b hb1), List.length_map, decide_eq_true hl, shp_shaped (n := 61) (d := .list (xs.map φ)) (by
        show (xs.map φ).all (shp 60) = true
        rw [List.all_map, List.all_eq_true]
        exact hs) (by decide)]
    rcases ht with ht | ht
    · rw [show (xs.map φ).all isTup1 = true by rw [List.all_map, List.all_eq_true]; exact ht]
      rfl
    · rw [show (xs.map φ).all notTup = true by rw [List.all_map, List.all_eq_true]; exact ht, Bool.or_true]
      rfl
  rw [if_pos h, srt_map]
/-! ### all sets of nodes -/
def prD (s : List Int) : D := .tuple [.int s.length, tD s]
def subs : Nat → List (List Int)
  | 0 => [[]]
  | n + 1 => subs n ++ (subs n).map (· ++ [(n : Int)])
def sortS (xs : List (List Int)) : List (List Int) := xs.mergeSort fun a b => PySem.W.dataLe false id (prD a) (prD b)
def nsets (n : Nat) (least : Int) : List (List Int) := (sortS (subs n)).filter fun s => decide (least ≤ s.length)
theorem shp_tD {n : Nat} (s : List Int) : shp (n + 1) (tD s) = true := shp_ints s
theorem d_sortS {xs : List (List Int)} (hl : xs.length ≤ lim) : blD .sorted [.list (xs.map prD)] = .ok (.list ((sortS xs).map prD)) := by
  refine d_sorted (φ := prD) (fun x _ y _ => ?_) (.inl fun x _ => rfl) hl fun x _ => ?_
  · unfold prD tD
    rw [PySem.W.alike, PySem.W.alikeAll, PySem.W.alikeAll, PySem.W.alike, PySem.W.alike, alike_ints, PySem.W.alikeAll]
    rfl
  · show [PyData.int x.length, tD x].all (shp 59) = true
    rw [List.all_cons, List.all_cons, shp_tD]
    rfl
theorem subs_len : ∀ n, (subs n).length = 2 ^ n
  | 0 => rfl
  | n + 1 => by
    show (subs n ++ (subs n).map (· ++ [(n : Int)])).length = _
    rw [List.length_append, List.length_map, subs_len n, Nat.pow_succ]
    omega
theorem subs_item : ∀ {n : Nat} {s : List Int}, s ∈ subs n → s.length ≤ n
  | 0, s, h => by
    have h : s ∈ [[]] := h
    rw [List.mem_singleton] at h
    subst h
    exact Nat.le_refl _
  | n + 1, s, h => by
    have h : s ∈ subs n ++ (subs n).map (· ++ [(n : Int)]) := h
    rw [List.mem_append, List.mem_map] at h
    rcases h with h | ⟨t, h, e⟩
    · have := subs_item h
      omega
    · have := subs_item h
      rw [← e]
      rw [List.length_append, List.length_singleton]
      omega
theorem asc_iff : ∀ {ks : List Int}, asc ks = true ↔ ks.Pairwise (· < ·)
  | [] => by simp [asc]
  | [a] => by simp [asc]
  | a :: b :: r => by
    unfold asc
    rw [Bool.and_eq_true, decide_eq_true_iff, asc_iff, List.pairwise_cons (a := a)]
    constructor
    · rintro ⟨h, p⟩
      refine ⟨fun x hx => ?_, p⟩
      rcases List.mem_cons.mp hx with e | e
      · rw [e]; exact h
      · exact Int.lt_trans h ((List.pairwise_cons.mp p).1 x e)
    · rintro ⟨h, p⟩
      exact ⟨h b List.mem_cons_self, p⟩
theorem mem_subs : ∀ {n : Nat} {s : List Int}, s ∈ subs n ↔ s.Pairwise (· < ·) ∧ ∀ x ∈ s, 0 ≤ x ∧ x < n
  | 0, s => by
    show s ∈ [[]] ↔ _
    rw [List.mem_singleton]
    constructor
    · rintro rfl
      exact ⟨.nil, fun x h => by cases h⟩
    · rintro ⟨_, h⟩
      cases s with
      | nil => rfl
      | cons x r =>
        have := h x List.mem_cons_self
        omega
  | n + 1, s => by
    show s ∈ subs n ++ (subs n).map (· ++ [(n : Int)]) ↔ _
    rw [List.mem_append, List.mem_map]
    constructor
    · rintro (h | ⟨t, h, rfl⟩)
      · obtain ⟨h1, h2⟩ := mem_subs.mp h
        exact ⟨h1, fun x hx => by have := h2 x hx; omega⟩
      · obtain ⟨h1, h2⟩ := mem_subs.mp h
        refine ⟨List.pairwise_append.mpr ⟨h1, List.pairwise_singleton _ _, fun a ha b hb => ?_⟩, fun x hx => ?_⟩
        · rw [List.mem_singleton] at hb
          have := h2 a ha
          omega
        · rcases List.mem_append.mp hx with e | e
          · have := h2 x e
            omega
          · rw [List.mem_singleton] at e
            omega
    · rintro ⟨h1, h2⟩
      rcases List.eq_nil_or_concat s with rfl | ⟨t, x, rfl⟩
      · exact .inl (mem_subs.mpr ⟨.nil, fun x h => by cases h⟩)
      · rw [List.concat_eq_append] at h1 h2 ⊢
        obtain ⟨p1, _, p3⟩ := List.pairwise_append.mp h1
        have hx := h2 x (by simp)
        have ht : ∀ y ∈ t, 0 ≤ y ∧ y < x := fun y hy => ⟨(h2 y (by simp [hy])).1, p3 y hy x (by simp)⟩
        by_cases e : x = n
        · subst e
          exact .inr ⟨t, mem_subs.mpr ⟨p1, fun y hy => by have := ht y hy; omega⟩, rfl⟩
        · refine .inl (mem_subs.mpr ⟨h1, fun y hy => ?_⟩)
          rcases List.mem_append.mp hy with q | q
          · have := ht y q
            omega
          · rw [List.mem_singleton] at q
            omega
theorem mem_nsets {n : Nat} {least : Int} {s : List Int} : s ∈ nsets n least ↔ s.Pairwise (· < ·) ∧ (∀ x ∈ s, 0 ≤ x ∧ x < n) ∧ least ≤ s.length := by
  unfold nsets sortS
  rw [List.mem_filter, (List.mergeSort_perm _ _).mem_iff, mem_subs, decide_eq_true_iff, and_assoc]
theorem sortS_len (n : Nat) : (sortS (subs n)).length = 2 ^ n := by
  unfold sortS
  rw [List.length_mergeSort, subs_len]
theorem nsets_len (n : Nat) (least : Int) : (nsets n least).length ≤ 2 ^ n := by
  unfold nsets
  rw [← sortS_len n]
  exact List.length_filter_le _ _
end Ip

set_option maxHeartbeats 4000000
namespace Ip
open PySem
/-! ### more loops, places, cuts -/
theorem loop_foldN {α β : Type} {f : D → Ga → Out} {φ : α → D} (P : Nat → β → Ga → Prop) (step : β → α → β) : ∀ {xs : List α} {n : Nat} {b : β} {g : Ga}, P n b g → (∀ i b x g, xs[i]? = some x → P (n + i) b g → ∃ g', (f (φ x) g = .nx g' ∨ f (φ x) g = .ct g') ∧ P (n + i + 1) (step b x) g') → ∃ g', loopL f (xs.map φ) g = .nx g' ∧ P (n + xs.length) (xs.foldl step b) g'
  | [], n, b, g, h, _ => ⟨g, rfl, h⟩
  | x :: r, n, b, g, h, hs => by
    obtain ⟨g1, e, h1⟩ := hs 0 b x g rfl h
    obtain ⟨g2, e2, h2⟩ := loop_foldN P step (xs := r) (n := n + 1) (b := step b x) (g := g1) h1 fun i b y g hy hp => by
      have := hs (i + 1) b y g (by simpa using hy) (by rw [show n + (i + 1) = n + 1 + i by omega]; exact hp)
      rw [show n + (i + 1) + 1 = n + 1 + i + 1 by omega] at this
      exact this
    refine ⟨g2, ?_, by rw [List.length_cons, show n + (r.length + 1) = n + 1 + r.length by omega]; exact h2⟩
    rw [List.map_cons]
    unfold loopL
    rcases e with e | e <;> rw [e] <;> exact e2
theorem foldl_app {α β : Type} {f : α → β} : ∀ {xs : List α} {b : List β}, xs.foldl (fun a x => a ++ [f x]) b = b ++ xs.map f
  | [], b => by simp
  | x :: r, b => by rw [List.foldl_cons, foldl_app, List.map_cons, List.append_assoc]; rfl
theorem insU_len {x : Int} : ∀ {l : List Int}, (insU x l).length ≤ l.length + 1
  | [] => Nat.le_refl _
  | y :: r => by
    unfold insU
    split
    · exact Nat.le_refl _
    · split
      · exact Nat.le_succ _
      · have := insU_len (x := x) (l := r)
        rw [List.length_cons, List.length_cons]
        omega
theorem idx_mem {xs : List D} {m : Int} (h0 : 0 ≤ m) (h1 : m < xs.length) : ∃ d ∈ xs, idxD (.list xs) (.int m) = .ok d := by
  have hl : m.toNat < xs.length := by omega
  refine ⟨xs[m.toNat], List.getElem_mem hl, ?_⟩
  have := d_ixL (xs := xs) (j := m.toNat) (d := xs[m.toNat]) (List.getElem?_eq_getElem hl)
  rw [show ((m.toNat : Nat) : Int) = m by omega] at this
  exact this
theorem d_ixN {n : Nat} {v : Int} (h0 : 0 ≤ v) (h1 : v < n) : L2.ixN n v = some v.toNat := by
  unfold L2.ixN
  rw [if_pos h0, if_pos h1]
theorem cut_last {α : Type} {t : List α} {x : α} : cutL (t ++ [x]) (some (-1)) none = [x] := by
  unfold cutL
  have h1 : HT.sIx (t ++ [x]).length 0 (some (-1)) = t.length := by
    unfold HT.sIx
    dsimp only
    rw [if_pos (by decide), List.length_append, List.length_singleton]
    omega
  rw [h1, HT.sIx_none, List.drop_left, List.length_append, List.length_singleton, show t.length + 1 - t.length = 1 by omega]
  rfl
theorem cut_init {α : Type} {t : List α} {x : α} : cutL (t ++ [x]) none (some (-1)) = t := by
  unfold cutL
  have h1 : HT.sIx (t ++ [x]).length (t ++ [x]).length (some (-1)) = t.length := by
    unfold HT.sIx
    dsimp only
    rw [if_pos (by decide), List.length_append, List.length_singleton]
    omega
  rw [h1, HT.sIx_none, List.drop_zero, Nat.sub_zero, List.take_left]
theorem cut_map {α β : Type} {f : α → β} {xs : List α} {lo hi : Option Int} : cutL (xs.map f) lo hi = (cutL xs lo hi).map f := by
  unfold cutL
  rw [List.length_map, List.map_take, List.map_drop]
theorem slc_tD {s : List Int} {lo hi : Option Int} : slcD (tD s) lo hi = .ok (tD (cutL s lo hi)) := by
  show Rs.ok (PyData.tuple (cutL (s.map PyData.int) lo hi)) = _
  rw [cut_map]
  rfl
theorem add_tD {s t : List Int} (h : s.length + t.length ≤ lim) : binD .add (tD s) (tD t) = .ok (tD (s ++ t)) := by
  show (if (s.map PyData.int).length + (t.map PyData.int).length ≤ lim then Rs.ok (PyData.tuple (s.map PyData.int ++ t.map PyData.int)) else .bad) = _
  rw [List.length_map, List.length_map, if_pos h, tD, List.map_append]
theorem len_tD {s : List Int} : blD .len [tD s] = .ok (.int s.length) := by
  show Rs.ok (PyData.int (s.map PyData.int).length) = _
  rw [List.length_map]
theorem shp_ll {n : Nat} (xs : List (List Int)) : shp (n + 2) (ll xs) = true := by
  show (xs.map fun l => PyData.list (l.map .int)).all (shp (n + 1)) = true
  rw [List.all_map, List.all_eq_true]
  intro l _
  exact shp_ints l
end Ip

set_option maxHeartbeats 4000000
namespace Ip
open PySem PySem.Spec PyProof.Rows L2
/-! ### the board: plain -/
def upF {α : Type} (E : Int → Option α) (k : Int) (x : α) : Int → Option α := fun j => if j = k then some x else E j
structure Bd where
  k : Int
  out : List (List Int)
  ends : Int → Option (Int × Int)
  sz : Nat
namespace Bd
def outs (B : Bd) (v : Int) : List Int := B.out.getD v.toNat []
def okN (B : Bd) (v : Int) : Prop := 0 ≤ v ∧ v < B.out.length
instance (B : Bd) (v : Int) : Decidable (B.okN v) := inferInstanceAs (Decidable (_ ∧ _))
def free (B : Bd) (v : Int) : Int := B.k - (B.outs v).length
def setO (B : Bd) (v : Int) (l : List Int) : Bd := { B with out := B.out.set v.toNat l }
def setE (B : Bd) (x a b : Int) : Bd := { B with ends := upF B.ends x (a, b) }
end Bd
/-- one step of shift -/
def shiftS (B : Bd) (came : Int → Option (Option Int)) (h : Int) : Option (Bd × Int) := match came h with
  | some (some x) => match B.ends x with
    | some (t, _) => if B.okN t ∧ B.okN h ∧ x ∈ B.outs t ∧ (B.outs h).length < 1000 then
        some ((((B.setO t ((B.outs t).erase x)).setO h (((B.setO t ((B.outs t).erase x)).outs h) ++ [x])).setE x h t), t) else none
    | none => none
  | _ => none
def shiftL : Nat → Bd → (Int → Option (Option Int)) → Int → Int → Option Bd
  | 0, _, _, _, _ => none
  | n + 1, B, came, h, v => if h = v then some B else (shiftS B came h).bind fun p => shiftL n p.1 came p.2 v
/-- the edges that leave a node: the way on, or a head with a pebble -/
inductive Scan where
  | on (came : Int → Option (Option Int)) (cs : Nat) (q : List Int)
  | hit (came : Int → Option (Option Int)) (cs : Nat) (h : Int)
def scanL (B : Bd) : List Int → (Int → Option (Option Int)) → Nat → List Int → Option Scan
  | [], came, cs, q => some (.on came cs q)
  | x :: r, came, cs, q => match B.ends x with
    | some (_, h) => if (came h).isSome then scanL B r came cs q
      else if B.okN h ∧ cs < 1000 ∧ q.length < 1000 then
        (if 0 < B.free h then some (.hit (upF came h (some x)) (cs + 1) h) else scanL B r (upF came h (some x)) (cs + 1) (q ++ [h]))
      else none
    | none => none
def fetchL : Nat → Bd → Int → (Int → Option (Option Int)) → Nat → List Int → Option (Bd × Bool)
  | 0, _, _, _, _, _ => none
  | _ + 1, B, _, _, _, [] => some (B, false)
  | n + 1, B, v, came, cs, c :: q => if B.okN c then match scanL B (B.outs c) came cs q with
      | some (.on came' cs' q') => fetchL n B v came' cs' q'
      | some (.hit came' _ h) => (shiftL 100 B came' h v).map fun B' => (B', true)
      | none => none
    else none
def came0 (v w : Int) : Int → Option (Option Int) := upF (upF (fun _ => none) v none) w none
def fetchM (B : Bd) (v w : Int) : Option (Bd × Bool) := fetchL 100 B v (came0 v w) 2 [v]
def gatherL : Nat → Bd → Int → Int → Int → Option (Bd × Bool)
  | 0, _, _, _, _ => none
  | n + 1, B, a, b, m => if B.okN a ∧ B.okN b then
      (if B.free a + B.free b < m then
        match (if B.free a < B.k then fetchM B a b else some (B, false)) with
        | some (B1, true) => gatherL n B1 a b m
        | some (B1, false) => if B1.okN b then match (if B1.free b < B1.k then fetchM B1 b a else some (B1, false)) with
          | some (B2, true) => gatherL n B2 a b m
          | some (B2, false) => some (B2, false)
          | none => none else none
        | none => none
      else some (B, true))
    else none
def acceptM (B : Bd) (x a b : Int) : Option Bd :=
  if B.okN a ∧ B.okN b ∧ (B.outs a).length < 1000 ∧ (B.outs b).length < 1000 ∧ B.sz < 999 then
    (if 0 < B.free a then some { (B.setO a (B.outs a ++ [x])).setE x a b with sz := B.sz + 1 } else some { (B.setO b (B.outs b ++ [x])).setE x b a with sz := B.sz + 1 })
  else none
def board0 (n k : Int) : Bd := ⟨k, List.replicate n.toNat [], fun _ => none, 0⟩
/-- an edge by its number -/
def edgeAt (es : List (Int × Int)) (x : Int) : Option (Int × Int) := L2.atI es x
def playedL (es : List (Int × Int)) (l : Int) : List Int → Bd → List Int → Option (Bd × List Int)
  | [], B, acc => some (B, acc)
  | x :: r, B, acc => match edgeAt es x with
    | some (a, b) => match gatherL 100 B a b (l + 1) with
      | some (B1, true) => match acceptM B1 x a b with
        | some B2 => if acc.length < 1000 then playedL es l r B2 (acc ++ [x]) else none
        | none => none
      | some (B1, false) => playedL es l r B1 acc
      | none => none
    | none => none
def playedM (n : Int) (es : List (Int × Int)) (k l : Int) (xs : List Int) : Option (Bd × List Int) := if 0 ≤ n ∧ n ≤ 1000 then playedL es l xs (board0 n k) [] else none
/-! ### what the defs of the game give, by data -/
def pairOf : D → Option (Int × Int)
  | .tuple [.int a, .int b] => some (a, b)
  | _ => none
def pairsOf : List D → Option (List (Int × Int))
  | [] => some []
  | x :: r => match pairOf x, pairsOf r with
    | some p, some q => some (p :: q)
    | _, _ => none
def gOf : D → Option (Int × List (Int × Int))
  | .tuple [.int n, .tuple es] => (pairsOf es).map fun l => (n, l)
  | _ => none
def nsOf : D → Option (List Int)
  | .list xs => intsOf xs
  | .tuple xs => intsOf xs
  | _ => none
def accF : List D → Rs D
  | [g, .int k, .int l, xs] => match gOf g, nsOf xs with
    | some (n, es), some ns => match playedM n es k l ns with
      | some (_, acc) => .ok (.list (acc.map .int))
      | none => .bad
    | _, _ => .bad
  | _ => .bad
def endsOf (B : Bd) : List Int → Option (List (Int × Int))
  | [] => some []
  | x :: r => match B.ends x, endsOf B r with
    | some p, some q => some (p :: q)
    | _, _ => none
def playOk (n : Int) (es : List (Int × Int)) (k l : Int) : Prop := 1 ≤ n ∧ n ≤ 7 ∧ es.length ≤ 15 ∧ (∀ p ∈ es, 0 ≤ p.1 ∧ p.1 < p.2 ∧ p.2 < n) ∧ 1 ≤ k ∧ k ≤ 4 ∧ 0 ≤ l ∧ l ≤ 2 * k - 1
instance (n : Int) (es : List (Int × Int)) (k l : Int) : Decidable (playOk n es k l) := by unfold playOk; infer_instance
def playF : List D → Rs D
  | [g, .int k, .int l] => match gOf g with
    | some (n, es) => if playOk n es k l then match playedM n es k l (ids es.length) with
      | some (B, acc) => match endsOf B acc with
        | some ps => if B.out.length = n.toNat then .ok (.tuple [.list (acc.map .int), .list (ps.map eD), .list (((ids n.toNat).map B.free).map .int)]) else .bad
        | none => .bad
      | none => .bad else .bad
    | none => .bad
  | _ => .bad
/-! ### the board on the heap -/
def bf (k : Int) (po pe : Addr) : List (Str × V) := putF "ends" (.ref pe) (putF "out" (.ref po) (putF "k" (.int k) []))
theorem bf_k {k : Int} {po pe : Addr} : (bf k po pe).lookup ("k" : Str) = some (.int k) := by
  unfold bf
  rw [lookup_putF, if_neg (by decide +kernel), lookup_putF, if_neg (by decide +kernel), lookup_putF, if_pos rfl]
theorem bf_out {k : Int} {po pe : Addr} : (bf k po pe).lookup ("out" : Str) = some (.ref po) := by
  unfold bf
  rw [lookup_putF, if_neg (by decide +kernel), lookup_putF, if_pos rfl]
theorem bf_ends {k : Int} {po pe : Addr} : (bf k po pe).lookup ("ends" : Str) = some (.ref pe) := by
  unfold bf
  rw [lookup_putF, if_pos rfl]
theorem bf_no {k : Int} {po pe : Addr} {m : Str} (h1 : ¬ m = "ends") (h2 : ¬ m = "out") (h3 : ¬ m = "k") : (bf k po pe).lookup m = none := by
  unfold bf
  rw [lookup_putF, if_neg h1, lookup_putF, if_neg h2, lookup_putF, if_neg h3]
  rfl
theorem upd_free {H : Hp} {p a : Addr} {o : HO} (h : upd H p o a = none) : H a = none := by
  by_cases e : a = p
  · rw [e, upd_same] at h
    cases h
  · rw [upd_ne e] at h
    exact h
/-- a dict with whole numbers as keys -/
def DV {α : Type} (R : V → α → Prop) (kvs : List (Key × V)) (n : Int) : Option α → Prop
  | some x => ∃ v, valV kvs (Sum.inl n) = some v ∧ R v x
  | none => valV kvs (Sum.inl n) = none
def DR {α : Type} (R : V → α → Prop) (H : Hp) (p : Addr) (E : Int → Option α) (m : Nat) : Prop := ∃ kvs : List (Key × V), H p = some (.dK kvs) ∧ kvs.length ≤ m ∧ ∀ n, DV R kvs n (E n)
theorem DR.get {α : Type} {R : V → α → Prop} {H : Hp} {p : Addr} {E : Int → Option α} {m : Nat} (h : DR R H p E m) {n : Int} {x : α} (e : E n = some x) : ∃ v, DGet H p (.int n) (some v) ∧ R v x := by
  obtain ⟨kvs, h1, _, h3⟩ := h
  have := h3 n
  rw [e] at this
  obtain ⟨v, hv, r⟩ := this
  refine ⟨v, ?_, r⟩
  rw [← hv]
  exact DGet.k (k := Sum.inl n) h1
theorem DR.has {α : Type} {R : V → α → Prop} {H : Hp} {p : Addr} {E : Int → Option α} {m : Nat} (h : DR R H p E m) (n : Int) : ∃ o, DGet H p (.int n) o ∧ o.isSome = (E n).isSome := by
  obtain ⟨kvs, h1, _, h3⟩ := h
  refine ⟨_, DGet.k (k := Sum.inl n) h1, ?_⟩
  have := h3 n
  cases e : E n with
  | none => rw [e] at this; rw [show valV kvs (Sum.inl n) = none from this]; rfl
  | some x =>
    rw [e] at this
    obtain ⟨v, hv, _⟩ := this
    rw [hv]
    rfl
theorem putK_len {kvs : List (Key × V)} {k : Key} {v u : V} (h : valV kvs k = some u) : (putK kvs k v).length = kvs.length := by
  unfold putK
  rw [valV_any, h, if_pos (show (some u).isSome = true from rfl), List.length_map]
theorem DV.put {α : Type} {R : V → α → Prop} {kvs : List (Key × V)} {E : Int → Option α} (h3 : ∀ n, DV R kvs n (E n)) (n : Int) {v : V} {x : α} (r : R v x) : ∀ j, DV R (putK kvs (Sum.inl n) v) j (upF E n x j) := fun j => by
  unfold upF
  by_cases e : j = n
  · rw [if_pos e]
    exact ⟨v, by rw [valV_put, if_pos (by rw [e])], r⟩
  · rw [if_neg e]
    have := h3 j
    cases q : E j with
    | none =>
      rw [q] at this
      show valV (putK kvs (Sum.inl n) v) (Sum.inl j) = none
      rw [valV_put, if_neg (fun z => e (Sum.inl.inj z))]
      exact this
    | some y =>
      rw [q] at this
      obtain ⟨u, h5, h6⟩ := this
      exact ⟨u, by rw [valV_put, if_neg (fun z => e (Sum.inl.inj z))]; exact h5, h6⟩
theorem DR.putX {α : Type} {R : V → α → Prop} {H : Hp} {p : Addr} {E : Int → Option α} {m : Nat} (h : DR R H p E m) (hm : m < sizeLine) (n : Int) {v : V} {x : α} (r : R v x) : ∃ kvs, DPut H p (.int n) v (upd H p (.dK kvs)) ∧ kvs.length ≤ m + 1 ∧ ((E n).isSome = true → kvs.length ≤ m) ∧ ∀ j, DV R kvs j (upF E n x j) := by
  obtain ⟨kvs, h1, h2, h3⟩ := h
  refine ⟨putK kvs (Sum.inl n) v, DPut.k (k := Sum.inl n) h1 (by omega), by have := length_putK kvs (Sum.inl n) v; omega, fun hs => ?_, fun j => ?_⟩
  · have := h3 n
    cases e : E n with
    | none => rw [e] at hs; cases hs
    | some x =>
      rw [e] at this
      obtain ⟨u, hu, _⟩ := this
      rw [putK_len hu]
      exact h2
  · exact DV.put h3 n r j
/-- a new tuple (not of Z) -/
def RE (Z H : Hp) (v : V) (p : Int × Int) : Prop := ∃ t, v = .ref t ∧ H t = some (.tup [.int p.1, .int p.2]) ∧ Z t = none
def RC (v : V) (o : Option Int) : Prop := v = match o with
  | some i => .int i
  | none => .non
structure BAt (C : Addr) (Z H : Hp) (b po pe : Addr) (as : List Addr) (B : Bd) : Prop where
  ob : ∃ dx, H b = some (.ins C dx (bf B.k po pe))
  lst : H po = some (.lst (as.map V.ref))
  nd : as.Nodup
  np : ¬ po ∈ as
  len : as.length = B.out.length
  at_ : ∀ (j : Nat) (a : Addr), as[j]? = some a → ∃ o : List Int, B.out[j]? = some o ∧ H a = some (.lst (o.map V.int))
  en : DR (RE Z H) H pe B.ends B.sz
  fr : ∀ a, H a = none → Z a = none
/-- what stays: all but the board's lists and its dict -/
def Kp (pe : Addr) (as : List Addr) (H H' : Hp) : Prop := ∀ a o, H a = some o → a ≠ pe → ¬ a ∈ as → H' a = some o
theorem Kp.refl {pe : Addr} {as : List Addr} {H : Hp} : Kp pe as H H := fun _ _ h _ _ => h
theorem Kp.trans {pe : Addr} {as : List Addr} {H H1 H2 : Hp} (x : Kp pe as H H1) (y : Kp pe as H1 H2) : Kp pe as H H2 := fun a o h h1 h2 => y a o (x a o h h1 h2) h1 h2
section
variable {C b po pe : Addr} {Z H H' : Hp} {as : List Addr} {B : Bd}
theorem BAt.no_pe (h : BAt C Z H b po pe as B) : ¬ pe ∈ as := fun hm => by
  obtain ⟨j, hj⟩ := List.getElem?_of_mem hm
  obtain ⟨o, _, h2⟩ := h.at_ j pe hj
  obtain ⟨kvs, h3, _⟩ := h.en
  rw [h2] at h3
  cases h3
theorem BAt.node (h : BAt C Z H b po pe as B) {v : Int} (hv : B.okN v) : ∃ a, as[v.toNat]? = some a ∧ a ∈ as ∧ atI (as.map V.ref) v = some (.ref a) ∧ H a = some (.lst ((B.outs v).map V.int)) := by
  have hl : v.toNat < as.length := by rw [h.len]; have := hv.1; have := hv.2; omega
  obtain ⟨o, h1, h2⟩ := h.at_ v.toNat as[v.toNat] (List.getElem?_eq_getElem hl)
  refine ⟨as[v.toNat], List.getElem?_eq_getElem hl, List.getElem_mem hl, ?_, ?_⟩
  · have hv0 := hv.1
    unfold atI ixN
    rw [if_pos hv0, List.length_map, if_pos (by omega)]
    show (as.map V.ref)[v.toNat]? = _
    rw [List.getElem?_map, List.getElem?_eq_getElem hl]
    rfl
  · unfold Bd.outs
    rw [List.getD_eq_getElem?_getD, h1]
    exact h2
/-- other objects change -/
theorem BAt.mono (h : BAt C Z H b po pe as B) (k : ∀ a o, H a = some o → H' a = some o) : BAt C Z H' b po pe as B := by
  obtain ⟨dx, h1⟩ := h.ob
  refine ⟨⟨dx, k _ _ h1⟩, k _ _ h.lst, h.nd, h.np, h.len, fun j a e => ?_, ?_, fun a e => h.fr a (Same.free (fun b o => k b o) e)⟩
  · obtain ⟨o, h2, h3⟩ := h.at_ j a e
    exact ⟨o, h2, k _ _ h3⟩
  · obtain ⟨kvs, h2, h3, h4⟩ := h.en
    refine ⟨kvs, k _ _ h2, h3, fun n => ?_⟩
    have := h4 n
    cases e : B.ends n with
    | none => rw [e] at this; exact this
    | some x =>
      rw [e] at this
      obtain ⟨v, h5, t, h6, h7, h8⟩ := this
      exact ⟨v, h5, t, h6, k _ _ h7, h8⟩
/-- one of the board's lists changes -/
theorem BAt.setL (h : BAt C Z H b po pe as B) {v : Int} (hv : B.okN v) {a : Addr} (ha : as[v.toNat]? = some a) (l : List Int) : BAt C Z (upd H a (.lst (l.map V.int))) b po pe as (B.setO v l) ∧ Kp pe as H (upd H a (.lst (l.map V.int))) := by
  have hm : a ∈ as := List.mem_of_getElem? ha
  obtain ⟨dx, h1⟩ := h.ob
  obtain ⟨o0, _, ha1⟩ := h.at_ _ _ ha
  have nb : b ≠ a := ne_of h1 ha1 (by intro q; cases q)
  have npo : po ≠ a := fun q => h.np (q ▸ hm)
  refine ⟨⟨⟨dx, by rw [upd_ne nb]; exact h1⟩, by rw [upd_ne npo]; exact h.lst, h.nd, h.np, by rw [h.len]; exact (List.length_set ..).symm, fun j c e => ?_, ?_, fun c e => h.fr c (upd_free e)⟩, fun c o e _ q => ?_⟩
  · by_cases ej : j = v.toNat
    · subst ej
      have ec : c = a := Option.some.inj (e.symm.trans ha)
      subst ec
      refine ⟨l, ?_, upd_same⟩
      show (B.out.set v.toNat l)[v.toNat]? = some l
      rw [List.getElem?_set_self (by have := hv.1; have := hv.2; omega)]
    · obtain ⟨o, h2, h3⟩ := h.at_ j c e
      have nc : c ≠ a := fun q => ej (nd_ix h.nd e (by rw [q]; exact ha))
      refine ⟨o, ?_, by rw [upd_ne nc]; exact h3⟩
      show (B.out.set v.toNat l)[j]? = some o
      rw [List.getElem?_set_ne (fun q => ej q.symm)]
      exact h2
  · obtain ⟨kvs, h2, h3, h4⟩ := h.en
    refine ⟨kvs, by rw [upd_ne (ne_of h2 ha1 (by intro q; cases q))]; exact h2, h3, fun n => ?_⟩
    show DV _ kvs n (B.ends n)
    have := h4 n
    cases e : B.ends n with
    | none => rw [e] at this; exact this
    | some x =>
      rw [e] at this
      obtain ⟨u, h5, t, h6, h7, h8⟩ := this
      exact ⟨u, h5, t, h6, by rw [upd_ne (ne_of h7 ha1 (by intro q; cases q))]; exact h7, h8⟩
  · have qa : c ≠ a := fun z => q (by rw [z]; exact hm)
    rw [upd_ne qa]
    exact e
/-- the board's dict changes -/
theorem BAt.putE (h : BAt C Z H b po pe as B) {n x y : Int} {t : Addr} (ht : H t = some (.tup [.int x, .int y])) (hz : Z t = none) (hm : B.sz < 1000) :
    ∃ kvs, DPut H pe (.int n) (.ref t) (upd H pe (.dK kvs)) ∧ Kp pe as H (upd H pe (.dK kvs)) ∧ BAt C Z (upd H pe (.dK kvs)) b po pe as { B.setE n x y with sz := B.sz + 1 } ∧ ((B.ends n).isSome = true → BAt C Z (upd H pe (.dK kvs)) b po pe as (B.setE n x y)) := by
  have hsl : B.sz < sizeLine := Nat.lt_trans hm (by decide)
  obtain ⟨kvs, h1, h2, h3, h4⟩ := h.en.putX hsl n (v := .ref t) (x := (x, y)) ⟨t, rfl, ht, hz⟩
  obtain ⟨kv0, hpe, _⟩ := h.en
  have tupK : ∀ u xs, H u = some (.tup xs) → upd H pe (.dK kvs) u = some (.tup xs) := fun u xs e => by rw [upd_ne (ne_of e hpe (by intro q; cases q))]; exact e
  have base : ∀ m, kvs.length ≤ m → BAt C Z (upd H pe (.dK kvs)) b po pe as { B.setE n x y with sz := m } := fun m hl => by
    obtain ⟨dx, ho⟩ := h.ob
    refine ⟨⟨dx, by rw [upd_ne (ne_of ho hpe (by intro q; cases q))]; exact ho⟩, by rw [upd_ne (ne_of h.lst hpe (by intro q; cases q))]; exact h.lst, h.nd, h.np, h.len, fun j a e => ?_, ⟨kvs, upd_same, hl, fun j => ?_⟩, fun c e => h.fr c (upd_free e)⟩
    · obtain ⟨o, e1, e2⟩ := h.at_ j a e
      exact ⟨o, e1, by rw [upd_ne (ne_of e2 hpe (by intro q; cases q))]; exact e2⟩
    · have := h4 j
      show DV _ kvs j (upF B.ends n (x, y) j)
      cases e : upF B.ends n (x, y) j with
      | none => rw [e] at this; exact this
      | some p =>
        rw [e] at this
        obtain ⟨u, h5, t', h6, h7, h8⟩ := this
        exact ⟨u, h5, t', h6, tupK _ _ h7, h8⟩
  exact ⟨kvs, h1, fun a o e q _ => by rw [upd_ne q]; exact e, base _ h2, fun hs => base _ (h3 hs)⟩
end
end Ip

set_option maxHeartbeats 4000000
namespace Ip
open PySem PySem.Spec PyProof.Rows L2
/-! ### the promises of the board's methods -/
structure BTx (K : PySem.W.Frag) (mg : Str → Option Value) (C : Addr) : Prop where
  cl : Cls K C
  nk : NoAttr K C "k"
  no : NoAttr K C "out"
  ne : NoAttr K C "ends"
  mgC : mg "Board" = some (.ref C)
  len : mg "len" = none
  range : mg "range" = none
def spFree (C : Addr) : Sp := fun vs H Q _ => ∃ (Z : Hp) (b po pe : Addr) (as : List Addr) (B : Bd) (v : Int), vs = [.ref b, .int v] ∧ BAt C Z H b po pe as B ∧ B.okN v ∧ Q (.int (B.free v)) H
def spShift (C : Addr) : Sp := fun vs H Q _ => ∃ (Z : Hp) (b po pe pc : Addr) (as : List Addr) (B B' : Bd) (came : Int → Option (Option Int)) (cs : Nat) (h v : Int), vs = [.ref b, .ref pc, .int h, .int v] ∧ BAt C Z H b po pe as B ∧ B.sz < 1000 ∧ DR RC H pc came cs ∧ pc ≠ pe ∧
  shiftL 100 B came h v = some B' ∧ ∀ H', BAt C Z H' b po pe as B' → Kp pe as H H' → Q .non H'
def spFetch (C : Addr) : Sp := fun vs H Q _ => ∃ (Z : Hp) (b po pe : Addr) (as : List Addr) (B B' : Bd) (v w : Int) (r : Bool), vs = [.ref b, .int v, .int w] ∧ BAt C Z H b po pe as B ∧ B.sz < 1000 ∧ fetchM B v w = some (B', r) ∧ ∀ H', BAt C Z H' b po pe as B' → Kp pe as H H' → Q (.bl r) H'
def spGather (C : Addr) : Sp := fun vs H Q _ => ∃ (Z : Hp) (b po pe : Addr) (as : List Addr) (B B' : Bd) (v w m : Int) (r : Bool), vs = [.ref b, .int v, .int w, .int m] ∧ BAt C Z H b po pe as B ∧ B.sz < 1000 ∧ gatherL 100 B v w m = some (B', r) ∧ ∀ H', BAt C Z H' b po pe as B' → Kp pe as H H' → Q (.bl r) H'
def spAccept (C : Addr) : Sp := fun vs H Q _ => ∃ (Z : Hp) (b po pe : Addr) (as : List Addr) (B B' : Bd) (x v w : Int), vs = [.ref b, .int x, .int v, .int w] ∧ BAt C Z H b po pe as B ∧ acceptM B x v w = some B' ∧ ∀ H', BAt C Z H' b po pe as B' → Kp pe as H H' → Q .non H'
def spInit (C : Addr) : Sp := fun vs H Q _ => ∃ (b dx : Addr) (n k : Int), vs = [.ref b, .int n, .int k] ∧ H b = some (.ins C dx []) ∧ n ≤ 1000 ∧ -1000 ≤ n ∧ ∀ H' po pe as, BAt C H H' b po pe as (board0 n k) → H po = none → H pe = none → (∀ a ∈ as, H a = none) → (∀ a o, H a = some o → a ≠ b → H' a = some o) → Q .non H'
theorem erase_at {ns : List Int} {x : Int} (h : x ∈ ns) : ∃ j : Nat, ns[j]? = some x ∧ (∀ m : Nat, m < j → ns[m]? ≠ some x) ∧ ns.eraseIdx j = ns.erase x := by
  induction ns with
  | nil => cases h
  | cons y r ih =>
    by_cases e : y = x
    · subst e
      exact ⟨0, rfl, fun m hm => by omega, by simp⟩
    · obtain ⟨j, h1, h2, h3⟩ := ih (by rcases List.mem_cons.mp h with q | q; exact absurd q.symm e; exact q)
      refine ⟨j + 1, by simpa using h1, fun m hm => ?_, ?_⟩
      · cases m with
        | zero => simpa using e
        | succ m => simpa using h2 m (by omega)
      · rw [List.eraseIdx_cons_succ, h3, List.erase_cons_tail (by simpa using e)]
theorem shiftS_some {B B2 : Bd} {came : Int → Option (Option Int)} {h t : Int} (e : shiftS B came h = some (B2, t)) : ∃ x y, came h = some (some x) ∧ B.ends x = some (t, y) ∧ B.okN t ∧ B.okN h ∧ x ∈ B.outs t ∧ (B.outs h).length < 1000 ∧ B2 = ((B.setO t ((B.outs t).erase x)).setO h (((B.setO t ((B.outs t).erase x)).outs h) ++ [x])).setE x h t := by
  unfold shiftS at e
  split at e
  · rename_i x hx
    split at e
    · rename_i t' y hy
      split at e
      · rename_i hc
        cases e
        exact ⟨x, y, hx, hy, hc.1, hc.2.1, hc.2.2.1, hc.2.2.2, rfl⟩
      · cases e
    · cases e
  · cases e
theorem okN_setO {B : Bd} {v w : Int} {l : List Int} (h : B.okN v) : (B.setO w l).okN v := ⟨h.1, by show v < ((B.out.set w.toNat l).length : Int); rw [List.length_set]; exact h.2⟩
theorem DR.keep {α : Type} {R : V → α → Prop} {H H' : Hp} {p : Addr} {E : Int → Option α} {m : Nat} (h : DR R H p E m) (k : ∀ o, H p = some o → H' p = some o) : DR R H' p E m := by
  obtain ⟨kvs, h1, h2⟩ := h
  exact ⟨kvs, k _ h1, h2⟩
theorem DR.nin {α : Type} {R : V → α → Prop} {Z H : Hp} {p b po pe C : Addr} {as : List Addr} {B : Bd} {E : Int → Option α} {m : Nat} (h : DR R H p E m) (T : BAt C Z H b po pe as B) : ¬ p ∈ as := fun hm => by
  obtain ⟨j, hj⟩ := List.getElem?_of_mem hm
  obtain ⟨o, _, h2⟩ := T.at_ j p hj
  obtain ⟨kvs, h3, _⟩ := h
  rw [h2] at h3
  cases h3
theorem Kp.new {pe : Addr} {as : List Addr} {H : Hp} {p : Addr} {o : HO} (h : H p = none) : Kp pe as H (upd H p o) := fun a u e _ _ => by rw [upd_ne (ne_of_none e h)]; exact e
theorem new_keep {H : Hp} {p : Addr} {o : HO} (h : H p = none) : ∀ a u, H a = some u → upd H p o a = some u := fun a u e => by rw [upd_ne (ne_of_none e h)]; exact e
theorem outs_setO_len {B : Bd} {t h : Int} {x : Int} (hh : (B.outs h).length < 1000) : ((B.setO t ((B.outs t).erase x)).outs h).length < 1000 := by
  unfold Bd.setO Bd.outs
  rw [List.getD_eq_getElem?_getD]
  by_cases e : h.toNat = t.toNat
  · by_cases hl : t.toNat < B.out.length
    · rw [e, List.getElem?_set_self hl]
      show ((B.outs t).erase x).length < 1000
      have h1 : B.outs t = B.outs h := by unfold Bd.outs; rw [e]
      have h2 : ((B.outs t).erase x).length ≤ (B.outs t).length := by rw [List.length_erase]; split <;> omega
      rw [h1] at h2
      rw [h1]
      omega
    · rw [List.getElem?_eq_none (by rw [List.length_set]; omega)]
      show 0 < 1000
      decide
  · rw [List.getElem?_set_ne (fun q => e q.symm), ← List.getD_eq_getElem?_getD]
    exact hh
theorem DR.two {H : Hp} {p : Addr} {v w : Int} (h : H p = some (.dK (mergeK [] [(Sum.inl v, .non), (Sum.inl w, .non)]))) : DR RC H p (came0 v w) 2 := by
  refine ⟨_, h, ?_, ?_⟩
  · show (putK (putK [] (Sum.inl v) V.non) (Sum.inl w) V.non).length ≤ 2
    have h1 := length_putK (putK ([] : List (Key × V)) (Sum.inl v) V.non) (Sum.inl w) V.non
    have h2 := length_putK ([] : List (Key × V)) (Sum.inl v) V.non
    rw [List.length_nil] at h2
    omega
  · exact DV.put (DV.put (R := RC) (kvs := []) (E := fun _ => none) (fun n => rfl) v (v := .non) (x := none) rfl) w (v := .non) (x := none) rfl
/-- an object away from the board changes -/
theorem BAt.away {C b po pe p : Addr} {Z H : Hp} {as : List Addr} {B : Bd} {o : HO} (h : BAt C Z H b po pe as B) (n1 : p ≠ b) (n2 : p ≠ po) (n3 : p ≠ pe) (n4 : ¬ p ∈ as) (n5 : ∀ xs, H p ≠ some (.tup xs)) : BAt C Z (upd H p o) b po pe as B := by
  obtain ⟨dx, h1⟩ := h.ob
  refine ⟨⟨dx, by rw [upd_ne n1.symm]; exact h1⟩, by rw [upd_ne n2.symm]; exact h.lst, h.nd, h.np, h.len, fun j a e => ?_, ?_, fun c e => h.fr c (upd_free e)⟩
  · obtain ⟨u, h2, h3⟩ := h.at_ j a e
    have na : a ≠ p := fun q => n4 (q ▸ List.mem_of_getElem? e)
    exact ⟨u, h2, by rw [upd_ne na]; exact h3⟩
  · obtain ⟨kvs, h2, h3, h4⟩ := h.en
    refine ⟨kvs, by rw [upd_ne n3.symm]; exact h2, h3, fun n => ?_⟩
    have := h4 n
    cases e : B.ends n with
    | none => rw [e] at this; exact this
    | some x =>
      rw [e] at this
      obtain ⟨v, h5, t, h6, h7, h8⟩ := this
      have nt : t ≠ p := fun q => n5 _ (q ▸ h7)
      exact ⟨v, h5, t, h6, by rw [upd_ne nt]; exact h7, h8⟩
theorem Kp.at_ {pe p : Addr} {as : List Addr} {H H1 : Hp} {o : HO} (h : Kp pe as H H1) (n : H p = none) : Kp pe as H (upd H1 p o) := fun a u e q1 q2 => by
  rw [upd_ne (ne_of_none e n)]
  exact h a u e q1 q2
theorem seqIx0 {n : Nat} : seqIndex? 0 (n + 1) = some 0 := by
  unfold seqIndex?
  simp
def SameB (B B' : Bd) : Prop := B'.sz = B.sz ∧ B'.k = B.k ∧ B'.out.length = B.out.length
theorem SameB.trans {A B C : Bd} (h : SameB A B) (k : SameB B C) : SameB A C := ⟨k.1.trans h.1, k.2.1.trans h.2.1, k.2.2.trans h.2.2⟩
theorem shiftS_same {B B2 : Bd} {came : Int → Option (Option Int)} {h t : Int} (e : shiftS B came h = some (B2, t)) : SameB B B2 := by
  obtain ⟨x, y, _, _, _, _, _, _, rfl⟩ := shiftS_some e
  refine ⟨rfl, rfl, ?_⟩
  show ((B.out.set _ _).set _ _).length = _
  rw [List.length_set, List.length_set]
theorem shiftL_same : ∀ {n : Nat} {B B2 : Bd} {came : Int → Option (Option Int)} {h v : Int}, shiftL n B came h v = some B2 → SameB B B2
  | 0, _, _, _, _, _, e => by cases e
  | n + 1, B, B2, came, h, v, e => by
    unfold shiftL at e
    split at e
    · cases e
      exact ⟨rfl, rfl, rfl⟩
    · obtain ⟨⟨B3, t⟩, e1, e2⟩ := Option.bind_eq_some_iff.mp e
      exact (shiftS_same e1).trans (shiftL_same e2)
theorem fetchL_same : ∀ {n : Nat} {B B2 : Bd} {v : Int} {came : Int → Option (Option Int)} {cs : Nat} {q : List Int} {r : Bool}, fetchL n B v came cs q = some (B2, r) → SameB B B2
  | 0, _, _, _, _, _, _, _, e => by cases e
  | n + 1, B, B2, v, came, cs, [], r, e => by
    cases e
    exact ⟨rfl, rfl, rfl⟩
  | n + 1, B, B2, v, came, cs, c :: q, r, e => by
    unfold fetchL at e
    split at e
    · split at e
      · exact fetchL_same e
      · obtain ⟨B3, e1, e2⟩ := Option.map_eq_some_iff.mp e
        cases e2
        exact shiftL_same e1
      · cases e
    · cases e
theorem putF_len {f : Str} {v : V} : ∀ {fs : List (Str × V)}, (putF f v fs).length ≤ fs.length + 1
  | [] => Nat.le_refl _
  | (g, x) :: r => by
    unfold putF
    split
    · exact Nat.le_succ _
    · exact Nat.succ_le_succ putF_len
theorem acceptM_same {B B2 : Bd} {x a b : Int} (e : acceptM B x a b = some B2) : B2.sz < 1000 ∧ B2.k = B.k ∧ B2.out.length = B.out.length := by
  unfold acceptM at e
  split at e
  · rename_i hc
    have := hc.2.2.2.2
    split at e
    · cases e
      refine ⟨?_, rfl, ?_⟩
      · show B.sz + 1 < 1000
        omega
      · show (B.out.set _ _).length = _
        rw [List.length_set]
    · cases e
      refine ⟨?_, rfl, ?_⟩
      · show B.sz + 1 < 1000
        omega
      · show (B.out.set _ _).length = _
        rw [List.length_set]
  · cases e
theorem gatherL_same : ∀ {n : Nat} {B B2 : Bd} {a b m : Int} {r : Bool}, gatherL n B a b m = some (B2, r) → SameB B B2
  | 0, _, _, _, _, _, _, e => by cases e
  | n + 1, B, B2, a, b, m, r, e => by
    have fx : ∀ {B1 B' : Bd} {c d : Int} {r' : Bool}, (if B1.free c < B1.k then fetchM B1 c d else some (B1, false)) = some (B', r') → SameB B1 B' := fun {B1 B' c d r'} h => by
      split at h
      · exact fetchL_same h
      · cases h
        exact ⟨rfl, rfl, rfl⟩
    unfold gatherL at e
    split at e
    · split at e
      · split at e
        · rename_i h
          exact (fx h).trans (gatherL_same e)
        · rename_i h
          split at e
          · split at e
            · rename_i h2
              exact ((fx h).trans (fx h2)).trans (gatherL_same e)
            · rename_i h2
              cases e
              exact (fx h).trans (fx h2)
            · cases e
          · cases e
        · cases e
      · cases e
        exact ⟨rfl, rfl, rfl⟩
    · cases e
theorem BAt.weak {C b po pe : Addr} {Z Z' H : Hp} {as : List Addr} {B : Bd} (h : BAt C Z H b po pe as B) (k : ∀ a, Z a = none → Z' a = none) : BAt C Z' H b po pe as B := by
  refine ⟨h.ob, h.lst, h.nd, h.np, h.len, h.at_, ?_, fun a e => k a (h.fr a e)⟩
  obtain ⟨kvs, h2, h3, h4⟩ := h.en
  refine ⟨kvs, h2, h3, fun n => ?_⟩
  have := h4 n
  cases e : B.ends n with
  | none => rw [e] at this; exact this
  | some x =>
    rw [e] at this
    obtain ⟨v, h5, t, h6, h7, h8⟩ := this
    exact ⟨v, h5, t, h6, h7, k _ h8⟩
/-- the graph on the heap -/
theorem pairs_heap {K : PySem.W.Frag} {Hb : Hp} : ∀ {vs : List V} {ds : List D} {es : List (Int × Int)}, RpAll K Hb vs ds → pairsOf ds = some es → es.length = vs.length ∧ ∀ (j : Nat) (p : Int × Int), es[j]? = some p → ∃ t, vs[j]? = some (.ref t) ∧ Hb t = some (.tup [.int p.1, .int p.2])
  | _, _, es, .nil, e => by
    cases e
    exact ⟨rfl, fun j p h => by simp at h⟩
  | _, d :: ds, es, .cons (v := v) (vs := vs) h r, e => by
    unfold pairsOf at e
    split at e
    · rename_i p q h1 h2
      cases e
      obtain ⟨l, k⟩ := pairs_heap r h2
      refine ⟨congrArg (· + 1) l, fun j p' hj => ?_⟩
      cases j with
      | zero =>
        cases hj
        unfold pairOf at h1
        split at h1
        · cases h1
          cases h with
          | tup hs ha =>
            cases ha with
            | cons a1 a2 => cases a1 with
              | int => cases a2 with
                | cons a3 a4 => cases a3 with
                  | int => cases a4 with
                    | nil => exact ⟨_, rfl, hs⟩
        · cases h1
      | succ j => exact k j p' (by simpa using hj)
    · cases e
theorem graph_heap {K : PySem.W.Frag} {Hb : Hp} {v : V} {g : D} {n : Int} {es : List (Int × Int)} (h : Rp K Hb v g) (e : gOf g = some (n, es)) : ∃ a a2 xs, v = .ref a ∧ Hb a = some (.tup [.int n, .ref a2]) ∧ Hb a2 = some (.tup xs) ∧ es.length = xs.length ∧ ∀ (x : Int) (p : Int × Int), atI es x = some p → ∃ t, atI xs x = some (.ref t) ∧ Hb t = some (.tup [.int p.1, .int p.2]) := by
  unfold gOf at e
  split at e
  · rename_i n' ds
    obtain ⟨l, hl, he⟩ := Option.map_eq_some_iff.mp e
    cases he
    cases h with
    | tup hs ha =>
      cases ha with
      | cons a1 a2 => cases a1 with
        | int => cases a2 with
          | cons a3 a4 => cases a4 with
            | nil => cases a3 with
              | tup hs2 ha2 =>
                obtain ⟨l1, k⟩ := pairs_heap ha2 hl
                refine ⟨_, _, _, rfl, hs, hs2, l1, fun x p hx => ?_⟩
                unfold atI at hx ⊢
                rw [← l1]
                cases q : ixN es.length x with
                | none => rw [q] at hx; cases hx
                | some j =>
                  rw [q] at hx
                  exact k j p hx
  · cases e
theorem nums_heap {K : PySem.W.Frag} {Hb : Hp} {v : V} {d : D} {ns : List Int} (h : Rp K Hb v d) (e : nsOf d = some ns) : ∃ a, v = .ref a ∧ (Hb a = some (.lst (ns.map V.int)) ∨ Hb a = some (.tup (ns.map V.int))) := by
  cases h with
  | lst hs ha =>
    have e : intsOf _ = some ns := e
    exact ⟨_, rfl, .inl (by rw [← ha.intsOfV e]; exact hs)⟩
  | tup hs ha =>
    have e : intsOf _ = some ns := e
    exact ⟨_, rfl, .inr (by rw [← ha.intsOfV e]; exact hs)⟩
  | _ => cases e
def spPlayed (K : PySem.W.Frag) (C : Addr) : Sp := fun vs H Q _ => ∃ (Hb : Hp) (vg vx : V) (g xs : D) (n : Int) (es : List (Int × Int)) (k l : Int) (ns : List Int) (B : Bd) (acc : List Int), vs = [vg, .int k, .int l, vx] ∧ Same Hb H ∧ Rp K Hb vg g ∧ Rp K Hb vx xs ∧ gOf g = some (n, es) ∧ nsOf xs = some ns ∧ playedM n es k l ns = some (B, acc) ∧
  ∀ H' t b po pe as pa, H' t = some (.tup [.ref b, .ref pa]) → BAt C H H' b po pe as B → H' pa = some (.lst (acc.map V.int)) → H pa = none → Same H H' → Q (.ref t) H'
/-- all that is new is seen -/
def seenH (Hb H H' : Hp) : Hp := fun a => if (H a).isSome then Hb a else H' a
theorem grAll {Hb H H' : Hp} (sm : Same Hb H) (s : Same H H') : Gr Hb H (seenH Hb H H') H' := by
  refine ⟨fun a o e => ?_, s, fun a o e => ?_, fun a e1 e2 => ?_⟩
  · unfold seenH
    rw [sm a o e, if_pos (show (some o).isSome = true from rfl)]
    exact e
  · unfold seenH at e
    cases q : H a with
    | none => rw [q, if_neg (by exact Bool.false_ne_true)] at e; exact e
    | some u =>
      rw [q, if_pos (show (some u).isSome = true from rfl)] at e
      exact s a o (sm a o e)
  · unfold seenH
    cases q : H a with
    | none => exact absurd q e2
    | some u => rw [if_pos (show (some u).isSome = true from rfl)]; exact e1
theorem seen_new {Hb H H' : Hp} {a : Addr} (h : H a = none) : seenH Hb H H' a = H' a := by
  unfold seenH
  rw [h, if_neg (by exact Bool.false_ne_true)]
theorem rp_ints {K : PySem.W.Frag} {H : Hp} : ∀ ns : List Int, RpAll K H (ns.map V.int) (ns.map PyData.int)
  | [] => .nil
  | n :: r => .cons (.int n) (rp_ints r)
theorem accF_some {ds : List D} {d : D} (h : accF ds = .ok d) : ∃ g k l xs n es ns B acc, ds = [g, .int k, .int l, xs] ∧ gOf g = some (n, es) ∧ nsOf xs = some ns ∧ playedM n es k l ns = some (B, acc) ∧ d = .list (acc.map .int) := by
  unfold accF at h
  split at h
  · split at h
    · split at h
      · rename_i h3
        cases h
        exact ⟨_, _, _, _, _, _, _, _, _, rfl, by assumption, by assumption, h3, rfl⟩
      · cases h
    · cases h
  · cases h
theorem accF_bad {ds : List D} : (∃ d, accF ds = .ok d) ∨ accF ds = .bad := by
  unfold accF
  split
  · split
    · split
      · exact .inl ⟨_, rfl⟩
      · exact .inr rfl
    · exact .inr rfl
  · exact .inr rfl
/-- one method, as the top has written it -/
def MFact (K : PySem.W.Frag) (C : Addr) (m qual : Str) (st : Stmt) : Prop := ∃ f fd, Meth K C m f ∧ Fun K m qual st f fd
theorem mfact {K : PySem.W.Frag} {C f : Addr} {m qual : Str} {st : Stmt} {oc : Value} {od : Option Addr} {kV doc pm : Value} {an : Option Addr} {cdv ct : Value} {osl : Array (Option Value)} (a : PySem.W.findIn K (.ref C) m = some (some (.ref f))) (i : PySem.W.isFn K (.ref f) = true)
    (l : K.lookup f = some ⟨oc, od, .func (PySem.W.fnOf m qual (defArgs st) (defBody st) (defScope st) .none kV doc pm an cdv ct), osl⟩) (c : PySem.W.codeIn K cdv qual = true) (k : PySem.W.keepIn K (.ref f) = true) : MFact K C m qual st := ⟨f, _, ⟨a, i, k⟩, fun_mk l c k⟩
/-- a new address is none of the board's -/
theorem BAt.fresh {C b po pe p : Addr} {Z H : Hp} {as : List Addr} {B : Bd} (h : BAt C Z H b po pe as B) (n : H p = none) : p ≠ b ∧ p ≠ po ∧ p ≠ pe ∧ ¬ p ∈ as := by
  obtain ⟨dx, h1⟩ := h.ob
  obtain ⟨kvs, h2, _⟩ := h.en
  refine ⟨(ne_of_none h1 n).symm, (ne_of_none h.lst n).symm, (ne_of_none h2 n).symm, fun hm => ?_⟩
  obtain ⟨j, hj⟩ := List.getElem?_of_mem hm
  obtain ⟨u, _, h3⟩ := h.at_ j p hj
  rw [n] at h3
  cases h3
end Ip

set_option maxHeartbeats 4000000
namespace Ip
open PySem PySem.Spec PyProof.Rows L2
/-! ### an error class with its own __init__ that calls that of its own base -/
section
variable {X : Cx} {e : Expr} {es : List Expr} {ta : TA} {p1 p2 pos : Pos} {x : Str} {G : Addr}
structure BaseF (K : PySem.W.Frag) (G : Addr) : Prop where
  ga : PySem.W.specialIn K (.ref G) "__getattribute__" = some (some (.builtin "type.__getattribute__"))
  ty : PySem.W.typeIn K (.ref G) = some (.type "type")
  rd : PySem.W.readsIn K G (.type "type") = true
  fi : PySem.W.findCls K (.ref G) (.type "type") "__init__" = some (.val (.builtin "ValueError.__init__"))
theorem pe_baseinit {pl : Sem Bool} (hg : Gl X x) (hm : X.mg x = some (.ref G)) (T : BaseF X.K G) (ha : PA X (e :: es) ta)
    (hc : eval (.Call (.Attribute (.Name x p1) "__init__" p2) (e :: es) [] pos) X.env = (do
      let ov ← eval (.Name x p1) X.env
      standAt p2.atName
      let (f, first) ← holding [ov] (getMethod ov "__init__" pl)
      callWith pos f first (backTo pos (starEach (e :: es) X.env)) (backToKw pos (keywordEach [] X.env))) := by rfl)
    (hdb : (x == ("__debug__" : Str)) = false := by decide) (he : starEach (e :: es) X.env = (false, eval e X.env) :: starEach es X.env := by rfl) (hpl : (backTo pos (starEach es X.env)).any (·.1) = false := by rfl) :
    PE X (.Call (.Attribute (.Name x p1) "__init__" p2) (e :: es) [] pos) (tVeI X.K ta) := by
  refine ⟨fun pins s σ H Q I h => PySem.W.methodCall_KW (ld_glob I hg hm ?_ hdb) hc⟩
  obtain ⟨m, fr⟩ := I.fr
  refine PySem.W.method_of_cls fr I.ok.mod.kin T.ga (PySem.W.cls_val fr I.ok.mod.kin T.ty T.rd T.fi (by decide +kernel) ?_)
  show wpAny _ _ (callWith pos (Value.builtin "ValueError.__init__") [] (backTo pos (starEach (e :: es) X.env)) []) _ _ _
  refine PyProof.Rows.callWith_method1 (thn (ha.run pos pins _ σ H _ (I.tok _) h) fun us s1 z => ?_) he hpl
  obtain ⟨vs, H1, I1, r1, a, C, ws, rfl, hl, T2, ea, q⟩ := z
  cases r1 with
  | @cons _ u0 _ ur ra rr =>
    have e0 : u0 = Value.ref a := ra
    subst e0
    refine oinit_ok T2 I1 ea ?_ fun s' J => ⟨.non, H1, J, rfl, q⟩
    rw [← Paired.length rr, sizeLine_eq]
    omega
end
/-! ### ParseError, as the top has written it -/
def isInit : Option PySem.W.CFound → Bool
  | some (.val (.builtin t)) => t == "ValueError.__init__"
  | _ => false
theorem isInit_of {o : Option PySem.W.CFound} (h : isInit o = true) : o = some (.val (.builtin "ValueError.__init__")) := by
  unfold isInit at h
  split at h
  · rw [show _ = "ValueError.__init__" from eq_of_beq h]
  · cases h
def pxB (K : PySem.W.Frag) (C G : Addr) (cs : List Addr) : Bool :=
  isRf C (PySem.W.nsIn K mainGlobals "ParseError") && (isRf G (PySem.W.nsIn K mainGlobals "GraphError") && (isBlt "object.__setattr__" (PySem.W.findIn K (.ref C) "__setattr__") && (isB true (PySem.W.subIn K (.ref C) (.type "BaseException")) && (isTyp "type" (PySem.W.typeIn K (.ref C)) && (PySem.W.keepIn K (.ref C) &&
    (isBlt "BaseException.__getattribute__" (PySem.W.findIn K (.ref C) "__getattribute__") && (isNo (PySem.W.findIn K (.ref C) "__getattr__") && (PySem.W.hasDictIn K C && (isNo (PySem.W.findIn K (.ref C) "line") && (isBlt "object.__class__" (PySem.W.findIn K (.ref C) "__class__") &&
      (isBlt "getset_descriptor.__get__" (PySem.W.specialIn K (.builtin "object.__class__") "__get__") && (isB true (PySem.W.takesIn K (.builtin "object.__class__")) && (isB true (PySem.W.mroIn K C (.type "object")) && (((List.range cs.length).all fun d => isB (decide (d = 0)) (PySem.W.kitOne K (.ref C) (.ref (cs.getD d 0)))) &&
        (isB true (PySem.W.exmOne K (.ref C) (.ref C)) && (isBlt "type.__getattribute__" (PySem.W.specialIn K (.ref G) "__getattribute__") && (isTyp "type" (PySem.W.typeIn K (.ref G)) && (PySem.W.readsIn K G (.type "type") && isInit (PySem.W.findCls K (.ref G) (.type "type") "__init__")))))))))))))))))))
theorem oex_of {K : PySem.W.Frag} {C G : Addr} {nm q : Str} {N : Addr} {bs : List Value} {sn : List Str} {sub : List Value} {ab : Bool} {col : Option Bool} {dd : Option Addr} {k0 k1 k2 k3 k5 : Option Value}
    (l : K.lookup C = some (excClassObj nm q C N bs [.ref G, .type "ValueError", .type "Exception", .type "BaseException", .type "object"] true sn sub ab col dd k0 k1 k2 k3 k5 "ValueError.__new__")) : ∃ nm q N bs bm sn sub ab col dd k0 k1 k2 k3 k5, K.lookup C = some (excClassObj nm q C N bs bm true sn sub ab col dd k0 k1 k2 k3 k5 "ValueError.__new__") ∧ PySem.HandSPX.refsVE bm = true :=
  ⟨_, _, _, _, _, _, _, _, _, _, _, _, _, _, _, l, by rfl⟩
structure PxR (K : PySem.W.Frag) (mg : Str → Option Value) (C G : Addr) (cs : List Addr) : Prop where
  g : mg "ParseError" = some (.ref C)
  gG : mg "GraphError" = some (.ref G)
  sa : PySem.W.findIn K (.ref C) "__setattr__" = some (some (.builtin "object.__setattr__"))
  exC : PySem.W.subIn K (.ref C) (.type "BaseException") = some true
  tyC : PySem.W.typeIn K (.ref C) = some (.type "type")
  kC : PySem.W.keepIn K (.ref C) = true
  no : PySem.W.findIn K (.ref C) "line" = some none
  ask : PySem.W.AskF K C
  kit : ∀ d, d < cs.length → PySem.W.kitOne K (.ref C) (.ref (cs.getD d 0)) = some (decide (d = 0))
  exm : PySem.W.exmOne K (.ref C) (.ref C) = some true
  bs : BaseF K G
theorem pxr_of {K : PySem.W.Frag} {mg : Str → Option Value} {h : Heap} {C G : Addr} {cs : List Addr} (X : K.In h) (Gl : h.Ns mainGlobals mg) (hp : pxB K C G cs = true) : PxR K mg C G cs := by
  unfold pxB at hp
  obtain ⟨a1, hp⟩ := and2 hp
  obtain ⟨a2, hp⟩ := and2 hp
  obtain ⟨a3, hp⟩ := and2 hp
  obtain ⟨a4, hp⟩ := and2 hp
  obtain ⟨a5, hp⟩ := and2 hp
  obtain ⟨a6, hp⟩ := and2 hp
  obtain ⟨a7, hp⟩ := and2 hp
  obtain ⟨a8, hp⟩ := and2 hp
  obtain ⟨a9, hp⟩ := and2 hp
  obtain ⟨a10, hp⟩ := and2 hp
  obtain ⟨a11, hp⟩ := and2 hp
  obtain ⟨a12, hp⟩ := and2 hp
  obtain ⟨a13, hp⟩ := and2 hp
  obtain ⟨a14, hp⟩ := and2 hp
  obtain ⟨a15, hp⟩ := and2 hp
  obtain ⟨a16, hp⟩ := and2 hp
  obtain ⟨a17, hp⟩ := and2 hp
  obtain ⟨a18, hp⟩ := and2 hp
  obtain ⟨a19, a20⟩ := and2 hp
  exact ⟨PySem.W.mg_of X Gl (isRf_of a1), PySem.W.mg_of X Gl (isRf_of a2), isBlt_of a3, isB_of a4, isTyp_of a5, a6, isNo_of a10, ⟨isBlt_of a7, isNo_of a8, isB_of a4, a9, isBlt_of a11, isBlt_of a12, isB_of a13, isB_of a14⟩,
    fun d hd => isB_of (List.all_eq_true.mp a15 d (List.mem_range.mpr hd)), isB_of a16, ⟨isBlt_of a17, isTyp_of a18, a19, isInit_of a20⟩⟩
theorem px_mk {P : Program} {w : World} {K : PySem.W.Frag} {mg : Str → Option Value} {base : Heap} {C G fI : Addr} {fd : FuncData} {cs : List Addr} {nc : Nat} (R : PxR K mg C G cs) (O : OexC K C) (hm : Meth K C "__init__" fI) (hn : nc = cs.length) (hl : nc < 999)
    (F : FnOk P w K mg base (L2.CX P w) 1 fI fd ["self", "line"] (spPE C)) (hb : Binds K fd ["self", "line"] []) : PxF P w K mg base (caOf cs C 999) (caOf cs C) nc 2 := by
  rw [caOf_self]
  refine ⟨R.g, O, ⟨fI, fd, 1, Nat.le_refl _, hm.at_, beq_iff_eq.mp hm.fn, F, hb⟩, ⟨R.ask.c1, R.ask.c2, R.exC, R.ask.c4⟩, R.no, R.ask, fun d hd => ?_, R.exm⟩
  rw [caOf_lt (by omega)]
  exact R.kit d (by omega)
end Ip

set_option maxHeartbeats 4000000
namespace Ip
/-! ### the pebble game, plain: the board's invariant, one step back along a path -/
theorem nodup_le {α : Type} [DecidableEq α] : ∀ {l m : List α}, l.Nodup → (∀ x ∈ l, x ∈ m) → l.length ≤ m.length
  | [], _, _, _ => Nat.zero_le _
  | a :: r, m, hn, hs => by
    obtain ⟨h1, h2⟩ := List.nodup_cons.mp hn
    have ha := hs a List.mem_cons_self
    have := nodup_le (l := r) (m := m.erase a) h2 fun x hx => (List.mem_erase_of_ne (show x ≠ a from fun e => h1 (by rw [← e]; exact hx))).mpr (hs x (List.mem_cons_of_mem _ hx))
    rw [List.length_erase_of_mem ha] at this
    have := List.length_pos_of_mem ha
    rw [List.length_cons]
    omega
theorem nodup_eq {α : Type} [DecidableEq α] {l m : List α} (h1 : l.Nodup) (h2 : m.Nodup) (h : ∀ x, x ∈ l ↔ x ∈ m) : l.length = m.length :=
  Nat.le_antisymm (nodup_le h1 fun x hx => (h x).mp hx) (nodup_le h2 fun x hx => (h x).mpr hx)
theorem filter_or {α : Type} {p q : α → Bool} : ∀ {l : List α}, (∀ x ∈ l, p x = true → q x = false) → (l.filter p).length + (l.filter q).length = (l.filter fun x => p x || q x).length
  | [], _ => rfl
  | a :: r, h => by
    have ih := filter_or (l := r) fun x hx => h x (List.mem_cons_of_mem _ hx)
    have ha := h a List.mem_cons_self
    cases hp : p a with
    | true =>
      rw [List.filter_cons_of_pos hp, List.filter_cons_of_neg (by rw [ha hp]; exact Bool.false_ne_true), List.filter_cons_of_pos (by rw [hp]; rfl), List.length_cons, List.length_cons]
      omega
    | false =>
      cases hq : q a with
      | true =>
        rw [List.filter_cons_of_neg (by rw [hp]; exact Bool.false_ne_true), List.filter_cons_of_pos hq, List.filter_cons_of_pos (by rw [hp, hq]; rfl), List.length_cons, List.length_cons]
        omega
      | false =>
        rw [List.filter_cons_of_neg (by rw [hp]; exact Bool.false_ne_true), List.filter_cons_of_neg (by rw [hq]; exact Bool.false_ne_true), List.filter_cons_of_neg (by rw [hp, hq]; exact Bool.false_ne_true)]
        exact ih
structure BI (n : Nat) (k : Int) (es : List (Int × Int)) (A : List Int) (B : Bd) : Prop where
  k : B.k = k
  len : B.out.length = n
  dom : ∀ x, x ∈ A ↔ (B.ends x).isSome = true
  ed : ∀ x t h, B.ends x = some (t, h) → B.okN t ∧ B.okN h ∧ t ≠ h ∧ (edgeAt es x = some (t, h) ∨ edgeAt es x = some (h, t))
  nd : ∀ v, B.okN v → (B.outs v).Nodup
  outs : ∀ v, B.okN v → ∀ x, x ∈ B.outs v ↔ ∃ h, B.ends x = some (v, h)
section
variable {n : Nat} {k : Int} {es : List (Int × Int)} {A : List Int} {B : Bd}
theorem outs_set {v u : Int} {l : List Int} (hv : B.okN v) (hu : 0 ≤ u) : (B.setO v l).outs u = if u = v then l else B.outs u := by
  unfold Bd.setO Bd.outs
  dsimp only
  rw [List.getD_eq_getElem?_getD]
  have h1 := hv.1
  have h2 := hv.2
  by_cases e : u = v
  · rw [if_pos e, e, List.getElem?_set_self (by omega)]
    rfl
  · rw [if_neg e, List.getElem?_set_ne (by omega), ← List.getD_eq_getElem?_getD]
theorem okN_set {v u : Int} {l : List Int} : (B.setO v l).okN u ↔ B.okN u := by
  unfold Bd.okN Bd.setO
  dsimp only
  rw [List.length_set]
theorem BI.outs_len (I : BI n k es A B) {v : Int} (hv : B.okN v) : (B.outs v).length ≤ A.length := nodup_le (I.nd v hv) fun x hx => by
  obtain ⟨h, e⟩ := (I.outs v hv x).mp hx
  exact (I.dom x).mpr (by rw [e]; rfl)
/-- an edge turned -/
def turn (B : Bd) (x t h : Int) : Bd := ((B.setO t ((B.outs t).erase x)).setO h ((B.setO t ((B.outs t).erase x)).outs h ++ [x])).setE x h t
theorem turn_okN {x t h u : Int} : (turn B x t h).okN u ↔ B.okN u := by
  unfold turn
  exact okN_set.trans okN_set
theorem turn_outs {x t h u : Int} (ht : B.okN t) (hh : B.okN h) (ne : t ≠ h) (hu : 0 ≤ u) : (turn B x t h).outs u = if u = h then B.outs h ++ [x] else if u = t then (B.outs t).erase x else B.outs u := by
  unfold turn
  show ((B.setO t ((B.outs t).erase x)).setO h ((B.setO t ((B.outs t).erase x)).outs h ++ [x])).outs u = _
  rw [outs_set (okN_set.mpr hh) hu, outs_set ht hh.1, if_neg (Ne.symm ne), outs_set ht hu]
theorem BI.step (I : BI n k es A B) {x t h : Int} (e : B.ends x = some (t, h)) : BI n k es A (turn B x t h) ∧ ∀ u, B.okN u → (turn B x t h).free u = B.free u + (if u = t then 1 else 0) - (if u = h then 1 else 0) := by
  obtain ⟨ht, hh, ne, hed⟩ := I.ed x t h e
  have hxt : x ∈ B.outs t := (I.outs t ht x).mpr ⟨h, e⟩
  have hxh : ¬ x ∈ B.outs h := fun z => by
    obtain ⟨h', e'⟩ := (I.outs h hh x).mp z
    rw [e] at e'
    cases e'
    exact ne rfl
  have he : ∀ y, (turn B x t h).ends y = if y = x then some (h, t) else B.ends y := fun y => rfl
  refine ⟨⟨I.k, ?_, fun y => ?_, fun y a b hy => ?_, fun v hv => ?_, fun v hv y => ?_⟩, fun u hu => ?_⟩
  · show ((B.out.set _ _).set _ _).length = n
    rw [List.length_set, List.length_set]
    exact I.len
  · rw [he]
    by_cases q : y = x
    · rw [if_pos q, I.dom y, q, e]
      exact ⟨fun _ => rfl, fun _ => rfl⟩
    · rw [if_neg q]
      exact I.dom y
  · rw [he] at hy
    rw [turn_okN, turn_okN]
    by_cases q : y = x
    · rw [if_pos q] at hy
      cases hy
      rw [q]
      exact ⟨hh, ht, Ne.symm ne, hed.symm⟩
    · rw [if_neg q] at hy
      exact I.ed y a b hy
  · rw [turn_okN] at hv
    rw [turn_outs ht hh ne hv.1]
    split
    · exact List.nodup_append.mpr ⟨I.nd h hh, List.nodup_cons.mpr ⟨by simp, List.nodup_nil⟩, fun a ha b hb => by rw [List.mem_singleton] at hb; rw [hb]; intro z; exact hxh (z ▸ ha)⟩
    · split
      · exact (I.nd t ht).erase _
      · exact I.nd v hv
  · rw [turn_okN] at hv
    rw [turn_outs ht hh ne hv.1, he]
    by_cases vh : v = h
    · rw [if_pos vh, List.mem_append, List.mem_singleton, I.outs h hh]
      by_cases q : y = x
      · rw [if_pos q, vh]
        exact ⟨fun _ => ⟨t, rfl⟩, fun _ => .inr q⟩
      · rw [if_neg q, vh]
        exact ⟨fun z => z.resolve_right q, .inl⟩
    · rw [if_neg vh]
      by_cases vt : v = t
      · rw [if_pos vt, (I.nd t ht).mem_erase_iff, I.outs t ht]
        by_cases q : y = x
        · rw [if_pos q]
          refine ⟨fun z => absurd q z.1, fun ⟨h', z⟩ => ?_⟩
          cases z
          exact absurd rfl vh
        · rw [if_neg q, vt]
          exact ⟨fun z => z.2, fun z => ⟨q, z⟩⟩
      · rw [if_neg vt, I.outs v hv]
        by_cases q : y = x
        · rw [if_pos q, q, e]
          refine ⟨fun ⟨h', z⟩ => ?_, fun ⟨h', z⟩ => ?_⟩
          · cases z
            exact absurd rfl vt
          · cases z
            exact absurd rfl vh
        · rw [if_neg q]
  · unfold Bd.free
    rw [turn_outs ht hh ne hu.1]
    show B.k - _ = _
    by_cases vh : u = h
    · rw [if_pos vh, if_pos vh, if_neg (show ¬ u = t from fun z => ne (z.symm.trans vh)), vh, List.length_append, List.length_singleton]
      omega
    · rw [if_neg vh, if_neg vh]
      by_cases vt : u = t
      · rw [if_pos vt, if_pos vt, vt, List.length_erase_of_mem hxt]
        have := List.length_pos_of_mem hxt
        omega
      · rw [if_neg vt, if_neg vt]
        omega
end
/-! ### what has been reached -/
/-- L: the nodes found, in their order, but w; came: by which edge -/
inductive Tree (B : Bd) (v w : Int) : List Int → (Int → Option (Option Int)) → Prop
  | base : Tree B v w [v] (came0 v w)
  | ext {L : List Int} {came : Int → Option (Option Int)} {p u x : Int} : Tree B v w L came → p ∈ L → B.ends x = some (p, u) → came u = none → Tree B v w (L ++ [u]) (upF came u (some x))
section
variable {n : Nat} {k : Int} {es : List (Int × Int)} {A : List Int} {B : Bd} {v w : Int}
theorem Tree.dom {L : List Int} {came : Int → Option (Option Int)} (T : Tree B v w L came) (u : Int) : (came u).isSome = true ↔ u ∈ L ∨ u = w := by
  induction T with
  | base =>
    unfold came0 upF
    rw [List.mem_singleton]
    by_cases h1 : u = w
    · rw [if_pos h1]; exact ⟨fun _ => .inr h1, fun _ => rfl⟩
    · rw [if_neg h1]
      by_cases h2 : u = v
      · rw [if_pos h2]; exact ⟨fun _ => .inl h2, fun _ => rfl⟩
      · rw [if_neg h2]; exact ⟨(fun z => by cases z), fun z => z.elim (fun a => absurd a h2) (fun a => absurd a h1)⟩
  | @ext L came p u' x T hp he hc ih =>
    unfold upF
    rw [List.mem_append, List.mem_singleton]
    by_cases h1 : u = u'
    · rw [if_pos h1]; exact ⟨fun _ => .inl (.inr h1), fun _ => rfl⟩
    · rw [if_neg h1, ih]
      exact ⟨fun z => z.elim (fun a => .inl (.inl a)) .inr, fun z => z.elim (fun a => a.elim .inl (fun b => absurd b h1)) .inr⟩
theorem Tree.first {L : List Int} {came : Int → Option (Option Int)} (T : Tree B v w L came) : v ∈ L := by
  induction T with
  | base => exact List.mem_singleton.mpr rfl
  | ext _ _ _ _ ih => exact List.mem_append.mpr (.inl ih)
theorem Tree.nodup {L : List Int} {came : Int → Option (Option Int)} (T : Tree B v w L came) : L.Nodup := by
  induction T with
  | base => exact List.nodup_cons.mpr ⟨by simp, List.nodup_nil⟩
  | @ext L came p u' x T hp he hc ih =>
    refine List.nodup_append.mpr ⟨ih, List.nodup_cons.mpr ⟨by simp, List.nodup_nil⟩, fun a ha b hb => ?_⟩
    rw [List.mem_singleton] at hb
    rw [hb]
    intro z
    have := (T.dom u').mpr (.inl (z ▸ ha))
    rw [hc] at this
    cases this
theorem Tree.now {L : List Int} {came : Int → Option (Option Int)} (T : Tree B v w L came) (hw : v ≠ w) : ¬ w ∈ L := by
  induction T with
  | base => rw [List.mem_singleton]; exact Ne.symm hw
  | @ext L came p u' x T hp he hc ih =>
    rw [List.mem_append, List.mem_singleton]
    rintro (h | h)
    · exact ih h
    · have := (T.dom u').mpr (.inr h.symm)
      rw [hc] at this
      cases this
/-- other edges change -/
theorem Tree.off {B' : Bd} {L : List Int} {came : Int → Option (Option Int)} (T : Tree B v w L came) {x p u : Int} (hx : B.ends x = some (p, u)) (hu : ¬ u ∈ L) (hb : ∀ y, y ≠ x → B'.ends y = B.ends y) : Tree B' v w L came := by
  induction T with
  | base => exact .base
  | @ext L came p' u' y T hp he hc ih =>
    have hu1 : ¬ u ∈ L := fun z => hu (List.mem_append.mpr (.inl z))
    have hu2 : u ≠ u' := fun z => hu (List.mem_append.mpr (.inr (List.mem_singleton.mpr z)))
    refine .ext (ih hu1) hp ?_ hc
    rw [hb y (fun z => by
      rw [z, hx] at he
      cases he
      exact hu2 rfl)]
    exact he
theorem shift_ok : ∀ {m : Nat} {L : List Int} {B : Bd} {cameL came : Int → Option (Option Int)} {c : Int}, L.length ≤ m → Tree B v w L cameL → (∀ u ∈ L, came u = cameL u) → BI n k es A B → c ∈ L → A.length < 500 → v ≠ w →
    ∀ f, L.length < f → ∃ B', shiftL f B came c v = some B' ∧ BI n k es A B' ∧ ∀ u, B.okN u → B'.free u = B.free u + (if u = v then 1 else 0) - (if u = c then 1 else 0)
  | 0, L, B, cameL, came, c, hl, T, hc, I, hm, hb, hvw, f, hf => by
    have := List.length_pos_of_mem hm
    omega
  | m + 1, L, B, cameL, came, c, hl, T, hc, I, hm, hb, hvw, f, hf => by
    obtain ⟨f, rfl⟩ : ∃ g, f = g + 1 := ⟨f - 1, by omega⟩
    unfold shiftL
    by_cases e : c = v
    · rw [if_pos e]
      exact ⟨B, rfl, I, fun u _ => by rw [e]; split <;> omega⟩
    · rw [if_neg e]
      cases T with
      | base => exact absurd (List.mem_singleton.mp hm) e
      | @ext L1 came1 p u x T1 hp he hcu =>
        rw [List.length_append, List.length_singleton] at hl hf
        have hu1 : ¬ u ∈ L1 := fun z => by
          have := (T1.dom u).mpr (.inl z)
          rw [hcu] at this
          cases this
        have hc1 : ∀ u' ∈ L1, came u' = came1 u' := fun u' hu' => by
          rw [hc u' (List.mem_append.mpr (.inl hu'))]
          unfold upF
          rw [if_neg (show ¬ u' = u from fun z => hu1 (by rw [← z]; exact hu'))]
        rcases List.mem_append.mp hm with h | h
        · have := shift_ok (m := m) (by omega) T1 hc1 I h hb hvw (f + 1) (by omega)
          unfold shiftL at this
          rw [if_neg e] at this
          exact this
        · rw [List.mem_singleton] at h
          subst h
          obtain ⟨ht, hh, ne, _⟩ := I.ed x p c he
          have hxt : x ∈ B.outs p := (I.outs p ht x).mpr ⟨c, he⟩
          have cx : came c = some (some x) := by
            rw [hc c hm]
            unfold upF
            rw [if_pos rfl]
          have hs : shiftS B came c = some (turn B x p c, p) := by
            unfold shiftS
            rw [cx]
            dsimp only
            rw [he]
            dsimp only
            rw [if_pos ⟨ht, hh, hxt, by have := I.outs_len hh; omega⟩]
            rfl
          rw [hs]
          obtain ⟨I2, fr⟩ := I.step he
          have T2 : Tree (turn B x p c) v w L1 came1 := T1.off he hu1 fun y hy => by
            show (if y = x then some (c, p) else B.ends y) = _
            rw [if_neg hy]
          obtain ⟨B', e1, e2, e3⟩ := shift_ok (m := m) (by omega) T2 hc1 I2 hp hb hvw f (by omega)
          refine ⟨B', e1, e2, fun u hu => ?_⟩
          rw [e3 u (turn_okN.mpr hu), fr u hu]
          omega
end
end Ip

set_option maxHeartbeats 4000000
namespace Ip
/-! ### the search for a pebble -/
section
variable {n : Nat} {k : Int} {es : List (Int × Int)} {A : List Int} {B : Bd} {v w : Int}
theorem in_ids {u : Int} (hl : B.out.length = n) (h : B.okN u) : u ∈ ids n := mem_ids.mpr ⟨h.1, by rw [← hl]; exact h.2⟩
theorem L_len {L : List Int} {came : Int → Option (Option Int)} (I : BI n k es A B) (T : Tree B v w L came) (hN : ∀ u ∈ L, B.okN u) : L.length ≤ n := by
  have := nodup_le T.nodup fun u hu => in_ids I.len (hN u hu)
  rw [ids_len] at this
  exact this
theorem scan_ok (I : BI n k es A B) (hn : n ≤ 100) {c : Int} : ∀ {xs : List Int} {came : Int → Option (Option Int)} {L D q : List Int}, Tree B v w L came → c ∈ L → (∀ x ∈ xs, ∃ h, B.ends x = some (c, h)) → L = D ++ q → (∀ u ∈ L, B.okN u) → (∀ u ∈ L, u ≠ v → B.free u ≤ 0) →
    (∃ came' L' q', scanL B xs came (L.length + 1) q = some (.on came' (L'.length + 1) q') ∧ Tree B v w L' came' ∧ L' = D ++ q' ∧ (∀ u ∈ L, u ∈ L') ∧ (∀ u ∈ L', B.okN u) ∧ (∀ u ∈ L', u ≠ v → B.free u ≤ 0) ∧ ∀ x ∈ xs, ∀ t h, B.ends x = some (t, h) → h ∈ L' ∨ h = w)
    ∨ ∃ came' L' cs h, scanL B xs came (L.length + 1) q = some (.hit came' cs h) ∧ Tree B v w L' came' ∧ h ∈ L' ∧ (∀ u ∈ L', B.okN u) ∧ h ≠ v ∧ h ≠ w ∧ 0 < B.free h
  | [], came, L, D, q, T, hc, hx, hL, hN, hf => .inl ⟨came, L, q, rfl, T, hL, fun u h => h, hN, hf, fun x h => by cases h⟩
  | x :: r, came, L, D, q, T, hc, hx, hL, hN, hf => by
    obtain ⟨h, he⟩ := hx x List.mem_cons_self
    obtain ⟨_, okh, _, _⟩ := I.ed x c h he
    have hr : ∀ y ∈ r, ∃ h, B.ends y = some (c, h) := fun y hy => hx y (List.mem_cons_of_mem _ hy)
    unfold scanL
    rw [he]
    dsimp only
    cases hs : (came h).isSome with
    | true =>
      rw [if_pos rfl]
      have hd := (T.dom h).mp hs
      rcases scan_ok I hn T hc hr hL hN hf with ⟨came', L', q', e1, e2, e3, e4, e5, e6, e7⟩ | H
      · refine .inl ⟨came', L', q', e1, e2, e3, e4, e5, e6, fun y hy t h' e => ?_⟩
        rcases List.mem_cons.mp hy with z | z
        · rw [z, he] at e
          cases e
          exact hd.elim (fun a => .inl (e4 _ a)) .inr
        · exact e7 y z t h' e
      · exact .inr H
    | false =>
      rw [if_neg Bool.false_ne_true]
      have hnone : came h = none := by
        cases q : came h with
        | none => rfl
        | some y => rw [q] at hs; cases hs
      have hnd : ¬ (h ∈ L ∨ h = w) := fun z => by
        have := (T.dom h).mpr z
        rw [hs] at this
        cases this
      have T2 : Tree B v w (L ++ [h]) (upF came h (some x)) := .ext T hc he hnone
      have hN2 : ∀ u ∈ L ++ [h], B.okN u := fun u hu => by
        rcases List.mem_append.mp hu with z | z
        · exact hN u z
        · rw [List.mem_singleton] at z
          rw [z]
          exact okh
      have l2 := L_len I T2 hN2
      rw [List.length_append, List.length_singleton] at l2
      have lq : q.length ≤ L.length := by rw [hL, List.length_append]; omega
      rw [if_pos ⟨okh, by omega, by omega⟩]
      have hv : h ≠ v := fun z => hnd (.inl (by rw [z]; exact T.first))
      by_cases hp : 0 < B.free h
      · rw [if_pos hp]
        exact .inr ⟨_, L ++ [h], _, h, rfl, T2, List.mem_append.mpr (.inr (List.mem_singleton.mpr rfl)), hN2, hv, fun z => hnd (.inr z), hp⟩
      · rw [if_neg hp]
        have hf2 : ∀ u ∈ L ++ [h], u ≠ v → B.free u ≤ 0 := fun u hu nv => by
          rcases List.mem_append.mp hu with z | z
          · exact hf u z nv
          · rw [List.mem_singleton] at z
            rw [z]
            omega
        have hL2 : L ++ [h] = D ++ (q ++ [h]) := by rw [hL, List.append_assoc]
        have ih := scan_ok I hn T2 (List.mem_append.mpr (.inl hc)) hr hL2 hN2 hf2
        rw [List.length_append, List.length_singleton] at ih
        rcases ih with ⟨came', L', q', e1, e2, e3, e4, e5, e6, e7⟩ | H
        · refine .inl ⟨came', L', q', e1, e2, e3, fun u hu => e4 u (List.mem_append.mpr (.inl hu)), e5, e6, fun y hy t h' e => ?_⟩
          rcases List.mem_cons.mp hy with z | z
          · rw [z, he] at e
            cases e
            exact .inl (e4 _ (List.mem_append.mpr (.inr (List.mem_singleton.mpr rfl))))
          · exact e7 y z t h' e
        · exact .inr H
/-- a set without pebbles but at v, that no edge leaves but to w -/
structure Shut (B : Bd) (v w : Int) (L : List Int) : Prop where
  hv : v ∈ L
  hw : ¬ w ∈ L
  ok : ∀ u ∈ L, B.okN u
  fr : ∀ u ∈ L, u ≠ v → B.free u ≤ 0
  cl : ∀ u ∈ L, ∀ x ∈ B.outs u, ∀ t h, B.ends x = some (t, h) → h ∈ L ∨ h = w
theorem fetch_ok (I : BI n k es A B) (hn : n ≤ 50) (hA : A.length < 500) (hvw : v ≠ w) : ∀ {m : Nat} {came : Int → Option (Option Int)} {L D q : List Int}, Tree B v w L came → L = D ++ q → (∀ u ∈ L, B.okN u) → (∀ u ∈ L, u ≠ v → B.free u ≤ 0) → (∀ u ∈ D, ∀ x ∈ B.outs u, ∀ t h, B.ends x = some (t, h) → h ∈ L ∨ h = w) → n < m + D.length →
    (fetchL m B v came (L.length + 1) q = some (B, false) ∧ ∃ L', Shut B v w L') ∨ ∃ B' h, fetchL m B v came (L.length + 1) q = some (B', true) ∧ BI n k es A B' ∧ B.okN h ∧ h ≠ v ∧ h ≠ w ∧ 0 < B.free h ∧ ∀ u, B.okN u → B'.free u = B.free u + (if u = v then 1 else 0) - (if u = h then 1 else 0)
  | 0, came, L, D, q, T, hL, hN, hf, hcl, hm => by
    have := L_len I T hN
    rw [hL, List.length_append] at this
    omega
  | m + 1, came, L, D, [], T, hL, hN, hf, hcl, hm => by
    rw [List.append_nil] at hL
    subst hL
    exact .inl ⟨rfl, L, T.first, T.now hvw, hN, hf, hcl⟩
  | m + 1, came, L, D, c :: q, T, hL, hN, hf, hcl, hm => by
    have hc : c ∈ L := by rw [hL]; simp
    have okc := hN c hc
    unfold fetchL
    rw [if_pos okc]
    have hx : ∀ x ∈ B.outs c, ∃ h, B.ends x = some (c, h) := fun x hx => (I.outs c okc x).mp hx
    have hL2 : L = (D ++ [c]) ++ q := by rw [hL, List.append_assoc]; rfl
    rcases scan_ok I (by omega) T hc hx hL2 hN hf with ⟨came', L', q', e1, e2, e3, e4, e5, e6, e7⟩ | ⟨came', L', cs, h, e1, e2, e3, e4, e5, e6, e7⟩
    · rw [e1]
      dsimp only
      refine fetch_ok I hn hA hvw e2 e3 e5 e6 (fun u hu x hx' t h e => ?_) ?_
      · rcases List.mem_append.mp hu with z | z
        · exact (hcl u z x hx' t h e).elim (fun a => .inl (e4 _ a)) .inr
        · rw [List.mem_singleton] at z
          rw [z] at hx'
          exact e7 x hx' t h e
      · rw [List.length_append, List.length_singleton]
        omega
    · rw [e1]
      dsimp only
      have ll := L_len I e2 e4
      obtain ⟨B', s1, s2, s3⟩ := shift_ok (m := L'.length) (Nat.le_refl _) e2 (fun u _ => rfl) I e3 hA hvw 100 (by omega)
      rw [s1]
      exact .inr ⟨B', h, rfl, s2, e4 h e3, e5, e6, e7, s3⟩
theorem fetchM_ok (I : BI n k es A B) (hn : n ≤ 50) (hA : A.length < 500) (hvw : v ≠ w) (hv : B.okN v) :
    (fetchM B v w = some (B, false) ∧ ∃ L', Shut B v w L') ∨ ∃ B' h, fetchM B v w = some (B', true) ∧ BI n k es A B' ∧ B.okN h ∧ h ≠ v ∧ h ≠ w ∧ 0 < B.free h ∧ ∀ u, B.okN u → B'.free u = B.free u + (if u = v then 1 else 0) - (if u = h then 1 else 0) :=
  fetch_ok I hn hA hvw (L := [v]) (D := []) .base rfl (fun u hu => by rw [List.mem_singleton] at hu; rw [hu]; exact hv) (fun u hu nv => absurd (List.mem_singleton.mp hu) nv) (fun u hu => by cases hu) (by show n < 100 + 0; omega)
/-! ### gathering -/
theorem okN_of {B B' : Bd} {u : Int} (I : BI n k es A B) (I' : BI n k es A B') (h : B.okN u) : B'.okN u := ⟨h.1, by rw [I'.len, ← I.len]; exact h.2⟩
/-- the pebbles of a and b cannot be more -/
structure Stuck (B : Bd) (a b : Int) (R : List Int) : Prop where
  ha : a ∈ R
  hb : b ∈ R
  ok : ∀ u ∈ R, B.okN u
  fr : ∀ u ∈ R, u ≠ a → u ≠ b → B.free u ≤ 0
  cl : ∀ u ∈ R, ∀ x ∈ B.outs u, ∀ t h, B.ends x = some (t, h) → h ∈ R
theorem shut_full (I : BI n k es A B) {a b : Int} (ha : B.okN a) (hab : a ≠ b) (h : ¬ B.free a < B.k) : Shut B a b [a] := by
  have ho : B.outs a = [] := by
    unfold Bd.free at h
    cases q : B.outs a with
    | nil => rfl
    | cons x r =>
      rw [q, List.length_cons] at h
      omega
  refine ⟨List.mem_singleton.mpr rfl, fun z => hab (List.mem_singleton.mp z).symm, fun u hu => by rw [List.mem_singleton] at hu; rw [hu]; exact ha, fun u hu nv => absurd (List.mem_singleton.mp hu) nv, fun u hu x hx => ?_⟩
  rw [List.mem_singleton] at hu
  rw [hu, ho] at hx
  cases hx
theorem stuck_of {a b : Int} {L M : List Int} (x : Shut B a b L) (y : Shut B b a M) : Stuck B a b (L ++ M) := by
  refine ⟨List.mem_append.mpr (.inl x.hv), List.mem_append.mpr (.inr y.hv), fun u hu => (List.mem_append.mp hu).elim (x.ok u) (y.ok u), fun u hu na nb => (List.mem_append.mp hu).elim (fun z => x.fr u z na) (fun z => y.fr u z nb), fun u hu e he t h q => ?_⟩
  rcases List.mem_append.mp hu with z | z
  · exact (x.cl u z e he t h q).elim (fun c => List.mem_append.mpr (.inl c)) (fun c => by rw [c]; exact List.mem_append.mpr (.inr y.hv))
  · exact (y.cl u z e he t h q).elim (fun c => List.mem_append.mpr (.inr c)) (fun c => by rw [c]; exact List.mem_append.mpr (.inl x.hv))
/-- a fetch, if there is room -/
theorem fetchIf_ok (I : BI n k es A B) (hn : n ≤ 50) (hA : A.length < 500) {a b : Int} (hab : a ≠ b) (ha : B.okN a) (hfr : ∀ u, B.okN u → 0 ≤ B.free u) :
    ((if B.free a < B.k then fetchM B a b else some (B, false)) = some (B, false) ∧ ∃ L', Shut B a b L') ∨ ∃ B', (if B.free a < B.k then fetchM B a b else some (B, false)) = some (B', true) ∧ BI n k es A B' ∧ (∀ u, B'.okN u → 0 ≤ B'.free u) ∧ B'.free a = B.free a + 1 ∧ ∀ (_ : B.okN b), B'.free b = B.free b := by
  by_cases h : B.free a < B.k
  · rw [if_pos h]
    rcases fetchM_ok I hn hA hab ha with ⟨e1, L', e2⟩ | ⟨B', h', e1, e2, e3, e4, e5, e6, e7⟩
    · exact .inl ⟨e1, L', e2⟩
    · refine .inr ⟨B', e1, e2, fun u hu => ?_, ?_, fun hb => ?_⟩
      · have hu := okN_of e2 I hu
        have := hfr u hu
        rw [e7 u hu]
        by_cases z : u = h'
        · rw [if_pos z]
          rw [z] at this ⊢
          rw [if_neg e4]
          omega
        · rw [if_neg z]
          split <;> omega
      · rw [e7 a ha, if_pos rfl, if_neg (Ne.symm e4)]
        omega
      · rw [e7 b hb, if_neg (Ne.symm hab), if_neg (Ne.symm e5)]
        omega
  · rw [if_neg h]
    exact .inl ⟨rfl, [a], shut_full I ha hab h⟩
theorem gather_ok {a b : Int} (hn : n ≤ 50) (hA : A.length < 500) (hab : a ≠ b) : ∀ {f : Nat} {B : Bd} {m : Int}, BI n k es A B → (∀ u, B.okN u → 0 ≤ B.free u) → B.okN a → B.okN b → m - (B.free a + B.free b) < f →  0 < f →
    ∃ B' r, gatherL f B a b m = some (B', r) ∧ BI n k es A B' ∧ (∀ u, B'.okN u → 0 ≤ B'.free u) ∧ (r = true → m ≤ B'.free a + B'.free b) ∧ (r = false → B'.free a + B'.free b < m ∧ ∃ R, Stuck B' a b R)
  | 0, B, m, I, hfr, ha, hb, hf, h0 => by omega
  | f + 1, B, m, I, hfr, ha, hb, hf, h0 => by
    unfold gatherL
    rw [if_pos ⟨ha, hb⟩]
    by_cases h : B.free a + B.free b < m
    · rw [if_pos h]
      rcases fetchIf_ok I hn hA hab ha hfr with ⟨e1, L1, s1⟩ | ⟨B1, e1, I1, fr1, f1, f2⟩
      · rw [e1]
        dsimp only
        rw [if_pos hb]
        rcases fetchIf_ok I hn hA (Ne.symm hab) hb hfr with ⟨e2, L2, s2⟩ | ⟨B1, e2, I1, fr1, f1, f2⟩
        · rw [e2]
          exact ⟨B, false, rfl, I, hfr, (fun z => by cases z), fun _ => ⟨h, _, stuck_of s1 s2⟩⟩
        · rw [e2]
          dsimp only
          have g := f2 ha
          exact gather_ok hn hA hab I1 fr1 (okN_of I I1 ha) (okN_of I I1 hb) (by omega) (by omega)
      · rw [e1]
        dsimp only
        have g := f2 hb
        exact gather_ok hn hA hab I1 fr1 (okN_of I I1 ha) (okN_of I I1 hb) (by omega) (by omega)
    · rw [if_neg h]
      exact ⟨B, true, rfl, I, hfr, (fun _ => by omega), fun z => by cases z⟩
end
end Ip

set_option maxHeartbeats 4000000
namespace Ip
/-! ### sums and counts -/
def sumN (f : Int → Int) (L : List Int) : Int := (L.map f).sum
theorem sumN_cons {f : Int → Int} {a : Int} {L : List Int} : sumN f (a :: L) = f a + sumN f L := by
  unfold sumN
  rw [List.map_cons, List.sum_cons]
theorem sum_erase {f : Int → Int} {a : Int} : ∀ {L : List Int}, a ∈ L → sumN f L = f a + sumN f (L.erase a)
  | b :: r, h => by
    by_cases e : b = a
    · subst e
      rw [sumN_cons, List.erase_cons_head]
    · have ha : a ∈ r := (List.mem_cons.mp h).resolve_left (Ne.symm e)
      rw [List.erase_cons_tail (by simpa using e), sumN_cons, sumN_cons, sum_erase ha]
      omega
theorem sum_nonneg {f : Int → Int} : ∀ {L : List Int}, (∀ u ∈ L, 0 ≤ f u) → 0 ≤ sumN f L
  | [], _ => Int.le_refl _
  | a :: r, h => by
    have h1 := h a List.mem_cons_self
    have h2 := sum_nonneg (f := f) (L := r) fun u hu => h u (List.mem_cons_of_mem _ hu)
    rw [sumN_cons]
    omega
theorem sum_nonpos {f : Int → Int} : ∀ {L : List Int}, (∀ u ∈ L, f u ≤ 0) → sumN f L ≤ 0
  | [], _ => Int.le_refl _
  | a :: r, h => by
    have h1 := h a List.mem_cons_self
    have h2 := sum_nonpos (f := f) (L := r) fun u hu => h u (List.mem_cons_of_mem _ hu)
    rw [sumN_cons]
    omega
theorem sum_two {f : Int → Int} {a b : Int} {L : List Int} (hn : L.Nodup) (ha : a ∈ L) (hb : b ∈ L) (hab : a ≠ b) : sumN f L = f a + f b + sumN f ((L.erase a).erase b) := by
  rw [sum_erase ha, sum_erase (a := b) ((List.mem_erase_of_ne (Ne.symm hab)).mpr hb)]
  omega
theorem mem_erase2 {a b u : Int} {L : List Int} (hn : L.Nodup) (h : u ∈ (L.erase a).erase b) : u ∈ L ∧ u ≠ a ∧ u ≠ b := by
  obtain ⟨h1, h2⟩ := (hn.erase a).mem_erase_iff.mp h
  obtain ⟨h3, h4⟩ := hn.mem_erase_iff.mp h2
  exact ⟨h4, h3, h1⟩
def edgeOf (es : List (Int × Int)) (x : Int) : Int × Int := (edgeAt es x).getD (0, 0)
def eds (es : List (Int × Int)) (A : List Int) : List (Int × Int) := A.map (edgeOf es)
theorem insd_eds {es : List (Int × Int)} {A ks : List Int} : insd (eds es A) ks = (A.filter fun x => ks.contains (edgeOf es x).1 && ks.contains (edgeOf es x).2).length := by
  unfold insd eds
  rw [List.filter_map, List.length_map]
  rfl
theorem insd_snoc {E : List (Int × Int)} {p : Int × Int} {ks : List Int} : insd (E ++ [p]) ks = insd E ks + if ks.contains p.1 && ks.contains p.2 then 1 else 0 := by
  unfold insd
  rw [List.filter_append, List.length_append]
  congr 1
  cases q : ks.contains p.1 && ks.contains p.2 with
  | true => rw [List.filter_cons_of_pos (p := fun p : Int × Int => ks.contains p.1 && ks.contains p.2) (a := p) q]; rfl
  | false => rw [List.filter_cons_of_neg (p := fun p : Int × Int => ks.contains p.1 && ks.contains p.2) (a := p) (by rw [q]; exact Bool.false_ne_true)]; rfl
/-- no set has too many edges -/
def Sprs (n : Nat) (E : List (Int × Int)) (k l : Int) : Prop := ∀ ks ∈ nsets n 2, (insd E ks : Int) ≤ k * ks.length - l
def spB (n : Nat) (E : List (Int × Int)) (k l : Int) : Bool := (nsets n 2).all fun ks => decide ((insd E ks : Int) ≤ k * ks.length - l)
theorem spB_iff {n : Nat} {E : List (Int × Int)} {k l : Int} : spB n E k l = true ↔ Sprs n E k l := by
  unfold spB Sprs
  rw [List.all_eq_true]
  exact ⟨fun h ks hk => of_decide_eq_true (h ks hk), fun h ks hk => decide_eq_true (h ks hk)⟩
def tl (B : Bd) (x : Int) : Int := match B.ends x with
  | some p => p.1
  | none => -1
section
variable {n : Nat} {k l : Int} {es : List (Int × Int)} {A : List Int} {B : Bd}
theorem outs_count (I : BI n k es A B) (hA : A.Nodup) {u : Int} (hu : B.okN u) : (B.outs u).length = (A.filter fun x => tl B x == u).length := by
  refine nodup_eq (I.nd u hu) (hA.filter _) fun x => ?_
  rw [List.mem_filter, I.outs u hu, I.dom]
  unfold tl
  constructor
  · rintro ⟨h, e⟩
    rw [e]
    exact ⟨rfl, beq_self_eq_true _⟩
  · rintro ⟨h1, h2⟩
    cases e : B.ends x with
    | none => rw [e] at h1; cases h1
    | some p =>
      rw [e] at h2
      have : p.1 = u := eq_of_beq h2
      exact ⟨p.2, by rw [← this]⟩
theorem count_tails (I : BI n k es A B) (hA : A.Nodup) : ∀ {L : List Int}, L.Nodup → (∀ u ∈ L, B.okN u) → sumN (fun u => ((B.outs u).length : Nat)) L = (A.filter fun x => L.contains (tl B x)).length
  | [], _, _ => by
    rw [show (A.filter fun x => ([] : List Int).contains (tl B x)) = [] by rw [List.filter_eq_nil_iff]; intro x _; simp]
    rfl
  | u :: L, hn, hok => by
    obtain ⟨h1, h2⟩ := List.nodup_cons.mp hn
    rw [sumN_cons, count_tails I hA h2 fun v hv => hok v (List.mem_cons_of_mem _ hv), outs_count I hA (hok u List.mem_cons_self)]
    have := filter_or (p := fun x => tl B x == u) (q := fun x => L.contains (tl B x)) (l := A) fun x _ hp => by
      have e : tl B x = u := eq_of_beq hp
      rw [e]
      cases q : L.contains u with
      | false => rfl
      | true => exact absurd (List.contains_iff_mem.mp q) h1
    rw [show (fun x => (u :: L).contains (tl B x)) = fun x => (tl B x == u || L.contains (tl B x)) from funext fun x => List.contains_cons]
    omega
theorem sum_free (I : BI n k es A B) : ∀ {L : List Int}, sumN B.free L = k * L.length - sumN (fun u => ((B.outs u).length : Nat)) L
  | [] => by simp [sumN]
  | u :: L => by
    rw [sumN_cons, sumN_cons, sum_free I, List.length_cons]
    unfold Bd.free
    rw [I.k, Int.natCast_add, Int.mul_add]
    omega
theorem ids_pairwise (n : Nat) : (ids n).Pairwise (· < ·) := by
  unfold ids
  rw [List.pairwise_map]
  exact List.pairwise_lt_range.imp fun h => by omega
theorem pw_nodup {ks : List Int} (h : ks.Pairwise (· < ·)) : ks.Nodup := h.imp fun h => by omega
theorem ids_nodup (n : Nat) : (ids n).Nodup := pw_nodup (ids_pairwise n)
/-- accepting keeps it sparse -/
theorem accept_sparse (I : BI n k es A B) (hA : A.Nodup) (hfr : ∀ u, B.okN u → 0 ≤ B.free u) {x a b : Int} (he : edgeAt es x = some (a, b)) (hab : a ≠ b) (hg : l + 1 ≤ B.free a + B.free b) (hs : Sprs n (eds es A) k l) : Sprs n (eds es (A ++ [x])) k l := by
  intro ks hk
  obtain ⟨k1, k2, k3⟩ := mem_nsets.mp hk
  have e : eds es (A ++ [x]) = eds es A ++ [(a, b)] := by
    unfold eds
    rw [List.map_append]
    show _ ++ [edgeOf es x] = _
    unfold edgeOf
    rw [he]
    rfl
  rw [e, insd_snoc]
  have hok : ∀ u ∈ ks, B.okN u := fun u hu => ⟨(k2 u hu).1, by rw [I.len]; exact (k2 u hu).2⟩
  cases q : ks.contains a && ks.contains b with
  | false =>
    rw [if_neg Bool.false_ne_true]
    exact hs ks hk
  | true =>
    rw [if_pos rfl]
    rw [Bool.and_eq_true] at q
    have ha := List.contains_iff_mem.mp q.1
    have hb := List.contains_iff_mem.mp q.2
    have hn := pw_nodup k1
    have c := count_tails I hA hn hok
    have s := sum_free I (L := ks)
    rw [sum_two hn ha hb hab] at s
    have p := sum_nonneg (f := B.free) (L := (ks.erase a).erase b) fun u hu => hfr u (hok u (mem_erase2 hn hu).1)
    have i : insd (eds es A) ks ≤ (A.filter fun x => ks.contains (tl B x)).length := by
      rw [insd_eds]
      refine nodup_le (hA.filter _) fun y hy => ?_
      rw [List.mem_filter] at hy ⊢
      refine ⟨hy.1, ?_⟩
      have hd := (I.dom y).mp hy.1
      cases z : B.ends y with
      | none => rw [z] at hd; cases hd
      | some p =>
        obtain ⟨t, h⟩ := p
        have h2 := hy.2
        unfold tl
        rw [z]
        rw [Bool.and_eq_true] at h2
        obtain ⟨_, _, _, hed⟩ := I.ed y t h z
        unfold edgeOf at h2
        rcases hed with hed | hed
        · rw [hed] at h2
          exact h2.1
        · rw [hed] at h2
          exact h2.2
    show ((insd (eds es A) ks + 1 : Nat) : Int) ≤ _
    omega
/-- where nothing is to be had, one more is too much -/
theorem stuck_dense (I : BI n k es A B) (hA : A.Nodup) {x a b : Int} {R : List Int} (he : edgeAt es x = some (a, b)) (hab : a ≠ b) (hg : B.free a + B.free b ≤ l) (hs : Stuck B a b R) : ¬ Sprs n (eds es (A ++ [x])) k l := by
  intro hsp
  have e : eds es (A ++ [x]) = eds es A ++ [(a, b)] := by
    unfold eds
    rw [List.map_append]
    show _ ++ [edgeOf es x] = _
    unfold edgeOf
    rw [he]
    rfl
  have hm : ∀ u, u ∈ (ids n).filter R.contains ↔ u ∈ R := fun u => by
    rw [List.mem_filter, List.contains_iff_mem]
    exact ⟨fun h => h.2, fun h => ⟨in_ids I.len (hs.ok u h), h⟩⟩
  have hpw : ((ids n).filter R.contains).Pairwise (· < ·) := (ids_pairwise n).filter _
  have hn := pw_nodup hpw
  generalize hks : (ids n).filter R.contains = ks at *
  have ha := (hm a).mpr hs.ha
  have hb := (hm b).mpr hs.hb
  have hok : ∀ u ∈ ks, B.okN u := fun u hu => hs.ok u ((hm u).mp hu)
  have h2 : 2 ≤ ks.length := nodup_le (l := [a, b]) (List.nodup_cons.mpr ⟨by simpa using hab, List.nodup_cons.mpr ⟨by simp, List.nodup_nil⟩⟩) fun u hu => by
    rcases List.mem_cons.mp hu with z | z
    · rw [z]; exact ha
    · rw [List.mem_singleton] at z
      rw [z]; exact hb
  have hk : ks ∈ nsets n 2 := mem_nsets.mpr ⟨hpw, fun u hu => by have := hok u hu; rw [← I.len]; exact this, by omega⟩
  have := hsp ks hk
  rw [e, insd_snoc, if_pos (by rw [List.contains_iff_mem.mpr ha, List.contains_iff_mem.mpr hb]; rfl)] at this
  have c := count_tails I hA hn hok
  have s := sum_free I (L := ks)
  rw [sum_two hn ha hb hab] at s
  have p := sum_nonpos (f := B.free) (L := (ks.erase a).erase b) fun u hu => by
    obtain ⟨z1, z2, z3⟩ := mem_erase2 hn hu
    exact hs.fr u ((hm u).mp z1) z2 z3
  have i : (A.filter fun x => ks.contains (tl B x)).length ≤ insd (eds es A) ks := by
    rw [insd_eds]
    refine nodup_le (hA.filter _) fun y hy => ?_
    rw [List.mem_filter] at hy ⊢
    refine ⟨hy.1, ?_⟩
    have hd := (I.dom y).mp hy.1
    cases z : B.ends y with
    | none => rw [z] at hd; cases hd
    | some p =>
      obtain ⟨t, h⟩ := p
      have h3 := hy.2
      unfold tl at h3
      rw [z] at h3
      have ht := List.contains_iff_mem.mp h3
      obtain ⟨okt, _, _, hed⟩ := I.ed y t h z
      have hh : h ∈ ks := (hm h).mpr (hs.cl t ((hm t).mp ht) y ((I.outs t okt y).mpr ⟨h, z⟩) t h z)
      unfold edgeOf
      rcases hed with hed | hed <;> rw [hed] <;> rw [Bool.and_eq_true] <;> constructor <;> exact List.contains_iff_mem.mpr (by assumption)
  omega
theorem BI.accept (I : BI n k es A B) {x a b : Int} (hx : ¬ x ∈ A) (he : edgeAt es x = some (a, b) ∨ edgeAt es x = some (b, a)) (hab : a ≠ b) (ha : B.okN a) (hb : B.okN b) {m : Nat} : BI n k es (A ++ [x]) { (B.setO a (B.outs a ++ [x])).setE x a b with sz := m } ∧ ∀ u, B.okN u → Bd.free { (B.setO a (B.outs a ++ [x])).setE x a b with sz := m } u = B.free u - if u = a then 1 else 0 := by
  have hnone : B.ends x = none := by
    cases q : B.ends x with
    | none => rfl
    | some p => exact absurd ((I.dom x).mpr (by rw [q]; rfl)) hx
  have he' : ∀ y, ({ (B.setO a (B.outs a ++ [x])).setE x a b with sz := m } : Bd).ends y = if y = x then some (a, b) else B.ends y := fun y => rfl
  have ho : ∀ u, 0 ≤ u → ({ (B.setO a (B.outs a ++ [x])).setE x a b with sz := m } : Bd).outs u = if u = a then B.outs a ++ [x] else B.outs u := fun u hu => outs_set (B := B) ha hu
  have hk : ∀ u, ({ (B.setO a (B.outs a ++ [x])).setE x a b with sz := m } : Bd).okN u ↔ B.okN u := fun u => okN_set (B := B)
  have hxa : ¬ x ∈ B.outs a := fun z => by
    obtain ⟨h, e⟩ := (I.outs a ha x).mp z
    rw [hnone] at e
    cases e
  refine ⟨⟨I.k, ?_, fun y => ?_, fun y c d hy => ?_, fun v hv => ?_, fun v hv y => ?_⟩, fun u hu => ?_⟩
  · show (B.out.set _ _).length = n
    rw [List.length_set]
    exact I.len
  · rw [he', List.mem_append, List.mem_singleton]
    by_cases q : y = x
    · rw [if_pos q]; exact ⟨fun _ => rfl, fun _ => .inr q⟩
    · rw [if_neg q, ← I.dom]; exact ⟨fun z => z.resolve_right q, .inl⟩
  · rw [he'] at hy
    rw [hk, hk]
    by_cases q : y = x
    · rw [if_pos q] at hy
      cases hy
      rw [q]
      exact ⟨ha, hb, hab, he⟩
    · rw [if_neg q] at hy
      exact I.ed y c d hy
  · rw [hk] at hv
    rw [ho v hv.1]
    split
    · exact List.nodup_append.mpr ⟨I.nd a ha, List.nodup_cons.mpr ⟨by simp, List.nodup_nil⟩, fun c hc d hd => by rw [List.mem_singleton] at hd; rw [hd]; intro z; exact hxa (z ▸ hc)⟩
    · exact I.nd v hv
  · rw [hk] at hv
    rw [ho v hv.1, he']
    by_cases va : v = a
    · rw [if_pos va, List.mem_append, List.mem_singleton, I.outs a ha]
      by_cases q : y = x
      · rw [if_pos q, va]; exact ⟨fun _ => ⟨b, rfl⟩, fun _ => .inr q⟩
      · rw [if_neg q, va]; exact ⟨fun z => z.resolve_right q, .inl⟩
    · rw [if_neg va, I.outs v hv]
      by_cases q : y = x
      · rw [if_pos q, q, hnone]
        exact ⟨(fun ⟨h, z⟩ => by cases z), fun ⟨h, z⟩ => by cases z; exact absurd rfl va⟩
      · rw [if_neg q]
  · unfold Bd.free
    rw [ho u hu.1]
    show B.k - _ = _
    by_cases va : u = a
    · rw [if_pos va, if_pos va, va, List.length_append, List.length_singleton]
      omega
    · rw [if_neg va, if_neg va]
      omega
/-- the greedy choice -/
def greedy (n : Nat) (es : List (Int × Int)) (k l : Int) : List Int → List Int → List Int
  | [], A => A
  | x :: r, A => if spB n (eds es (A ++ [x])) k l then greedy n es k l r (A ++ [x]) else greedy n es k l r A
theorem played_ok (hn : n ≤ 50) (l0 : 0 ≤ l) (l9 : l ≤ 90) (E : ∀ x p, edgeAt es x = some p → 0 ≤ p.1 ∧ p.1 < p.2 ∧ p.2 < n) : ∀ {xs A : List Int} {B : Bd}, BI n k es A B → (∀ u, B.okN u → 0 ≤ B.free u) → B.sz = A.length → (A ++ xs).Nodup → (∀ x ∈ xs, (edgeAt es x).isSome = true) → A.length + xs.length < 400 → Sprs n (eds es A) k l →
    ∃ B', playedL es l xs B A = some (B', greedy n es k l xs A) ∧ BI n k es (greedy n es k l xs A) B' ∧ (∀ u, B'.okN u → 0 ≤ B'.free u) ∧ Sprs n (eds es (greedy n es k l xs A)) k l
  | [], A, B, I, hfr, hsz, hnd, hxs, hl, hs => ⟨B, rfl, I, hfr, hs⟩
  | x :: r, A, B, I, hfr, hsz, hnd, hxs, hl, hs => by
    obtain ⟨⟨a, b⟩, he⟩ := Option.isSome_iff_exists.mp (hxs x List.mem_cons_self)
    obtain ⟨a0, ab, bn⟩ := E x (a, b) he
    dsimp only at a0 ab bn
    have hA : A.Nodup := (List.nodup_append.mp hnd).1
    have hxA : ¬ x ∈ A := fun z => (List.nodup_append.mp hnd).2.2 x z x List.mem_cons_self rfl
    have hab : a ≠ b := by omega
    have oka : B.okN a := ⟨a0, by rw [I.len]; omega⟩
    have okb : B.okN b := ⟨by omega, by rw [I.len]; omega⟩
    rw [List.length_cons] at hl
    obtain ⟨B1, r1, g1, I1, fr1, ht, hf⟩ := gather_ok hn (by omega) hab (f := 100) (m := l + 1) I hfr oka okb (by have := hfr a oka; have := hfr b okb; omega) (by decide)
    have oka1 := okN_of I I1 oka
    have okb1 := okN_of I I1 okb
    have sz1 : B1.sz = A.length := by rw [(gatherL_same g1).1]; exact hsz
    unfold playedL greedy
    rw [he]
    dsimp only
    rw [g1]
    have hr : (∀ y ∈ r, (edgeAt es y).isSome = true) := fun y hy => hxs y (List.mem_cons_of_mem _ hy)
    cases r1 with
    | false =>
      obtain ⟨h1, R, h2⟩ := hf rfl
      have hd := stuck_dense I1 hA he hab (l := l) (by omega) h2
      dsimp only
      rw [if_neg (fun z => hd (spB_iff.mp z))]
      refine played_ok hn l0 l9 E I1 fr1 sz1 ?_ hr (by omega) hs
      exact List.nodup_append.mpr ⟨hA, (List.nodup_cons.mp (List.nodup_append.mp hnd).2.1).2, fun c hc d hd => (List.nodup_append.mp hnd).2.2 c hc d (List.mem_cons_of_mem _ hd)⟩
    | true =>
      have h1 := ht rfl
      have hsp := accept_sparse I1 hA fr1 he hab h1 hs
      dsimp only
      rw [if_pos (spB_iff.mpr hsp)]
      have la := I1.outs_len oka1
      have lb := I1.outs_len okb1
      have hnd' : (A ++ [x] ++ r).Nodup := by rw [List.append_assoc]; exact hnd
      obtain ⟨B2, e2, I2, fr2, sz2⟩ : ∃ B2, acceptM B1 x a b = some B2 ∧ BI n k es (A ++ [x]) B2 ∧ (∀ u, B2.okN u → 0 ≤ B2.free u) ∧ B2.sz = (A ++ [x]).length := by
        unfold acceptM
        rw [if_pos ⟨oka1, okb1, by omega, by omega, by omega⟩]
        have hz : B1.sz + 1 = (A ++ [x]).length := by rw [List.length_append, sz1]; rfl
        by_cases hp : 0 < B1.free a
        · rw [if_pos hp]
          obtain ⟨I2, f2⟩ := I1.accept hxA (.inl he) hab oka1 okb1 (m := B1.sz + 1)
          refine ⟨_, rfl, I2, fun u hu => ?_, hz⟩
          have hu1 : B1.okN u := (okN_set (B := B1)).mp hu
          rw [f2 u hu1]
          have := fr1 u hu1
          split
          · rename_i z; rw [z]; omega
          · omega
        · rw [if_neg hp]
          obtain ⟨I2, f2⟩ := I1.accept hxA (.inr he) (Ne.symm hab) okb1 oka1 (m := B1.sz + 1)
          refine ⟨_, rfl, I2, fun u hu => ?_, hz⟩
          have hu1 : B1.okN u := (okN_set (B := B1)).mp hu
          rw [f2 u hu1]
          have := fr1 u hu1
          split
          · rename_i z; rw [z]; omega
          · omega
      rw [e2]
      dsimp only
      rw [if_pos (by omega)]
      refine played_ok hn l0 l9 E I2 fr2 sz2 hnd' hr ?_ hsp
      rw [List.length_append, List.length_singleton]
      omega
theorem bi0 {n k : Int} {es : List (Int × Int)} (hk : 0 ≤ k) : BI n.toNat k es [] (board0 n k) ∧ ∀ u, (board0 n k).okN u → 0 ≤ (board0 n k).free u := by
  have ho : ∀ u : Int, (board0 n k).outs u = [] := fun u => by
    unfold board0 Bd.outs
    dsimp only
    rw [List.getD_eq_getElem?_getD, List.getElem?_replicate]
    split <;> rfl
  refine ⟨⟨rfl, List.length_replicate, fun x => ⟨(fun h => by cases h), fun h => by cases h⟩, (fun x t h e => by cases e), fun v _ => by rw [ho]; exact List.nodup_nil, fun v _ x => ?_⟩, fun u _ => ?_⟩
  · rw [ho]
    exact ⟨(fun h => by cases h), fun ⟨h, e⟩ => by cases e⟩
  · unfold Bd.free
    rw [ho]
    show 0 ≤ k - 0
    omega
theorem insd_nil {ks : List Int} : insd [] ks = 0 := rfl
/-- without edges -/
theorem sparse_nil {n : Nat} {k l : Int} (hk : 1 ≤ k) (hl : l ≤ 2 * k - 1) : Sprs n [] k l := fun ks hks => by
  obtain ⟨_, _, h3⟩ := mem_nsets.mp hks
  have : k * 2 ≤ k * (ks.length : Int) := Int.mul_le_mul_of_nonneg_left h3 (by omega)
  show (0 : Int) ≤ _
  omega
/-- THE GAME: what it accepts -/
theorem playedM_ok {n : Int} {es : List (Int × Int)} {k l : Int} {xs : List Int} (n0 : 0 ≤ n) (n1 : n ≤ 50) (k1 : 1 ≤ k) (k2 : k ≤ 40) (l0 : 0 ≤ l) (l1 : l ≤ 2 * k - 1) (E : ∀ x p, edgeAt es x = some p → 0 ≤ p.1 ∧ p.1 < p.2 ∧ p.2 < n) (hx : xs.Nodup) (hs : ∀ x ∈ xs, (edgeAt es x).isSome = true) (hl : xs.length < 400) :
    ∃ B, playedM n es k l xs = some (B, greedy n.toNat es k l xs []) ∧ BI n.toNat k es (greedy n.toNat es k l xs []) B ∧ (∀ u, B.okN u → 0 ≤ B.free u) ∧ Sprs n.toNat (eds es (greedy n.toNat es k l xs [])) k l := by
  unfold playedM
  rw [if_pos ⟨n0, by omega⟩]
  obtain ⟨I, fr⟩ := bi0 (n := n) (k := k) (es := es) (by omega)
  exact played_ok (by omega) l0 (by omega) (fun x p h => by have := E x p h; omega) I fr rfl (by simpa using hx) hs (by simpa using hl) (sparse_nil k1 l1)
end
end Ip

set_option maxHeartbeats 4000000
namespace Ip
open PySem
/-! ### the greedy choice -/
theorem insd_sub {E F : List (Int × Int)} {ks : List Int} (h : E.Sublist F) : insd E ks ≤ insd F ks := (h.filter _).length_le
theorem Sprs.sub {n : Nat} {E F : List (Int × Int)} {k l : Int} (h : E.Sublist F) (s : Sprs n F k l) : Sprs n E k l := fun ks hk => by
  have := s ks hk
  have := insd_sub (ks := ks) h
  omega
section
variable {n : Nat} {k l : Int} {es : List (Int × Int)}
theorem greedy_sub : ∀ {xs A : List Int}, (greedy n es k l xs A).Sublist (A ++ xs)
  | [], A => by rw [List.append_nil]; exact List.Sublist.refl _
  | x :: r, A => by
    unfold greedy
    split
    · have := greedy_sub (xs := r) (A := A ++ [x])
      rw [List.append_assoc] at this
      exact this
    · exact greedy_sub.trans ((List.Sublist.refl A).append (List.sublist_cons_self x r))
theorem greedy_ext : ∀ {xs A : List Int}, A.Sublist (greedy n es k l xs A)
  | [], A => List.Sublist.refl _
  | x :: r, A => by
    unfold greedy
    split
    · exact (List.sublist_append_left A [x]).trans greedy_ext
    · exact greedy_ext
theorem greedy_all : ∀ {xs A : List Int}, Sprs n (eds es (A ++ xs)) k l → greedy n es k l xs A = A ++ xs
  | [], A, _ => by rw [List.append_nil]; rfl
  | x :: r, A, h => by
    have e : A ++ x :: r = A ++ [x] ++ r := by rw [List.append_assoc]; rfl
    unfold greedy
    rw [e] at h ⊢
    rw [if_pos (spB_iff.mpr (h.sub (by unfold eds; exact (List.sublist_append_left _ _).map _)))]
    exact greedy_all h
theorem greedy_sparse : ∀ {xs A : List Int}, Sprs n (eds es A) k l → Sprs n (eds es (greedy n es k l xs A)) k l
  | [], A, h => h
  | x :: r, A, h => by
    unfold greedy
    split
    · rename_i q
      exact greedy_sparse (spB_iff.mp q)
    · exact greedy_sparse h
theorem edgeAt_nat {j : Nat} : edgeAt es (j : Int) = es[j]? := by
  unfold edgeAt L2.atI L2.ixN
  rw [if_pos (by omega)]
  by_cases h : (j : Int) < es.length
  · rw [if_pos h]
    show es[(j : Int).toNat]? = _
    rw [Int.toNat_natCast]
  · rw [if_neg h, List.getElem?_eq_none (by omega)]
    rfl
theorem edgeAt_ids {x : Int} (h : x ∈ ids es.length) : (edgeAt es x).isSome = true := by
  obtain ⟨h0, h1⟩ := mem_ids.mp h
  rw [show x = (x.toNat : Nat) by omega, edgeAt_nat, List.getElem?_eq_getElem (by omega)]
  rfl
theorem eds_ids : eds es (ids es.length) = es := by
  apply List.ext_getElem?
  intro j
  unfold eds ids
  rw [List.map_map, List.getElem?_map]
  by_cases h : j < es.length
  · rw [List.getElem?_range h]
    show some (edgeOf es (j : Nat)) = _
    unfold edgeOf
    rw [edgeAt_nat, List.getElem?_eq_getElem h]
    rfl
  · rw [List.getElem?_eq_none (by rw [List.length_range]; omega), List.getElem?_eq_none (by omega)]
    rfl
theorem edgeAt_mem {x : Int} {p : Int × Int} (h : edgeAt es x = some p) : p ∈ es := by
  unfold edgeAt L2.atI at h
  obtain ⟨j, _, h2⟩ := Option.bind_eq_some_iff.mp h
  exact List.mem_of_getElem? h2
/-- sparse exactly if all are accepted -/
theorem greedy_full (h0 : Sprs n [] k l) {xs : List Int} : ((greedy n es k l xs []).length = xs.length) ↔ Sprs n (eds es xs) k l := by
  constructor
  · intro h
    have s := greedy_sub (n := n) (es := es) (k := k) (l := l) (xs := xs) (A := [])
    rw [List.nil_append] at s
    have e := s.eq_of_length h
    have := greedy_sparse (n := n) (es := es) (k := k) (l := l) (xs := xs) (A := []) h0
    rw [e] at this
    exact this
  · intro h
    rw [greedy_all (by rw [List.nil_append]; exact h), List.nil_append]
theorem greedy_len {xs : List Int} : (greedy n es k l xs []).length ≤ xs.length := by
  have s := greedy_sub (n := n) (es := es) (k := k) (l := l) (xs := xs) (A := [])
  rw [List.nil_append] at s
  exact s.length_le
end
theorem spB_not {n : Nat} {E : List (Int × Int)} {k l : Int} : spB n E k l = false ↔ ¬ Sprs n E k l := by
  rw [← spB_iff]
  cases spB n E k l <;> simp
/-! ### by data -/
theorem pairs_back : ∀ es : List (Int × Int), pairsOf (es.map eD) = some es
  | [] => rfl
  | p :: r => by
    rw [List.map_cons]
    unfold pairsOf
    rw [pairs_back r]
    rfl
theorem gOf_grD {n : Int} {es : List (Int × Int)} : gOf (grD n es) = some (n, es) := by
  show (pairsOf (es.map eD)).map (fun l => (n, l)) = _
  rw [pairs_back]
  rfl
structure KL (k l : Int) : Prop where
  k1 : 1 ≤ k
  k4 : k ≤ 4
  l0 : 0 ≤ l
  l1 : l ≤ 2 * k - 1
theorem KL.nil {n : Nat} {k l : Int} (h : KL k l) : Sprs n [] k l := sparse_nil h.k1 h.l1
theorem acc_ok {n : Int} {es : List (Int × Int)} {k l : Int} {xs : List Int} {w : D} (h : KL k l) (n0 : 0 ≤ n) (n1 : n ≤ 50) (E : ∀ p ∈ es, 0 ≤ p.1 ∧ p.1 < p.2 ∧ p.2 < n) (hw : nsOf w = some xs) (hx : xs.Nodup) (hs : ∀ x ∈ xs, (edgeAt es x).isSome = true) (hl : xs.length < 400) :
    accF [grD n es, .int k, .int l, w] = .ok (.list ((greedy n.toNat es k l xs []).map .int)) := by
  obtain ⟨B, e, _⟩ := playedM_ok n0 n1 h.k1 (by have := h.k4; omega) h.l0 h.l1 (fun x p hp => E p (edgeAt_mem hp)) hx hs hl
  unfold accF
  dsimp only
  rw [gOf_grD, hw]
  dsimp only
  rw [e]
/-! ### loops that may return -/
theorem loop_find {α : Type} {f : D → Ga → Out} {φ : α → D} (G : Ga → Prop) (p : α → Bool) (r : α → D) : ∀ {xs : List α} {g : Ga}, G g → (∀ x g, x ∈ xs → G g → if p x = true then ∃ g', f (φ x) g = .rt (r x) g' else ∃ g', (f (φ x) g = .nx g' ∨ f (φ x) g = .ct g') ∧ G g') →
    (∃ x g', xs.find? p = some x ∧ loopL f (xs.map φ) g = .rt (r x) g') ∨ (∃ g', xs.find? p = none ∧ loopL f (xs.map φ) g = .nx g' ∧ G g')
  | [], g, h, _ => .inr ⟨g, rfl, rfl, h⟩
  | x :: t, g, h, hs => by
    have h1 := hs x g List.mem_cons_self h
    rw [List.map_cons]
    cases q : p x with
    | true =>
      rw [q, if_pos rfl] at h1
      obtain ⟨g', e⟩ := h1
      exact .inl ⟨x, g', List.find?_cons_of_pos q, by unfold loopL; rw [e]⟩
    | false =>
      rw [q, if_neg Bool.false_ne_true] at h1
      obtain ⟨g', e, h2⟩ := h1
      have ih := loop_find G p r (xs := t) (g := g') h2 fun y g hy => hs y g (List.mem_cons_of_mem _ hy)
      rw [List.find?_cons_of_neg (by rw [q]; exact Bool.false_ne_true)]
      have el : loopL f (φ x :: t.map φ) g = loopL f (t.map φ) g' := by
        conv => lhs; unfold loopL
        rcases e with e | e <;> rw [e]
      rw [el]
      exact ih
def rngI (lo hi : Int) : List Int := (List.range (hi - lo).toNat).map fun i => lo + (i : Nat)
theorem rngL_I {lo hi : Int} : rngL lo hi = (rngI lo hi).map .int := by
  unfold rngL rngI
  rw [List.map_map]
  rfl
theorem mem_rngI {lo hi x : Int} : x ∈ rngI lo hi ↔ lo ≤ x ∧ x < hi := by
  unfold rngI
  rw [List.mem_map]
  constructor
  · rintro ⟨i, h, rfl⟩
    have := List.mem_range.mp h
    omega
  · rintro ⟨h0, h1⟩
    exact ⟨(x - lo).toNat, List.mem_range.mpr (by omega), by omega⟩
theorem rngI_ids {n : Int} : rngI 0 n = ids n.toNat := by
  unfold rngI ids
  rw [Int.sub_zero]
  apply List.map_congr_left
  intro i _
  omega
theorem d_rng2 {m n : Int} (h0 : -1000000 ≤ m) (h1 : m ≤ 1000000) (h2 : -1000000 ≤ n) (h3 : n ≤ 1000000) : rng2D (.int m) (.int n) = .ok ((rngI m n).map .int) := by
  rw [← rngL_I]
  show (if decide (-1000000 ≤ m) && decide (m ≤ 1000000) && decide (-1000000 ≤ n) && decide (n ≤ 1000000) then Rs.ok (rngL m n) else .bad) = _
  rw [decide_eq_true h0, decide_eq_true h1, decide_eq_true h2, decide_eq_true h3]
  rfl
theorem d_rng1I {n : Int} (h0 : -1000000 ≤ n) (h : n ≤ 1000000) : rng1D (.int n) = .ok ((ids n.toNat).map .int) := by
  rw [d_rng1 h0 h, rng_ids]
end Ip
namespace Ip
open PySem
theorem foldl_keep {α β : Type} {p : α → Bool} {f : α → β} : ∀ {xs : List α} {b : List β}, xs.foldl (fun a x => if p x then a ++ [f x] else a) b = b ++ (xs.filter p).map f
  | [], b => by simp
  | x :: r, b => by
    rw [List.foldl_cons, foldl_keep]
    cases q : p x with
    | true => rw [if_pos rfl, List.filter_cons_of_pos q, List.map_cons, List.append_assoc]; rfl
    | false => rw [if_neg Bool.false_ne_true, List.filter_cons_of_neg (by rw [q]; exact Bool.false_ne_true)]
theorem foldl_flat {α β : Type} {F : α → List β} : ∀ {xs : List α} {b : List β}, xs.foldl (fun a x => a ++ F x) b = b ++ xs.flatMap F
  | [], b => by simp
  | x :: r, b => by rw [List.foldl_cons, foldl_flat, List.flatMap_cons, List.append_assoc]
theorem add_edges {es : List (Int × Int)} {p : Int × Int} (h : es.length < 1000) : binD .add (.tuple (es.map eD)) (.tuple [eD p]) = .ok (.tuple ((es ++ [p]).map eD)) := by
  show (if (es.map eD).length + 1 ≤ lim then Rs.ok (PyData.tuple (es.map eD ++ [eD p])) else .bad) = _
  rw [if_pos (by rw [List.length_map]; unfold lim; omega), List.map_append]
  rfl
/-- the pairs that may be added -/
def fpair (n : Int) (es : List (Int × Int)) (k l : Int) (a : Int) : List (Int × Int) := ((rngI (a + 1) n).filter fun b => spB n.toNat (es ++ [(a, b)]) k l).map fun b => (a, b)
def fpairs (n : Int) (es : List (Int × Int)) (k l : Int) : List (Int × Int) := (ids n.toNat).flatMap (fpair n es k l)
theorem shp_es {n : Nat} (es : List (Int × Int)) : shp (n + 2) (.list (es.map eD)) = true := by
  show (es.map eD).all (shp (n + 1)) = true
  exact shp_eDs es
theorem tight_none {n : Int} {es : List (Int × Int)} {k l : Int} (n0 : 0 ≤ n) (E : ∀ p ∈ es, 0 ≤ p.1 ∧ p.1 < p.2 ∧ p.2 < n) (h : fpairs n es k l ≠ []) : spB n.toNat es k l = true ∧ ((es.length : Int) == k * n - l) = false := by
  obtain ⟨p, hp⟩ := List.exists_mem_of_ne_nil _ h
  obtain ⟨a, ha, hb⟩ := List.mem_flatMap.mp hp
  unfold fpair at hb
  obtain ⟨b, hb', rfl⟩ := List.mem_map.mp hb
  obtain ⟨hb1, hb2⟩ := List.mem_filter.mp hb'
  obtain ⟨a0, a1⟩ := mem_ids.mp ha
  obtain ⟨b0, b1⟩ := mem_rngI.mp hb1
  have s := spB_iff.mp hb2
  refine ⟨spB_iff.mpr (s.sub (List.sublist_append_left _ _)), beq_eq_false_iff_ne.mpr fun e => ?_⟩
  have hk : ids n.toNat ∈ nsets n.toNat 2 := mem_nsets.mpr ⟨ids_pairwise _, fun x hx => mem_ids.mp hx, by rw [ids_len]; omega⟩
  have := s _ hk
  have all : insd (es ++ [(a, b)]) (ids n.toNat) = es.length + 1 := by
    unfold insd
    rw [List.filter_eq_self.mpr, List.length_append]
    · rfl
    · intro q hq
      have : 0 ≤ q.1 ∧ q.1 < q.2 ∧ q.2 < n := by
        rcases List.mem_append.mp hq with z | z
        · exact E q z
        · rw [List.mem_singleton] at z
          rw [z]
          exact ⟨a0, by dsimp only; omega, by dsimp only; omega⟩
      rw [Bool.and_eq_true]
      exact ⟨List.contains_iff_mem.mpr (mem_ids.mpr (by omega)), List.contains_iff_mem.mpr (mem_ids.mpr (by omega))⟩
  rw [all, ids_len] at this
  have hn : ((n.toNat : Nat) : Int) = n := by omega
  rw [hn] at this
  omega
end Ip

set_option maxHeartbeats 4000000
namespace Ip
open PySem
/-! ### tight sets; the greatest independent sets -/
def inS (es : List (Int × Int)) (ks : List Int) (x : Int) : Bool := ks.contains (edgeOf es x).1 && ks.contains (edgeOf es x).2
theorem insd_inS {es : List (Int × Int)} {A ks : List Int} : insd (eds es A) ks = (A.filter (inS es ks)).length := insd_eds
theorem pw_ext {a b : List Int} (ha : a.Pairwise (· < ·)) (hb : b.Pairwise (· < ·)) (h : ∀ x, x ∈ a ↔ x ∈ b) : a = b := rise_eq ha hb h
theorem filter_incl {α : Type} {p q : α → Bool} : ∀ {l : List α}, (l.filter p).length + (l.filter q).length = (l.filter fun x => p x || q x).length + (l.filter fun x => p x && q x).length
  | [] => rfl
  | a :: r => by
    have ih := filter_incl (p := p) (q := q) (l := r)
    simp only [List.filter_cons]
    cases p a <;> cases q a <;> simp only [Bool.or_true, Bool.or_false, Bool.and_true, Bool.and_false, Bool.false_eq_true, if_true, if_false, List.length_cons] <;> omega
theorem filter_le2 {α : Type} {p q u v : α → Bool} : ∀ {l : List α}, (∀ x ∈ l, (p x).toNat + (q x).toNat ≤ (u x).toNat + (v x).toNat) → (l.filter p).length + (l.filter q).length ≤ (l.filter u).length + (l.filter v).length
  | [], _ => Nat.le_refl _
  | a :: r, h => by
    have ih := filter_le2 (l := r) fun x hx => h x (List.mem_cons_of_mem _ hx)
    have ha := h a List.mem_cons_self
    simp only [List.filter_cons]
    revert ha
    cases p a <;> cases q a <;> cases u a <;> cases v a <;> simp only [Bool.toNat_true, Bool.toNat_false, Bool.false_eq_true, if_true, if_false, List.length_cons] <;> intro ha <;> omega
section
variable {n : Nat} {k l : Int} {es : List (Int × Int)}
theorem Sprs.subset {I J : List Int} (hJ : J.Nodup) (h : ∀ x ∈ J, x ∈ I) (s : Sprs n (eds es I) k l) : Sprs n (eds es J) k l := fun ks hk => by
  have := s ks hk
  have c : insd (eds es J) ks ≤ insd (eds es I) ks := by
    rw [insd_inS, insd_inS]
    exact nodup_le (hJ.filter _) fun x hx => by
      rw [List.mem_filter] at hx ⊢
      exact ⟨h x hx.1, hx.2⟩
  omega
/-- the set of nodes that p holds of -/
def ofP (n : Nat) (p : Int → Bool) : List Int := (ids n).filter p
theorem mem_ofP {p : Int → Bool} {x : Int} : x ∈ ofP n p ↔ (0 ≤ x ∧ x < n) ∧ p x = true := by
  unfold ofP
  rw [List.mem_filter, mem_ids]
theorem ofP_pw {p : Int → Bool} : (ofP n p).Pairwise (· < ·) := (ids_pairwise n).filter _
theorem ofP_sets {p : Int → Bool} {least : Int} (h : least ≤ (ofP n p).length) : ofP n p ∈ nsets n least := mem_nsets.mpr ⟨ofP_pw, fun x hx => (mem_ofP.mp hx).1, h⟩
theorem set_ofP {ks : List Int} {least : Int} (h : ks ∈ nsets n least) : ofP n ks.contains = ks := by
  obtain ⟨h1, h2, _⟩ := mem_nsets.mp h
  refine pw_ext ofP_pw h1 fun x => ?_
  rw [mem_ofP, List.contains_iff_mem]
  exact ⟨fun z => z.2, fun z => ⟨h2 x z, z⟩⟩
def tightB (k l : Int) (E : List (Int × Int)) (ks : List Int) : Bool := decide ((insd E ks : Int) = k * ks.length - l)
/-- the union of two tight sets with two common nodes is tight -/
theorem tight_union {A S T : List Int} (s : Sprs n (eds es A) k l) (hS : S ∈ nsets n 2) (hT : T ∈ nsets n 2) (tS : tightB k l (eds es A) S = true) (tT : tightB k l (eds es A) T = true) {a b : Int} (hab : a ≠ b) (h1 : a ∈ S ∧ a ∈ T) (h2 : b ∈ S ∧ b ∈ T) :
    ofP n (fun x => S.contains x || T.contains x) ∈ nsets n 2 ∧ tightB k l (eds es A) (ofP n fun x => S.contains x || T.contains x) = true := by
  obtain ⟨s1, s2, s3⟩ := mem_nsets.mp hS
  obtain ⟨t1, t2, t3⟩ := mem_nsets.mp hT
  have c := filter_incl (p := S.contains) (q := T.contains) (l := ids n)
  have eS : ((ids n).filter S.contains).length = S.length := congrArg List.length (set_ofP hS)
  have eT : ((ids n).filter T.contains).length = T.length := congrArg List.length (set_ofP hT)
  rw [eS, eT] at c
  have cU : (ofP n fun x => S.contains x || T.contains x).length = ((ids n).filter fun x => S.contains x || T.contains x).length := rfl
  have cN : (ofP n fun x => S.contains x && T.contains x).length = ((ids n).filter fun x => S.contains x && T.contains x).length := rfl
  rw [← cU, ← cN] at c
  have n2 : 2 ≤ (ofP n fun x => S.contains x && T.contains x).length := nodup_le (l := [a, b]) (List.nodup_cons.mpr ⟨by simpa using hab, List.nodup_cons.mpr ⟨by simp, List.nodup_nil⟩⟩) fun u hu => by
    rcases List.mem_cons.mp hu with z | z
    · rw [z]; exact mem_ofP.mpr ⟨s2 a h1.1, by rw [List.contains_iff_mem.mpr h1.1, List.contains_iff_mem.mpr h1.2]; rfl⟩
    · rw [List.mem_singleton] at z
      rw [z]; exact mem_ofP.mpr ⟨s2 b h2.1, by rw [List.contains_iff_mem.mpr h2.1, List.contains_iff_mem.mpr h2.2]; rfl⟩
  have mN := ofP_sets (n := n) (p := fun x => S.contains x && T.contains x) (least := 2) (by omega)
  have u2 : S.length ≤ (ofP n fun x => S.contains x || T.contains x).length := nodup_le (pw_nodup s1) fun u hu => mem_ofP.mpr ⟨s2 u hu, by rw [List.contains_iff_mem.mpr hu]; rfl⟩
  have mU := ofP_sets (n := n) (p := fun x => S.contains x || T.contains x) (least := 2) (by omega)
  have bU := s _ mU
  have bN := s _ mN
  have cc : insd (eds es A) S + insd (eds es A) T ≤ insd (eds es A) (ofP n fun x => S.contains x || T.contains x) + insd (eds es A) (ofP n fun x => S.contains x && T.contains x) := by
    rw [insd_inS, insd_inS, insd_inS, insd_inS]
    refine filter_le2 fun x _ => ?_
    have fU : ∀ y, (S.contains y = true ∨ T.contains y = true) → (ofP n fun x => S.contains x || T.contains x).contains y = true := fun y hy => by
      refine List.contains_iff_mem.mpr (mem_ofP.mpr ⟨?_, by rw [Bool.or_eq_true]; exact hy⟩)
      exact hy.elim (fun z => s2 y (List.contains_iff_mem.mp z)) (fun z => t2 y (List.contains_iff_mem.mp z))
    have fN : ∀ y, S.contains y = true → T.contains y = true → (ofP n fun x => S.contains x && T.contains x).contains y = true := fun y a1 a2 =>
      List.contains_iff_mem.mpr (mem_ofP.mpr ⟨s2 y (List.contains_iff_mem.mp a1), by rw [Bool.and_eq_true]; exact ⟨a1, a2⟩⟩)
    unfold inS
    generalize (edgeOf es x).1 = p
    generalize (edgeOf es x).2 = q
    have up := fU p
    have uq := fU q
    have np := fN p
    have nq := fN q
    revert up uq np nq
    cases S.contains p <;> cases S.contains q <;> cases T.contains p <;> cases T.contains q <;> intro up uq np nq <;> simp_all
  refine ⟨mU, decide_eq_true ?_⟩
  have e1 := of_decide_eq_true tS
  have e2 := of_decide_eq_true tT
  have e3 : k * (ofP n fun x => S.contains x || T.contains x).length + k * (ofP n fun x => S.contains x && T.contains x).length = k * S.length + k * T.length := by
    rw [← Int.mul_add, ← Int.mul_add]
    congr 1
    omega
  omega
/-- those that no other one contains -/
def maxi (L : List (List Int)) : List (List Int) := L.filter fun a => !(L.any fun b => (b != a) && a.all b.contains)
def tights (n : Nat) (k l : Int) (E : List (Int × Int)) : List (List Int) := (nsets n 2).filter (tightB k l E)
theorem mem_tights {E : List (Int × Int)} {ks : List Int} : ks ∈ tights n k l E ↔ ks ∈ nsets n 2 ∧ tightB k l E ks = true := List.mem_filter
theorem mem_maxi {L : List (List Int)} {a : List Int} : a ∈ maxi L ↔ a ∈ L ∧ ∀ b ∈ L, b ≠ a → ¬ ∀ x ∈ a, x ∈ b := by
  unfold maxi
  rw [List.mem_filter, Bool.not_eq_true', List.any_eq_false]
  refine and_congr Iff.rfl ⟨fun h b hb hne hs => h b hb ?_, fun h b hb z => ?_⟩
  · rw [Bool.and_eq_true, bne_iff_ne, List.all_eq_true]
    exact ⟨hne, fun x hx => List.contains_iff_mem.mpr (hs x hx)⟩
  · rw [Bool.and_eq_true, bne_iff_ne, List.all_eq_true] at z
    exact h b hb z.1 fun x hx => List.contains_iff_mem.mp (z.2 x hx)
theorem maxi_ex {L : List (List Int)} (hL : ∀ a ∈ L, a ∈ nsets n 2) : ∀ {m : Nat} {a : List Int}, n ≤ m + a.length → a ∈ L → ∃ b ∈ maxi L, ∀ x ∈ a, x ∈ b
  | 0, a, hm, ha => by
    refine ⟨a, mem_maxi.mpr ⟨ha, fun b hb hne hs => hne ?_⟩, fun x hx => hx⟩
    obtain ⟨a1, a2, _⟩ := mem_nsets.mp (hL a ha)
    obtain ⟨b1, b2, _⟩ := mem_nsets.mp (hL b hb)
    refine pw_ext b1 a1 fun x => ⟨fun hx => ?_, hs x⟩
    apply Classical.byContradiction
    intro hxa
    have h1 := nodup_le (l := x :: a) (m := ids n) (List.nodup_cons.mpr ⟨hxa, pw_nodup a1⟩) fun y hy => by
      rcases List.mem_cons.mp hy with z | z
      · rw [z]; exact mem_ids.mpr (b2 x hx)
      · exact mem_ids.mpr (a2 y z)
    rw [ids_len, List.length_cons] at h1
    omega
  | m + 1, a, hm, ha => by
    by_cases hx : a ∈ maxi L
    · exact ⟨a, hx, fun x hx => hx⟩
    · have : ∃ b ∈ L, b ≠ a ∧ ∀ x ∈ a, x ∈ b := by
        apply Classical.byContradiction
        intro hz
        exact hx (mem_maxi.mpr ⟨ha, fun b hb hne hs => hz ⟨b, hb, hne, hs⟩⟩)
      obtain ⟨b, hb, hne, hs⟩ := this
      obtain ⟨a1, a2, _⟩ := mem_nsets.mp (hL a ha)
      obtain ⟨b1, b2, _⟩ := mem_nsets.mp (hL b hb)
      have hlt : a.length < b.length := by
        have h1 := nodup_le (pw_nodup a1) hs
        apply Nat.lt_of_le_of_ne h1
        intro e
        refine hne (pw_ext b1 a1 fun x => ⟨fun hxb => ?_, hs x⟩)
        apply Classical.byContradiction
        intro hxa
        have h2 := nodup_le (l := x :: a) (m := b) (List.nodup_cons.mpr ⟨hxa, pw_nodup a1⟩) fun y hy => by
          rcases List.mem_cons.mp hy with z | z
          · rw [z]; exact hxb
          · exact hs y z
        rw [List.length_cons] at h2
        omega
      obtain ⟨c, hc, hcs⟩ := maxi_ex hL (m := m) (a := b) (by omega) hb
      exact ⟨c, hc, fun x hx => hcs x (hs x hx)⟩
/-- two greatest tight sets have at most one common node -/
theorem maxi_share {A M1 M2 : List Int} (s : Sprs n (eds es A) k l) (h1 : M1 ∈ maxi (tights n k l (eds es A))) (h2 : M2 ∈ maxi (tights n k l (eds es A))) (hne : M1 ≠ M2) {a b : Int} (hab : a ≠ b) (ha : a ∈ M1 ∧ a ∈ M2) (hb : b ∈ M1 ∧ b ∈ M2) : False := by
  obtain ⟨t1, m1⟩ := mem_maxi.mp h1
  obtain ⟨t2, m2⟩ := mem_maxi.mp h2
  obtain ⟨x1, y1⟩ := mem_tights.mp t1
  obtain ⟨x2, y2⟩ := mem_tights.mp t2
  obtain ⟨u1, u2⟩ := tight_union s x1 x2 y1 y2 hab ha hb
  have hu := mem_tights.mpr ⟨u1, u2⟩
  obtain ⟨_, r1, _⟩ := mem_nsets.mp x1
  obtain ⟨_, r2, _⟩ := mem_nsets.mp x2
  have e1 : ofP n (fun x => M1.contains x || M2.contains x) = M1 := Classical.byContradiction fun z => m1 _ hu z fun x hx => mem_ofP.mpr ⟨r1 x hx, by rw [List.contains_iff_mem.mpr hx]; rfl⟩
  have e2 : ofP n (fun x => M1.contains x || M2.contains x) = M2 := Classical.byContradiction fun z => m2 _ hu z fun x hx => mem_ofP.mpr ⟨r2 x hx, by rw [List.contains_iff_mem.mpr hx, Bool.or_true]⟩
  exact hne (e1.symm.trans e2)
/-! ### counting by a family of sets -/
def sumG {α : Type} (f : α → Int) (L : List α) : Int := (L.map f).sum
theorem sumG_cons {α : Type} {f : α → Int} {a : α} {L : List α} : sumG f (a :: L) = f a + sumG f L := by
  unfold sumG
  rw [List.map_cons, List.sum_cons]
theorem sumG_le {α : Type} {f g : α → Int} : ∀ {L : List α}, (∀ a ∈ L, f a ≤ g a) → sumG f L ≤ sumG g L
  | [], _ => Int.le_refl _
  | a :: r, h => by
    have h1 := h a List.mem_cons_self
    have h2 := sumG_le (f := f) (g := g) (L := r) fun x hx => h x (List.mem_cons_of_mem _ hx)
    rw [sumG_cons, sumG_cons]
    omega
theorem sumG_eq {α : Type} {f g : α → Int} {L : List α} (h : ∀ a ∈ L, f a = g a) : sumG f L = sumG g L := by
  unfold sumG
  rw [List.map_congr_left h]
def loose (es : List (Int × Int)) (M : List (List Int)) (x : Int) : Bool := M.all fun m => !inS es m x
theorem count_fam {J : List Int} : ∀ {M : List (List Int)}, M.Pairwise (fun a b => ∀ x ∈ J, ¬ (inS es a x = true ∧ inS es b x = true)) → sumG (fun m => ((J.filter (inS es m)).length : Nat)) M + ((J.filter (loose es M)).length : Nat) = (J.length : Nat)
  | [], _ => by
    show (0 : Int) + _ = _
    rw [show J.filter (loose es []) = J from List.filter_eq_self.mpr fun x _ => rfl]
    omega
  | m :: M, h => by
    obtain ⟨h1, h2⟩ := List.pairwise_cons.mp h
    have ih := count_fam h2
    rw [sumG_cons]
    have c : (J.filter (inS es m)).length + (J.filter (loose es (m :: M))).length = (J.filter (loose es M)).length := by
      rw [filter_or (p := inS es m) (q := loose es (m :: M)) (l := J) fun x _ hp => by
        unfold loose
        rw [List.all_cons, hp]
        rfl]
      refine congrArg List.length (List.filter_congr fun x hx => ?_)
      unfold loose
      rw [List.all_cons]
      cases q : inS es m x with
      | false => rfl
      | true =>
        rw [Bool.true_or]
        symm
        rw [List.all_eq_true]
        intro b hb
        cases q2 : inS es b x with
        | false => rfl
        | true => exact absurd ⟨q, q2⟩ (h1 b hb x hx)
    omega
theorem cover_le {J : List Int} {p : Int → Bool} : ∀ {M : List (List Int)}, (∀ x ∈ J, p x = true ∨ ∃ m ∈ M, inS es m x = true) → (J.length : Int) ≤ sumG (fun m => ((J.filter (inS es m)).length : Nat)) M + ((J.filter p).length : Nat)
  | [], h => by
    show _ ≤ (0 : Int) + _
    rw [show J.filter p = J from List.filter_eq_self.mpr fun x hx => (h x hx).elim (fun z => z) fun ⟨m, hm, _⟩ => by cases hm]
    omega
  | m :: M, h => by
    have ih := cover_le (J := J.filter fun x => !inS es m x) (p := p) (M := M) fun x hx => by
      rw [List.mem_filter] at hx
      rcases h x hx.1 with z | ⟨m', hm', z⟩
      · exact .inl z
      · rcases List.mem_cons.mp hm' with e | e
        · rw [e] at z
          rw [z] at hx
          cases hx.2
        · exact .inr ⟨m', e, z⟩
    rw [sumG_cons]
    have c1 : (J.filter (inS es m)).length + (J.filter fun x => !inS es m x).length = J.length := by
      rw [filter_or fun x _ hp => by rw [hp]; rfl]
      exact congrArg List.length (List.filter_eq_self.mpr fun x _ => by cases inS es m x <;> rfl)
    have c2 : sumG (fun m' => (((J.filter fun x => !inS es m x).filter (inS es m')).length : Nat)) M ≤ sumG (fun m' => ((J.filter (inS es m')).length : Nat)) M := sumG_le fun m' _ => by
      have := ((List.filter_sublist (p := fun x => !inS es m x) (l := J)).filter (inS es m')).length_le
      omega
    have c3 := ((List.filter_sublist (p := fun x => !inS es m x) (l := J)).filter p).length_le
    omega
end
end Ip

set_option maxHeartbeats 4000000
namespace Ip
open PySem
/-! ### ranks -/
section
variable {n : Nat} {k l : Int} {es : List (Int × Int)}
theorem greedy_cons {x : Int} {r A : List Int} : greedy n es k l (x :: r) A = if spB n (eds es (A ++ [x])) k l then greedy n es k l r (A ++ [x]) else greedy n es k l r A := by
  conv => lhs; unfold greedy
theorem greedy_app : ∀ {xs ys A : List Int}, greedy n es k l (xs ++ ys) A = greedy n es k l ys (greedy n es k l xs A)
  | [], _, _ => rfl
  | x :: r, ys, A => by
    rw [List.cons_append, greedy_cons, greedy_cons]
    split
    · exact greedy_app
    · exact greedy_app
theorem greedy_add : ∀ {xs A : List Int}, ∃ C, greedy n es k l xs A = A ++ C ∧ C.Sublist xs
  | [], A => ⟨[], by rw [List.append_nil]; rfl, List.Sublist.refl _⟩
  | x :: r, A => by
    unfold greedy
    split
    · obtain ⟨C, h1, h2⟩ := greedy_add (xs := r) (A := A ++ [x])
      exact ⟨x :: C, by rw [h1, List.append_assoc]; rfl, h2.cons_cons x⟩
    · obtain ⟨C, h1, h2⟩ := greedy_add (xs := r) (A := A)
      exact ⟨C, h1, h2.cons x⟩
/-- what was not taken could not be added -/
theorem greedy_rej : ∀ {xs A : List Int} {x : Int}, x ∈ xs → ¬ x ∈ greedy n es k l xs A → ¬ Sprs n (eds es (greedy n es k l xs A ++ [x])) k l
  | y :: r, A, x, hx, hn => by
    by_cases q : spB n (eds es (A ++ [y])) k l = true
    · have e : greedy n es k l (y :: r) A = greedy n es k l r (A ++ [y]) := by
        conv => lhs; unfold greedy
        rw [if_pos q]
      rw [e] at hn ⊢
      rcases List.mem_cons.mp hx with z | z
      · exfalso
        apply hn
        rw [z]
        exact greedy_ext.subset (List.mem_append.mpr (.inr (List.mem_singleton.mpr rfl)))
      · exact greedy_rej z hn
    · have e : greedy n es k l (y :: r) A = greedy n es k l r A := by
        conv => lhs; unfold greedy
        rw [if_neg q]
      rw [e] at hn ⊢
      rcases List.mem_cons.mp hx with z | z
      · intro s
        apply q
        rw [← z]
        refine spB_iff.mpr (s.sub ?_)
        unfold eds
        exact (greedy_ext.append (List.Sublist.refl [x])).map _
      · exact greedy_rej z hn
theorem greedy_nodup {xs : List Int} (h : xs.Nodup) : (greedy n es k l xs []).Nodup := by
  have := greedy_sub (n := n) (es := es) (k := k) (l := l) (xs := xs) (A := [])
  rw [List.nil_append] at this
  exact h.sublist this
theorem greedy_mem {xs : List Int} {x : Int} (h : x ∈ greedy n es k l xs []) : x ∈ xs := by
  have := greedy_sub (n := n) (es := es) (k := k) (l := l) (xs := xs) (A := [])
  rw [List.nil_append] at this
  exact this.subset h
/-- edges in order -/
def EOk (n : Nat) (es : List (Int × Int)) : Prop := ∀ x p, edgeAt es x = some p → 0 ≤ p.1 ∧ p.1 < p.2 ∧ p.2 < (n : Int)
theorem edge_of {x : Int} (E : EOk n es) (h : (edgeAt es x).isSome = true) : 0 ≤ (edgeOf es x).1 ∧ (edgeOf es x).1 < (edgeOf es x).2 ∧ (edgeOf es x).2 < (n : Int) := by
  obtain ⟨p, hp⟩ := Option.isSome_iff_exists.mp h
  unfold edgeOf
  rw [hp]
  exact E x p hp
/-- a rejected edge lies in a tight set -/
theorem rej_tight {G : List Int} {x : Int} (s : Sprs n (eds es G) k l) (h : ¬ Sprs n (eds es (G ++ [x])) k l) : ∃ ks ∈ tights n k l (eds es G), inS es ks x = true := by
  have : ∃ ks ∈ nsets n 2, ¬ (insd (eds es (G ++ [x])) ks : Int) ≤ k * ks.length - l := by
    apply Classical.byContradiction
    intro hz
    exact h fun ks hk => Classical.byContradiction fun z => hz ⟨ks, hk, z⟩
  obtain ⟨ks, hk, hv⟩ := this
  have e : eds es (G ++ [x]) = eds es G ++ [edgeOf es x] := by
    unfold eds
    rw [List.map_append]
    rfl
  rw [e, insd_snoc] at hv
  have := s ks hk
  refine ⟨ks, mem_tights.mpr ⟨hk, decide_eq_true ?_⟩, ?_⟩
  · split at hv <;> omega
  · show (ks.contains (edgeOf es x).1 && ks.contains (edgeOf es x).2) = true
    cases q : ks.contains (edgeOf es x).1 && ks.contains (edgeOf es x).2 with
    | true => rfl
    | false =>
      rw [q, if_neg Bool.false_ne_true] at hv
      omega
/-- nsets has nothing twice -/
theorem subs_nodup : ∀ n : Nat, (subs n).Nodup
  | 0 => List.nodup_cons.mpr ⟨by simp, List.nodup_nil⟩
  | n + 1 => by
    show (subs n ++ (subs n).map (· ++ [(n : Int)])).Nodup
    refine List.nodup_append.mpr ⟨subs_nodup n, ?_, fun a ha b hb => ?_⟩
    · rw [List.Nodup, List.pairwise_map]
      exact (subs_nodup n).imp fun h e => h (List.append_cancel_right e)
    · obtain ⟨c, hc, rfl⟩ := List.mem_map.mp hb
      intro e
      have := (mem_subs.mp ha).2 (n : Int) (by rw [e]; simp)
      omega
theorem nsets_nodup (n : Nat) (least : Int) : (nsets n least).Nodup := by
  unfold nsets sortS
  exact ((List.mergeSort_perm _ _).nodup_iff.mpr (subs_nodup n)).filter _
theorem maxi_pw {A J : List Int} (E : EOk n es) (s : Sprs n (eds es A) k l) (hJ : ∀ x ∈ J, (edgeAt es x).isSome = true) : (maxi (tights n k l (eds es A))).Pairwise (fun a b => ∀ x ∈ J, ¬ (inS es a x = true ∧ inS es b x = true)) := by
  have nd : (maxi (tights n k l (eds es A))).Nodup := ((nsets_nodup n 2).filter _).filter _
  refine List.Pairwise.imp_of_mem ?_ nd
  intro a b ha hb hne x hx hz
  obtain ⟨_, h2, _⟩ := edge_of E (hJ x hx)
  have h1 := hz.1
  have h3 := hz.2
  unfold inS at h1 h3
  rw [Bool.and_eq_true] at h1 h3
  exact maxi_share s ha hb hne (a := (edgeOf es x).1) (b := (edgeOf es x).2) (by omega) ⟨List.contains_iff_mem.mp h1.1, List.contains_iff_mem.mp h3.1⟩ ⟨List.contains_iff_mem.mp h1.2, List.contains_iff_mem.mp h3.2⟩
def bnd (k l : Int) (M : List (List Int)) : Int := sumG (fun m => k * m.length - l) M
/-- the greatest tight sets and the loose edges bound the rank -/
theorem greedy_bound (E : EOk n es) {xs : List Int} (hx : xs.Nodup) (hs : ∀ x ∈ xs, (edgeAt es x).isSome = true) (h0 : Sprs n [] k l) :
    ((greedy n es k l xs []).length : Int) = bnd k l (maxi (tights n k l (eds es (greedy n es k l xs [])))) + (((greedy n es k l xs []).filter (loose es (maxi (tights n k l (eds es (greedy n es k l xs [])))))).length : Nat) ∧
    ∀ x ∈ xs, ¬ x ∈ greedy n es k l xs [] → loose es (maxi (tights n k l (eds es (greedy n es k l xs [])))) x = false := by
  have sg := greedy_sparse (n := n) (es := es) (k := k) (l := l) (xs := xs) (A := []) h0
  have rej := fun x (hx : x ∈ xs) (hn : ¬ x ∈ greedy n es k l xs []) => greedy_rej (n := n) (es := es) (k := k) (l := l) hx hn
  have gm := fun x (hx : x ∈ greedy n es k l xs []) => greedy_mem hx
  generalize greedy n es k l xs [] = G at *
  have c := count_fam (es := es) (maxi_pw E sg fun x hx => hs x (gm x hx))
  refine ⟨?_, fun x hx hn => ?_⟩
  · rw [← c]
    congr 1
    unfold bnd
    refine sumG_eq fun m hm => ?_
    have := of_decide_eq_true (mem_tights.mp (mem_maxi.mp hm).1).2
    rw [insd_inS] at this
    exact this
  · obtain ⟨ks, hk, hi⟩ := rej_tight sg (rej x hx hn)
    obtain ⟨b, hb, hsub⟩ := maxi_ex (n := n) (L := tights n k l (eds es G)) (fun a ha => (mem_tights.mp ha).1) (m := n) (by omega) hk
    unfold loose
    cases q : (maxi (tights n k l (eds es G))).all fun m => !inS es m x with
    | false => rfl
    | true =>
      have := List.all_eq_true.mp q b hb
      have hib : inS es b x = true := by
        unfold inS at hi ⊢
        rw [Bool.and_eq_true] at hi ⊢
        exact ⟨List.contains_iff_mem.mpr (hsub _ (List.contains_iff_mem.mp hi.1)), List.contains_iff_mem.mpr (hsub _ (List.contains_iff_mem.mp hi.2))⟩
      rw [hib] at this
      cases this
/-- THE RANK: no independent set is larger -/
theorem rank_max (E : EOk n es) {xs J : List Int} (hx : xs.Nodup) (hs : ∀ x ∈ xs, (edgeAt es x).isSome = true) (h0 : Sprs n [] k l) (hJ : J.Nodup) (hsub : ∀ x ∈ J, x ∈ xs) (sJ : Sprs n (eds es J) k l) : J.length ≤ (greedy n es k l xs []).length := by
  obtain ⟨b1, b2⟩ := greedy_bound E hx hs h0
  have sg := greedy_sparse (n := n) (es := es) (k := k) (l := l) (xs := xs) (A := []) h0
  generalize greedy n es k l xs [] = G at *
  have c := count_fam (es := es) (J := J) (maxi_pw (A := G) E sg fun x hx => hs x (hsub x hx))
  have i1 : sumG (fun m => ((J.filter (inS es m)).length : Nat)) (maxi (tights n k l (eds es G))) ≤ bnd k l (maxi (tights n k l (eds es G))) := sumG_le fun m hm => by
    have := sJ m (mem_tights.mp (mem_maxi.mp hm).1).1
    rw [insd_inS] at this
    exact this
  have i2 : (J.filter (loose es (maxi (tights n k l (eds es G))))).length ≤ (G.filter (loose es (maxi (tights n k l (eds es G))))).length := nodup_le (hJ.filter _) fun x hx => by
    rw [List.mem_filter] at hx ⊢
    refine ⟨Classical.byContradiction fun hn => ?_, hx.2⟩
    rw [b2 x (hsub x hx.1) hn] at hx
    cases hx.2
  omega
/-- any cover bounds the rank -/
theorem rank_cover {J ls : List Int} {M : List (List Int)} (hM : ∀ m ∈ M, m ∈ nsets n 2) (hJ : J.Nodup) (sJ : Sprs n (eds es J) k l) (h : ∀ x ∈ J, x ∈ ls ∨ ∃ m ∈ M, inS es m x = true) : (J.length : Int) ≤ bnd k l M + (ls.length : Nat) := by
  have c := cover_le (es := es) (J := J) (p := ls.contains) (M := M) fun x hx => (h x hx).elim (fun z => .inl (List.contains_iff_mem.mpr z)) .inr
  have i1 : sumG (fun m => ((J.filter (inS es m)).length : Nat)) M ≤ bnd k l M := sumG_le fun m hm => by
    have := sJ m (hM m hm)
    rw [insd_inS] at this
    exact this
  have i2 : (J.filter ls.contains).length ≤ ls.length := nodup_le (hJ.filter _) fun x hx => List.contains_iff_mem.mp (List.mem_filter.mp hx).2
  omega
end
/-- the rank of a list of numbers -/
def rk (n : Nat) (es : List (Int × Int)) (k l : Int) (xs : List Int) : Nat := (greedy n es k l xs []).length
structure RkOk (n : Nat) (es : List (Int × Int)) (k l : Int) : Prop where
  E : EOk n es
  h0 : Sprs n [] k l
/-- numbers of edges, each once -/
def Nums (es : List (Int × Int)) (xs : List Int) : Prop := xs.Nodup ∧ ∀ x ∈ xs, (edgeAt es x).isSome = true
section
variable {n : Nat} {k l : Int} {es : List (Int × Int)}
theorem rk_mono (R : RkOk n es k l) {xs ys : List Int} (hx : Nums es xs) (hy : Nums es ys) (h : ∀ x ∈ xs, x ∈ ys) : rk n es k l xs ≤ rk n es k l ys :=
  rank_max R.E hy.1 hy.2 R.h0 (greedy_nodup hx.1) (fun x hx => h x (greedy_mem hx)) (greedy_sparse R.h0)
theorem rk_set (R : RkOk n es k l) {xs ys : List Int} (hx : Nums es xs) (hy : Nums es ys) (h : ∀ x, x ∈ xs ↔ x ∈ ys) : rk n es k l xs = rk n es k l ys :=
  Nat.le_antisymm (rk_mono R hx hy fun x hx => (h x).mp hx) (rk_mono R hy hx fun x hx => (h x).mpr hx)
theorem rk_len {xs : List Int} : rk n es k l xs ≤ xs.length := greedy_len
theorem rk_full (h0 : Sprs n [] k l) {xs : List Int} : rk n es k l xs = xs.length ↔ Sprs n (eds es xs) k l := greedy_full h0
theorem rk_snoc {xs : List Int} {x : Int} : rk n es k l (xs ++ [x]) = rk n es k l xs ∨ rk n es k l (xs ++ [x]) = rk n es k l xs + 1 := by
  unfold rk
  rw [greedy_app]
  conv => lhs; lhs; unfold greedy
  conv => rhs; lhs; unfold greedy
  split
  · right
    show (greedy n es k l xs [] ++ [x]).length = _
    rw [List.length_append]
    rfl
  · left
    rfl
theorem Nums.app {xs ys : List Int} (hx : Nums es xs) (hy : Nums es ys) (h : ∀ x ∈ xs, ¬ x ∈ ys) : Nums es (xs ++ ys) :=
  ⟨List.nodup_append.mpr ⟨hx.1, hy.1, fun a ha b hb e => h a ha (e ▸ hb)⟩, fun x hx' => (List.mem_append.mp hx').elim (hx.2 x) (hy.2 x)⟩
theorem Nums.filter {xs : List Int} (hx : Nums es xs) (p : Int → Bool) : Nums es (xs.filter p) := ⟨hx.1.filter _, fun x h => hx.2 x (List.mem_filter.mp h).1⟩
theorem rk_submod (R : RkOk n es k l) {X Y U I : List Int} (hX : Nums es X) (hY : Nums es Y) (hU : Nums es U) (hI : Nums es I) (eU : ∀ x, x ∈ U ↔ x ∈ X ∨ x ∈ Y) (eI : ∀ x, x ∈ I ↔ x ∈ X ∧ x ∈ Y) : rk n es k l U + rk n es k l I ≤ rk n es k l X + rk n es k l Y := by
  have nX' := hX.filter fun x => !Y.contains x
  have nY' := hY.filter fun x => !X.contains x
  have mX' : ∀ x, x ∈ X.filter (fun x => !Y.contains x) ↔ x ∈ X ∧ ¬ x ∈ Y := fun x => by rw [List.mem_filter, Bool.not_eq_true', ← Bool.not_eq_true, List.contains_iff_mem]
  have mY' : ∀ x, x ∈ Y.filter (fun x => !X.contains x) ↔ x ∈ Y ∧ ¬ x ∈ X := fun x => by rw [List.mem_filter, Bool.not_eq_true', ← Bool.not_eq_true, List.contains_iff_mem]
  generalize X.filter (fun x => !Y.contains x) = X' at *
  generalize Y.filter (fun x => !X.contains x) = Y' at *
  have n1 : Nums es (I ++ X') := hI.app nX' fun x h1 h2 => ((mX' x).mp h2).2 ((eI x).mp h1).2
  have n2 : Nums es (I ++ X' ++ Y') := n1.app nY' fun x h1 h2 => ((mY' x).mp h2).2 ((List.mem_append.mp h1).elim (fun z => ((eI x).mp z).1) (fun z => ((mX' x).mp z).1))
  have rX : rk n es k l (I ++ X') = rk n es k l X := rk_set R n1 hX fun x => by
    rw [List.mem_append, eI, mX']
    by_cases hy : x ∈ Y <;> simp [hy]
  have rU : rk n es k l (I ++ X' ++ Y') = rk n es k l U := rk_set R n2 hU fun x => by
    rw [List.mem_append, List.mem_append, eI, mX', mY', eU]
    by_cases hy : x ∈ Y <;> by_cases hx : x ∈ X <;> simp [hy, hx]
  unfold rk at rX rU ⊢
  rw [greedy_app] at rX
  rw [greedy_app, greedy_app] at rU
  obtain ⟨C2, e2, s2⟩ := greedy_add (n := n) (es := es) (k := k) (l := l) (xs := X') (A := greedy n es k l I [])
  obtain ⟨C3, e3, s3⟩ := greedy_add (n := n) (es := es) (k := k) (l := l) (xs := Y') (A := greedy n es k l X' (greedy n es k l I []))
  have sp : Sprs n (eds es (greedy n es k l Y' (greedy n es k l X' (greedy n es k l I [])))) k l := greedy_sparse (greedy_sparse (greedy_sparse R.h0))
  have nd : (greedy n es k l Y' (greedy n es k l X' (greedy n es k l I []))).Nodup := by
    have := greedy_nodup (n := n) (es := es) (k := k) (l := l) n2.1
    rw [greedy_app, greedy_app] at this
    exact this
  rw [e3, e2] at sp nd rU
  rw [e2] at rX
  have gi := fun x (h : x ∈ greedy n es k l I []) => greedy_mem h
  generalize greedy n es k l I [] = B1 at *
  have sub : (B1 ++ C3).Sublist (B1 ++ C2 ++ C3) := (List.sublist_append_left B1 C2).append (List.Sublist.refl C3)
  have := rank_max R.E hY.1 hY.2 R.h0 (J := B1 ++ C3) (nd.sublist sub) (fun x hx => (List.mem_append.mp hx).elim (fun z => ((eI x).mp (gi x z)).2) (fun z => ((mY' x).mp (s3.subset z)).1)) (sp.sub (sub.map _))
  rw [List.length_append] at this
  rw [List.length_append, List.length_append] at rU
  rw [List.length_append] at rX
  omega
/-- with one more -/
theorem rk_one (R : RkOk n es k l) {xs ys : List Int} {x : Int} (hx : Nums es xs) (hy : Nums es ys) (h : ∀ y, y ∈ ys ↔ y ∈ xs ∨ y = x) : rk n es k l ys = rk n es k l xs ∨ rk n es k l ys = rk n es k l xs + 1 := by
  by_cases hm : x ∈ xs
  · left
    exact rk_set R hy hx fun y => by rw [h]; exact ⟨fun z => z.elim (fun a => a) fun a => by rw [a]; exact hm, .inl⟩
  · have n1 : Nums es (xs ++ [x]) := hx.app ⟨List.nodup_cons.mpr ⟨by simp, List.nodup_nil⟩, fun y hy' => by rw [List.mem_singleton] at hy'; rw [hy']; exact hy.2 x ((h x).mpr (.inr rfl))⟩ fun y h1 h2 => by rw [List.mem_singleton] at h2; exact hm (h2 ▸ h1)
    rw [rk_set R hy n1 fun y => by rw [h, List.mem_append, List.mem_singleton]]
    exact rk_snoc
end
end Ip
namespace Ip
open PySem
theorem atI_map {α β : Type} {f : α → β} {xs : List α} {i : Int} : L2.atI (xs.map f) i = (L2.atI xs i).map f := by
  unfold L2.atI
  rw [List.length_map]
  cases L2.ixN xs.length i with
  | none => rfl
  | some j =>
    show (xs.map f)[j]? = (xs[j]?).map f
    rw [List.getElem?_map]
theorem idx_edge {es : List (Int × Int)} {y : Int} (h : (edgeAt es y).isSome = true) : idxD (.tuple (es.map eD)) (.int y) = .ok (eD (edgeOf es y)) := by
  obtain ⟨p, hp⟩ := Option.isSome_iff_exists.mp h
  show (match L2.atI (es.map eD) y with | some d => Rs.ok d | none => .bad) = _
  rw [atI_map, show L2.atI es y = some p from hp]
  unfold edgeOf
  rw [hp]
  rfl
theorem greedy_foldl {n : Nat} {es : List (Int × Int)} {k l : Int} : ∀ {xs A : List Int}, xs.foldl (fun A x => if spB n (eds es (A ++ [x])) k l then A ++ [x] else A) A = greedy n es k l xs A
  | [], _ => rfl
  | x :: r, A => by
    rw [List.foldl_cons, greedy_foldl, greedy_cons]
    split <;> rfl
/-- numbers of edges, rising -/
structure ENum (m : Nat) (xs : List Int) : Prop where
  pw : xs.Pairwise (· < ·)
  rg : ∀ x ∈ xs, 0 ≤ x ∧ x < m
theorem ENum.nums {es : List (Int × Int)} {xs : List Int} (h : ENum es.length xs) : Nums es xs := ⟨pw_nodup h.pw, fun x hx => edgeAt_ids (mem_ids.mpr (h.rg x hx))⟩
theorem ENum.len {m : Nat} {xs : List Int} (h : ENum m xs) : xs.length ≤ m := by
  have := nodup_le (pw_nodup h.pw) fun x hx => mem_ids.mpr (h.rg x hx)
  rw [ids_len] at this
  exact this
theorem ENum.filter {m : Nat} {xs : List Int} (h : ENum m xs) (p : Int → Bool) : ENum m (xs.filter p) := ⟨h.pw.filter _, fun x hx => h.rg x (List.mem_filter.mp hx).1⟩
theorem enum_ids (m : Nat) : ENum m (ids m) := ⟨ids_pairwise m, fun x hx => mem_ids.mp hx⟩
theorem enum_set {m : Nat} {xs : List Int} (h : ∀ x ∈ xs, 0 ≤ x ∧ x < m) : ENum m (sortU xs) := ⟨sortU_lt _, fun x hx => h x (sortU_mem.mp hx)⟩
theorem enum_nil (m : Nat) : ENum m [] := ⟨.nil, fun x h => by cases h⟩
theorem d_ssetT {ns : List Int} (h : ns.length < 60) : blD .sortedSet [tD ns] = .ok (.list ((sortU ns).map .int)) := by
  show (match intsOf (ns.map .int) with | some ns => if ns.length < 60 then Rs.ok (PyData.list ((sortU ns).map .int)) else .bad | none => .bad) = _
  rw [ints_back]
  dsimp only
  rw [if_pos h]
theorem in_tD {a : Int} {ks : List Int} : cmpD .inn (.int a) (tD ks) = .ok (ks.contains a) := in_ints
theorem RkOk.of {n : Int} {es : List (Int × Int)} {k l : Int} (h : KL k l) (n0 : 0 ≤ n) (E : ∀ p ∈ es, 0 ≤ p.1 ∧ p.1 < p.2 ∧ p.2 < n) : RkOk n.toNat es k l := ⟨fun x p hp => by have := E p (edgeAt_mem hp); omega, h.nil⟩
theorem nsOf_tD {ns : List Int} : nsOf (tD ns) = some ns := ints_back ns
/-- the edges that do not raise the rank -/
def clo (n : Nat) (es : List (Int × Int)) (k l : Int) (xs : List Int) : List Int := (ids es.length).filter fun x => xs.contains x || decide (rk n es k l (xs ++ [x]) = rk n es k l xs)
end Ip
namespace Ip
open PySem
theorem tup_ints {ns : List Int} : blD .tuple [.list (ns.map .int)] = .ok (tD ns) := rfl
end Ip
namespace Ip
open PySem
theorem nin_ints {a : Int} {ks : List Int} : cmpD .nin (.int a) (.tuple (ks.map .int)) = .ok (!ks.contains a) := by
  have h : cmpD .nin (.int a) (.tuple (ks.map .int)) = (cmpD .inn (.int a) (.tuple (ks.map .int))).bind fun b => .ok (!b) := rfl
  rw [h, in_ints]
  rfl
theorem nin_tD {a : Int} {ks : List Int} : cmpD .nin (.int a) (tD ks) = .ok (!ks.contains a) := nin_ints
end Ip

set_option maxHeartbeats 4000000
namespace Ip
open PySem
/-! ### closures -/
section
variable {n : Nat} {k l : Int} {es : List (Int × Int)}
theorem greedy_same : ∀ {xs B : List Int}, (∀ x ∈ xs, ¬ Sprs n (eds es (B ++ [x])) k l) → greedy n es k l xs B = B
  | [], _, _ => rfl
  | x :: r, B, h => by
    rw [greedy_cons, if_neg fun z => h x List.mem_cons_self (spB_iff.mp z)]
    exact greedy_same fun y hy => h y (List.mem_cons_of_mem _ hy)
theorem rk_rej {xs : List Int} {x : Int} (h : rk n es k l (xs ++ [x]) = rk n es k l xs) : ¬ Sprs n (eds es (greedy n es k l xs [] ++ [x])) k l := fun s => by
  unfold rk at h
  rw [greedy_app, greedy_cons, if_pos (spB_iff.mpr s)] at h
  have : (greedy n es k l xs [] ++ [x]).length = (greedy n es k l xs []).length := h
  rw [List.length_append, List.length_singleton] at this
  omega
theorem clo_enum {xs : List Int} : ENum es.length (clo n es k l xs) := (enum_ids es.length).filter _
theorem mem_clo {xs : List Int} {x : Int} : x ∈ clo n es k l xs ↔ (0 ≤ x ∧ x < es.length) ∧ (x ∈ xs ∨ rk n es k l (xs ++ [x]) = rk n es k l xs) := by
  unfold clo
  rw [List.mem_filter, mem_ids, Bool.or_eq_true, List.contains_iff_mem, decide_eq_true_iff]
theorem clo_rk (R : RkOk n es k l) {xs : List Int} (hx : ENum es.length xs) : rk n es k l (clo n es k l xs) = rk n es k l xs := by
  have hr : ENum es.length ((clo n es k l xs).filter fun x => !xs.contains x) := clo_enum.filter _
  have mr : ∀ x, x ∈ (clo n es k l xs).filter (fun x => !xs.contains x) ↔ x ∈ clo n es k l xs ∧ ¬ x ∈ xs := fun x => by rw [List.mem_filter, Bool.not_eq_true', ← Bool.not_eq_true, List.contains_iff_mem]
  generalize (clo n es k l xs).filter (fun x => !xs.contains x) = r at *
  have na : Nums es (xs ++ r) := hx.nums.app hr.nums fun x h1 h2 => ((mr x).mp h2).2 h1
  rw [← rk_set R na clo_enum.nums fun x => by
    rw [List.mem_append, mr, mem_clo]
    by_cases hm : x ∈ xs
    · simp [hm, hx.rg x hm]
    · simp [hm]]
  unfold rk
  rw [greedy_app, greedy_same fun x hx' => rk_rej ((mem_clo.mp ((mr x).mp hx').1).2.resolve_left ((mr x).mp hx').2)]
theorem nums_snoc {xs : List Int} {x : Int} (hx : ENum es.length xs) (h : 0 ≤ x ∧ x < es.length) (hn : ¬ x ∈ xs) : Nums es (xs ++ [x]) :=
  hx.nums.app ⟨List.nodup_cons.mpr ⟨by simp, List.nodup_nil⟩, fun y hy => by rw [List.mem_singleton] at hy; rw [hy]; exact edgeAt_ids (mem_ids.mpr h)⟩ fun y h1 h2 => by rw [List.mem_singleton] at h2; exact hn (h2 ▸ h1)
theorem clo_sub {xs : List Int} (hx : ENum es.length xs) : ∀ x ∈ xs, x ∈ clo n es k l xs := fun x h => mem_clo.mpr ⟨hx.rg x h, .inl h⟩
theorem clo_idem (R : RkOk n es k l) {xs : List Int} (hx : ENum es.length xs) : clo n es k l (clo n es k l xs) = clo n es k l xs := by
  refine pw_ext clo_enum.pw clo_enum.pw fun x => ⟨fun h => ?_, fun h => clo_sub clo_enum x h⟩
  obtain ⟨h1, h2⟩ := mem_clo.mp h
  rcases h2 with h2 | h2
  · exact h2
  · apply Classical.byContradiction
    intro hn
    have hxs : ¬ x ∈ xs := fun z => hn (clo_sub hx x z)
    have h3 : ¬ rk n es k l (xs ++ [x]) = rk n es k l xs := fun z => hn (mem_clo.mpr ⟨h1, .inr z⟩)
    have h4 := rk_mono R (nums_snoc hx h1 hxs) (nums_snoc clo_enum h1 hn) fun y hy => List.mem_append.mpr ((List.mem_append.mp hy).imp (clo_sub hx y) id)
    rw [h2, clo_rk R hx] at h4
    rcases rk_snoc (n := n) (es := es) (k := k) (l := l) (xs := xs) (x := x) with q | q <;> omega
theorem clo_mono (R : RkOk n es k l) {xs ys : List Int} (hx : ENum es.length xs) (hy : ENum es.length ys) (h : ∀ x ∈ xs, x ∈ ys) : ∀ x ∈ clo n es k l xs, x ∈ clo n es k l ys := fun x hm => by
  obtain ⟨h1, h2⟩ := mem_clo.mp hm
  by_cases hn : x ∈ ys
  · exact clo_sub hy x hn
  · have hnx : ¬ x ∈ xs := fun z => hn (h x z)
    have h2 := h2.resolve_left hnx
    have := rk_submod R hy.nums (nums_snoc hx h1 hnx) (nums_snoc hy h1 hn) hx.nums (fun y => by
      rw [List.mem_append, List.mem_append, List.mem_singleton]
      exact ⟨fun z => z.imp id .inr, fun z => z.elim .inl fun a => a.elim (fun b => .inl (h y b)) .inr⟩) (fun y => by
      rw [List.mem_append, List.mem_singleton]
      exact ⟨fun z => ⟨h y z, .inl z⟩, fun z => z.2.resolve_right fun e => hn (e ▸ z.1)⟩)
    refine mem_clo.mpr ⟨h1, .inr ?_⟩
    rcases rk_snoc (n := n) (es := es) (k := k) (l := l) (xs := ys) (x := x) with q | q <;> omega
end
theorem mem_cut {α : Type} {xs : List α} {lo hi : Option Int} {x : α} (h : x ∈ cutL xs lo hi) : x ∈ xs := List.mem_of_mem_drop (List.mem_of_mem_take h)
theorem cut_len {α : Type} {xs : List α} {lo hi : Option Int} : (cutL xs lo hi).length ≤ xs.length := by
  unfold cutL
  rw [List.length_take, List.length_drop]
  omega
theorem ne_tD {ks : List Int} : cmpD .ne (tD ks) (tD ks) = .ok false := by
  rw [c_ne (shp_tD (n := 0) _) (shp_tD (n := 0) _) (by decide) (by decide), eqv_refl (shp_tD (n := 0) _)]
  rfl
end Ip

set_option maxHeartbeats 4000000
namespace Ip
open PySem
/-! ### circuits -/
theorem nodup_all {l m : List Int} (hl : l.Nodup) (h : ∀ x ∈ l, x ∈ m) (hm : m.length ≤ l.length) : ∀ x ∈ m, x ∈ l := fun x hx => Classical.byContradiction fun hn => by
  have := nodup_le (l := x :: l) (m := m) (List.nodup_cons.mpr ⟨hn, hl⟩) fun y hy => by
    rcases List.mem_cons.mp hy with z | z
    · rw [z]; exact hx
    · exact h y z
  rw [List.length_cons] at this
  omega
section
variable {n : Nat} {k l : Int} {es : List (Int × Int)}
def circ (n : Nat) (es : List (Int × Int)) (k l : Int) (xs : List Int) (y : Int) : List Int := y :: xs.filter fun o => spB n (eds es (xs.filter (fun x => x != o) ++ [y])) k l
theorem mem_circ {xs : List Int} {y o : Int} : o ∈ circ n es k l xs y ↔ o = y ∨ (o ∈ xs ∧ Sprs n (eds es (xs.filter (fun x => x != o) ++ [y])) k l) := by
  unfold circ
  rw [List.mem_cons, List.mem_filter, spB_iff]
theorem circ_nodup {xs : List Int} {y : Int} (hx : xs.Nodup) (hy : ¬ y ∈ xs) : (circ n es k l xs y).Nodup := List.nodup_cons.mpr ⟨fun z => hy (List.mem_filter.mp z).1, hx.filter _⟩
theorem filter_ne_len {xs : List Int} {o : Int} (hx : xs.Nodup) (ho : o ∈ xs) : (xs.filter fun x => x != o).length + 1 = xs.length := by
  have h1 : (xs.filter fun x => x == o).length = 1 := by
    have := nodup_eq (l := xs.filter fun x => x == o) (m := [o]) (hx.filter _) (List.nodup_cons.mpr ⟨by simp, List.nodup_nil⟩) fun x => by
      rw [List.mem_filter, beq_iff_eq, List.mem_singleton]
      exact ⟨fun z => z.2, fun z => ⟨by rw [z]; exact ho, z⟩⟩
    rw [this]
    rfl
  have h2 := filter_or (p := fun x => x == o) (q := fun x => x != o) (l := xs) fun x _ hp => by rw [bne, hp]; rfl
  rw [h1, List.filter_eq_self.mpr (show ∀ x ∈ xs, ((x == o) || (x != o)) = true from fun x _ => by cases q : x == o <;> simp [bne, q])] at h2
  omega
theorem circ_dep (R : RkOk n es k l) {xs : List Int} {y : Int} (hx : Nums es xs) (hy : (edgeAt es y).isSome = true) (hn : ¬ y ∈ xs) (s : Sprs n (eds es xs) k l) (d : ¬ Sprs n (eds es (xs ++ [y])) k l) : ¬ Sprs n (eds es (circ n es k l xs y)) k l := fun sC => by
  have nC : (circ n es k l xs y).Nodup := circ_nodup hx.1 hn
  have mC : ∀ o ∈ circ n es k l xs y, o = y ∨ o ∈ xs := fun o ho => (mem_circ.mp ho).imp id And.left
  have hC : Nums es (circ n es k l xs y) := ⟨nC, fun o ho => (mC o ho).elim (fun z => by rw [z]; exact hy) (hx.2 o)⟩
  have yC : y ∈ circ n es k l xs y := mem_circ.mpr (.inl rfl)
  have bad : ∀ o ∈ xs, ¬ o ∈ circ n es k l xs y → ¬ Sprs n (eds es (xs.filter (fun x => x != o) ++ [y])) k l := fun o ho hc z => hc (mem_circ.mpr (.inr ⟨ho, z⟩))
  generalize circ n es k l xs y = C at *
  have nr := hx.filter fun x => !C.contains x
  have mr : ∀ x, x ∈ xs.filter (fun x => !C.contains x) ↔ x ∈ xs ∧ ¬ x ∈ C := fun x => by rw [List.mem_filter, Bool.not_eq_true', ← Bool.not_eq_true, List.contains_iff_mem]
  generalize xs.filter (fun x => !C.contains x) = r at *
  have nL : Nums es (C ++ r) := hC.app nr fun x h1 h2 => ((mr x).mp h2).2 h1
  have ns : Nums es (xs ++ [y]) := hx.app ⟨List.nodup_cons.mpr ⟨by simp, List.nodup_nil⟩, fun z hz => by rw [List.mem_singleton] at hz; rw [hz]; exact hy⟩ fun z h1 h2 => by rw [List.mem_singleton] at h2; exact hn (h2 ▸ h1)
  have same : ∀ x, x ∈ C ++ r ↔ x ∈ xs ++ [y] := fun x => by
    rw [List.mem_append, List.mem_append, List.mem_singleton, mr]
    constructor
    · rintro (z | z)
      · exact (mC x z).symm
      · exact .inl z.1
    · rintro (z | z)
      · by_cases q : x ∈ C
        · exact .inl q
        · exact .inr ⟨z, q⟩
      · rw [z]; exact .inl yC
  have rL := rk_set R nL ns same
  have r1 : rk n es k l (xs ++ [y]) = xs.length := by
    have := (rk_full (n := n) (es := es) (k := k) (l := l) R.h0 (xs := xs)).mpr s
    rcases rk_snoc (n := n) (es := es) (k := k) (l := l) (xs := xs) (x := y) with q | q
    · omega
    · exfalso
      apply d
      apply (rk_full R.h0).mp
      rw [q, this, List.length_append]
      rfl
  rw [r1] at rL
  unfold rk at rL
  rw [greedy_app, greedy_all (xs := C) (A := []) (by rw [List.nil_append]; exact sC), List.nil_append] at rL
  have sG : Sprs n (eds es (greedy n es k l r C)) k l := greedy_sparse sC
  obtain ⟨D, eD, sD⟩ := greedy_add (n := n) (es := es) (k := k) (l := l) (xs := r) (A := C)
  rw [eD] at rL sG
  have lL : (C ++ r).length = xs.length + 1 := by
    rw [nodup_eq nL.1 ns.1 same, List.length_append]
    rfl
  rw [List.length_append] at rL lL
  -- one is left out
  have : ∃ o ∈ r, ¬ o ∈ D := Classical.byContradiction fun hz => by
    have := nodup_le nr.1 fun o ho => Classical.byContradiction fun hd => hz ⟨o, ho, hd⟩
    omega
  obtain ⟨o, ho, hoD⟩ := this
  obtain ⟨ox, oC⟩ := (mr o).mp ho
  have nG : (C ++ D).Nodup := nL.1.sublist ((List.Sublist.refl C).append sD)
  have fl := filter_ne_len hx.1 ox
  refine bad o ox oC (Sprs.subset (I := C ++ D) ?_ (nodup_all nG (fun x hx' => ?_) ?_) sG)
  · exact List.nodup_append.mpr ⟨hx.1.filter _, List.nodup_cons.mpr ⟨by simp, List.nodup_nil⟩, fun a ha b hb e => by rw [List.mem_singleton] at hb; rw [e, hb] at ha; exact hn (List.mem_filter.mp ha).1⟩
  · have hxo : x ≠ o := fun e => by
      rw [e] at hx'
      exact (List.mem_append.mp hx').elim oC hoD
    have hxs := (same x).mp (List.mem_append.mpr ((List.mem_append.mp hx').imp id fun z => sD.subset z))
    rcases List.mem_append.mp hxs with z | z
    · exact List.mem_append.mpr (.inl (List.mem_filter.mpr ⟨z, by simpa using hxo⟩))
    · exact List.mem_append.mpr (.inr z)
  · rw [List.length_append, List.length_append, List.length_singleton]
    omega
theorem circ_min {xs : List Int} {y o : Int} (hx : xs.Nodup) (hn : ¬ y ∈ xs) (s : Sprs n (eds es xs) k l) (ho : o ∈ circ n es k l xs y) {C : List Int} (hC : C.Nodup) (h : ∀ x ∈ C, x ∈ circ n es k l xs y) : Sprs n (eds es (C.filter fun x => x != o)) k l := by
  rcases mem_circ.mp ho with e | ⟨h1, h2⟩
  · refine s.subset (hC.filter _) fun x hx' => ?_
    obtain ⟨z1, z2⟩ := List.mem_filter.mp hx'
    exact ((mem_circ.mp (h x z1)).resolve_left fun q => by rw [q, e] at z2; simp at z2).1
  · refine h2.subset (hC.filter _) fun x hx' => ?_
    obtain ⟨z1, z2⟩ := List.mem_filter.mp hx'
    rcases mem_circ.mp (h x z1) with q | q
    · exact List.mem_append.mpr (.inr (by rw [q]; simp))
    · exact List.mem_append.mpr (.inl (List.mem_filter.mpr ⟨q.1, z2⟩))
end
/-- whole numbers, sorted -/
def sortI (xs : List Int) : List Int := xs.mergeSort fun a b => PySem.W.dataLe false id (.int a) (.int b)
theorem sortI_perm (xs : List Int) : (sortI xs).Perm xs := List.mergeSort_perm _ _
theorem d_sortI {xs : List Int} (hl : xs.length ≤ lim) : blD .sorted [.list (xs.map .int)] = .ok (.list ((sortI xs).map .int)) :=
  d_sorted (φ := PyData.int) (fun x _ y _ => by rw [PySem.W.alike]) (.inr fun x _ => rfl) hl fun x _ => rfl
end Ip

set_option maxHeartbeats 4000000
namespace Ip
open PySem
/-! ### sets of nodes, compared and sorted -/
theorem eqvA_ints : ∀ {xs ys : List Int}, PyData.eqvAll (xs.map .int) (ys.map .int) = (xs == ys)
  | [], [] => by rw [List.map_nil, PyData.eqvAll]; rfl
  | [], y :: ys => by rw [List.map_nil, List.map_cons]; simp [PyData.eqvAll]
  | x :: xs, [] => by rw [List.map_nil, List.map_cons]; simp [PyData.eqvAll]
  | x :: xs, y :: ys => by
    rw [List.map_cons, List.map_cons, PyData.eqvAll, eqvA_ints, PyData.eqv]
    rfl
theorem ne_tD2 {a b : List Int} : cmpD .ne (tD a) (tD b) = .ok (a != b) := by
  rw [c_ne (shp_tD (n := 0) _) (shp_tD (n := 0) _) (by decide) (by decide)]
  unfold tD
  rw [PyData.eqv, eqvA_ints]
  rfl
theorem ne_lD {a b : List Int} : cmpD .ne (.list (a.map .int)) (.list (b.map .int)) = .ok (a != b) := by
  have sh : ∀ c : List Int, shp 1 (.list (c.map .int)) = true := fun c => shp_tD (n := 0) c
  rw [c_ne (sh a) (sh b) (by decide) (by decide), PyData.eqv, eqvA_ints]
  rfl
theorem nin_lD {a : Int} {ks : List Int} : cmpD .nin (.int a) (.list (ks.map .int)) = .ok (!ks.contains a) := by
  have sh : ∀ c : List Int, shp 1 (.list (c.map .int)) = true := fun c => shp_tD (n := 0) c
  have e : inD (.int a) (.list (ks.map .int)) = .ok (ks.contains a) := by
    show (if SeqAt.shaped (.int a) && SeqAt.shaped (.list (ks.map .int)) then Rs.ok ((ks.map PyData.int).any fun y => PyData.eqv y (.int a)) else .bad) = _
    rw [shp_shaped (n := 1) (d := .list (ks.map .int)) (sh ks) (by decide), shp_shaped (n := 1) (d := .int a) rfl (by decide)]
    have : ((ks.map PyData.int).any fun y => PyData.eqv y (.int a)) = ks.contains a := by
      rw [List.any_map, Bool.eq_iff_iff, List.any_eq_true, List.contains_iff_mem]
      constructor
      · rintro ⟨x, hx, hp⟩
        have hp : PyData.eqv (.int x) (.int a) = true := hp
        rw [PyData.eqv, beq_iff_eq] at hp
        rw [← hp]; exact hx
      · intro z
        exact ⟨a, z, show PyData.eqv (.int a) (.int a) = true by rw [PyData.eqv]; exact beq_self_eq_true _⟩
    rw [this]
    rfl
  show (inD (.int a) (.list (ks.map .int))).bind _ = _
  rw [e]
  rfl
def sortT (xs : List (List Int)) : List (List Int) := xs.mergeSort fun a b => PySem.W.dataLe false id (tD a) (tD b)
theorem sortT_perm (xs : List (List Int)) : (sortT xs).Perm xs := List.mergeSort_perm _ _
theorem d_sortT {xs : List (List Int)} (hl : xs.length ≤ lim) (hn : ∀ x ∈ xs, x ≠ []) : blD .sorted [.list (xs.map tD)] = .ok (.list ((sortT xs).map tD)) := by
  refine d_sorted (φ := tD) (fun x _ y _ => ?_) (.inl fun x hx => ?_) hl fun x _ => shp_tD x
  · unfold tD
    rw [PySem.W.alike, alike_ints]
  · cases x with
    | nil => exact absurd rfl (hn _ hx)
    | cons a r => rfl
theorem d_sumI {ns : List Int} : blD .sum [.list (ns.map .int)] = .ok (.int ns.sum) := by
  show (match intsOf (ns.map .int) with | some ns => Rs.ok (PyData.int ns.sum) | none => .bad) = _
  rw [ints_back]
theorem isEmpty_filter {α β : Type} {p : α → Bool} {f : α → β} {xs : List α} : ((xs.filter p).map f).isEmpty = !(xs.any p) := by
  induction xs with
  | nil => rfl
  | cons x r ih =>
    rw [List.filter_cons, List.any_cons]
    cases q : p x with
    | true => rfl
    | false => rw [if_neg Bool.false_ne_true, ih, Bool.false_or]
theorem sum_perm {L M : List Int} (h : L.Perm M) : L.sum = M.sum := by
  induction h with
  | nil => rfl
  | cons x _ ih => rw [List.sum_cons, List.sum_cons, ih]
  | swap x y _ => rw [List.sum_cons, List.sum_cons, List.sum_cons, List.sum_cons]; omega
  | trans _ _ a b => exact a.trans b
theorem bnd_perm {k l : Int} {L M : List (List Int)} (h : L.Perm M) : bnd k l L = bnd k l M := by
  unfold bnd sumG
  exact sum_perm (h.map _)
theorem loose_perm {es : List (Int × Int)} {L M : List (List Int)} (h : L.Perm M) : loose es L = loose es M := by
  funext x
  unfold loose
  rw [Bool.eq_iff_iff, List.all_eq_true, List.all_eq_true]
  exact ⟨fun z m hm => z m (h.mem_iff.mpr hm), fun z m hm => z m (h.mem_iff.mp hm)⟩
end Ip

set_option maxHeartbeats 4000000
namespace Ip
open PySem
/-! ### orders by weight -/
def sortE (xs : List (Int × Int)) : List (Int × Int) := xs.mergeSort fun a b => PySem.W.dataLe false id (eD a) (eD b)
theorem sortE_perm (xs : List (Int × Int)) : (sortE xs).Perm xs := List.mergeSort_perm _ _
theorem d_sortE {xs : List (Int × Int)} (hl : xs.length ≤ lim) : blD .sorted [.list (xs.map eD)] = .ok (.list ((sortE xs).map eD)) := by
  refine d_sorted (φ := eD) (fun x _ y _ => ?_) (.inl fun x hx => rfl) hl fun x _ => rfl
  unfold eD
  rw [PySem.W.alike, PySem.W.alikeAll, PySem.W.alikeAll, PySem.W.alike, PySem.W.alike, PySem.W.alikeAll]
  rfl
theorem le_fst {a b : Int × Int} (h : PySem.W.dataLe false id (eD a) (eD b) = true) : a.1 ≤ b.1 := by
  have h : (!PyProof.Rows.lexLt PyProof.Rows.itemOrd (PySem.W.keyToks (eD b)) (PySem.W.keyToks (eD a))) = true := h
  have ek : ∀ p : Int × Int, PySem.W.keyToks (eD p) = [.inl 1, .inl p.1, .inl 1, .inl p.2, .inl 0] := fun p => by
    unfold eD
    simp [PySem.W.keyToks, PySem.W.keyToksAll]
  rw [ek, ek] at h
  apply Classical.byContradiction
  intro z
  have z : b.1 < a.1 := by omega
  rw [PyProof.Rows.lex_cons, PyProof.Rows.lex_cons] at h
  have q : PyProof.Rows.itemOrd.blt (.inl b.1) (.inl a.1) = true := decide_eq_true z
  have q0 : PyProof.Rows.itemOrd.blt (.inl 1) (.inl 1) = false := PyProof.Rows.itemOrd.irrefl _
  rw [q, q0] at h
  cases h
theorem sortE_pw (xs : List (Int × Int)) : (sortE xs).Pairwise (fun a b => a.1 ≤ b.1) := by
  have T := PySem.W.sortLe_total (PyProof.Rows.listOrd PyProof.Rows.itemOrd) false (fun p : Int × Int => PySem.W.keyToks (eD p))
  refine (List.pairwise_mergeSort (le := fun a b => PySem.W.dataLe false id (eD a) (eD b)) (fun a b c h1 h2 => T.trans a b c h1 h2) (fun a b => ?_) xs).imp fun h => le_fst h
  rw [Bool.or_eq_true]
  exact T.total a b
/-- a heavier edge left out came first, and stays out -/
theorem greedy_exch {n : Nat} {es : List (Int × Int)} {k l : Int} {O : List Int} {W : Int → Int} (hO : O.Nodup) (pw : O.Pairwise fun a b => W b ≤ W a) {x y : Int} (hx : x ∈ greedy n es k l O []) (hy : y ∈ O) (hn : ¬ y ∈ greedy n es k l O []) (hw : W x < W y) {D : List Int} (hD : ∀ z ∈ greedy n es k l O [], z ≠ x → z ∈ D) : ¬ Sprs n (eds es (D ++ [y])) k l := by
  obtain ⟨O1, O2, rfl⟩ := List.append_of_mem hy
  have hnx : ¬ x ∈ O1 := fun z => by
    have := (List.pairwise_append.mp pw).2.2 x z y List.mem_cons_self
    omega
  rw [greedy_app] at hx hn hD
  have gs := greedy_sub (n := n) (es := es) (k := k) (l := l) (xs := O1) (A := [])
  rw [List.nil_append] at gs
  have nd : (greedy n es k l O1 []).Nodup := (List.nodup_append.mp hO).1.sublist gs
  have hy1 : ¬ y ∈ greedy n es k l O1 [] := fun z => (List.nodup_append.mp hO).2.2 y (gs.subset z) y List.mem_cons_self rfl
  generalize greedy n es k l O1 [] = A at *
  have rej : ¬ Sprs n (eds es (A ++ [y])) k l := fun s => by
    rw [greedy_cons, if_pos (spB_iff.mpr s)] at hn
    exact hn ((greedy_ext (n := n) (es := es) (k := k) (l := l) (xs := O2) (A := A ++ [y])).subset (List.mem_append.mpr (.inr (List.mem_singleton.mpr rfl))))
  intro s
  refine rej (s.subset (List.nodup_append.mpr ⟨nd, List.nodup_cons.mpr ⟨by simp, List.nodup_nil⟩, fun a ha b hb e => by rw [List.mem_singleton] at hb; rw [e, hb] at ha; exact hy1 ha⟩) fun z hz => ?_)
  rcases List.mem_append.mp hz with q | q
  · refine List.mem_append.mpr (.inl (hD z ?_ fun e => hnx (e ▸ gs.subset q)))
    exact (greedy_ext (n := n) (es := es) (k := k) (l := l) (xs := y :: O2) (A := A)).subset q
  · exact List.mem_append.mpr (.inr q)
end Ip

set_option maxHeartbeats 4000000
namespace Ip
open PySem
/-! ### sets of the greatest rank: their unions -/
section
variable {n : Nat} {k l : Int} {es : List (Int × Int)}
def big2 (S m : List Int) : Bool := decide (2 ≤ (m.filter S.contains).length)
def uni (n : Nat) (S : List Int) (P : List (List Int)) : List Int := ofP n fun v => S.contains v || P.any fun m => m.contains v
theorem sumG_part {α : Type} {f : α → Int} {p : α → Bool} : ∀ {L : List α}, sumG f (L.filter p) + sumG f (L.filter fun a => !p a) = sumG f L
  | [] => rfl
  | a :: L => by
    have ih := sumG_part (f := f) (p := p) (L := L)
    cases q : p a
    · rw [List.filter_cons_of_neg (by simp [q]), List.filter_cons_of_pos (by simp [q]), sumG_cons, sumG_cons]; omega
    · rw [List.filter_cons_of_pos (by simp [q]), List.filter_cons_of_neg (by simp [q]), sumG_cons, sumG_cons]; omega
theorem sumG_map {α β : Type} {f : β → Int} {g : α → β} {L : List α} : sumG f (L.map g) = sumG (fun a => f (g a)) L := by
  unfold sumG
  rw [List.map_map]
  rfl
theorem split_len {p : Int → Bool} {L : List Int} : (L.filter p).length + (L.filter fun x => !p x).length = L.length := by
  induction L with
  | nil => rfl
  | cons a L ih =>
    cases q : p a
    · rw [List.filter_cons_of_neg (by simp [q]), List.filter_cons_of_pos (by simp [q]), List.length_cons, List.length_cons]; omega
    · rw [List.filter_cons_of_pos (by simp [q]), List.filter_cons_of_neg (by simp [q]), List.length_cons, List.length_cons]; omega
theorem uni_len {S : List Int} {P : List (List Int)} (k0 : 0 ≤ k) : k * (uni n S P).length ≤ k * S.length + sumG (fun m => k * (m.filter fun x => !S.contains x).length) P := by
  have a : (uni n S P).length ≤ (S ++ (P.map fun m => m.filter fun x => !S.contains x).flatten).length := nodup_le (pw_nodup ofP_pw) fun x hx => by
    have h := (mem_ofP.mp hx).2
    rw [Bool.or_eq_true, List.any_eq_true] at h
    by_cases q : x ∈ S
    · exact List.mem_append_left _ q
    · rcases h with h | ⟨m, hm, h⟩
      · exact absurd (List.contains_iff_mem.mp h) q
      · refine List.mem_append_right _ (List.mem_flatten.mpr ⟨_, List.mem_map.mpr ⟨m, hm, rfl⟩, List.mem_filter.mpr ⟨List.contains_iff_mem.mp h, ?_⟩⟩)
        cases z : S.contains x
        · rfl
        · exact absurd (List.contains_iff_mem.mp z) q
  rw [List.length_append] at a
  have b : sumG (fun m => k * (m.filter fun x => !S.contains x).length) P = k * ((P.map fun m => m.filter fun x => !S.contains x).flatten.length : Nat) := by
    clear a
    induction P with
    | nil => simp [sumG]
    | cons m P ih =>
      rw [sumG_cons, ih, List.map_cons, List.flatten_cons, List.length_append, Int.natCast_add, Int.mul_add]
  rw [b, ← Int.mul_add]
  exact Int.mul_le_mul_of_nonneg_left (by omega) k0
theorem inS_both {S m : List Int} {x : Int} (E : EOk n es) (he : (edgeAt es x).isSome = true) (h1 : inS es S x = true) (h2 : inS es m x = true) : big2 S m = true ∧ inS es (m.filter S.contains) x = true := by
  obtain ⟨_, lt, _⟩ := edge_of E he
  unfold inS at h1 h2
  rw [Bool.and_eq_true] at h1 h2
  have a : (edgeOf es x).1 ∈ m.filter S.contains := List.mem_filter.mpr ⟨List.contains_iff_mem.mp h2.1, h1.1⟩
  have b : (edgeOf es x).2 ∈ m.filter S.contains := List.mem_filter.mpr ⟨List.contains_iff_mem.mp h2.2, h1.2⟩
  refine ⟨decide_eq_true ?_, by unfold inS; rw [List.contains_iff_mem.mpr a, List.contains_iff_mem.mpr b]; rfl⟩
  exact nodup_le (l := [(edgeOf es x).1, (edgeOf es x).2]) (List.nodup_cons.mpr ⟨by rw [List.mem_singleton]; omega, List.nodup_cons.mpr ⟨by simp, List.nodup_nil⟩⟩) fun u hu => by
    simp at hu
    rcases hu with rfl | rfl
    · exact a
    · exact b
theorem inS_mono {a b : List Int} {x : Int} (h : ∀ v ∈ a, v ∈ b) (hi : inS es a x = true) : inS es b x = true := by
  unfold inS at hi ⊢
  rw [Bool.and_eq_true] at hi ⊢
  exact ⟨List.contains_iff_mem.mpr (h _ (List.contains_iff_mem.mp hi.1)), List.contains_iff_mem.mpr (h _ (List.contains_iff_mem.mp hi.2))⟩
theorem merge (k0 : 0 ≤ k) (E : EOk n es) {S J A L : List Int} {M : List (List Int)} (hS : S ∈ nsets n 2) (hM : ∀ m ∈ M, m ∈ nsets n 2) (hA : ∀ x ∈ A, (edgeAt es x).isSome = true) (hJ : J.Nodup) (sJ : Sprs n (eds es J) k l) (JA : ∀ x ∈ J, x ∈ A ∧ inS es S x = true) (jl : (J.length : Int) = k * S.length - l) (cov : ∀ x ∈ A, x ∈ L ∨ ∃ m ∈ M, inS es m x = true) :
    ∃ (Y : List Int) (Q : List (List Int)) (L' : List Int), Y ∈ nsets n 2 ∧ (∀ m ∈ Q, m ∈ nsets n 2) ∧ (∀ v ∈ S, v ∈ Y) ∧ (∀ m ∈ M, big2 S m = true → ∀ v ∈ m, v ∈ Y) ∧ (∀ x ∈ A, x ∈ L' ∨ ∃ m ∈ Y :: Q, inS es m x = true) ∧ bnd k l (Y :: Q) + (L'.length : Nat) ≤ bnd k l M + (L.length : Nat) := by
  obtain ⟨s1, s2, s3⟩ := mem_nsets.mp hS
  have sub : ∀ v ∈ S, v ∈ uni n S (M.filter (big2 S)) := fun v hv => mem_ofP.mpr ⟨s2 v hv, by rw [List.contains_iff_mem.mpr hv]; rfl⟩
  have sub2 : ∀ m ∈ M, big2 S m = true → ∀ v ∈ m, v ∈ uni n S (M.filter (big2 S)) := fun m hm q v hv => mem_ofP.mpr ⟨(mem_nsets.mp (hM m hm)).2.1 v hv, by
    rw [Bool.or_eq_true, List.any_eq_true]
    exact .inr ⟨m, List.mem_filter.mpr ⟨hm, q⟩, List.contains_iff_mem.mpr hv⟩⟩
  have c := rank_cover (n := n) (es := es) (k := k) (l := l) (J := J) (ls := L.filter (inS es S)) (M := (M.filter (big2 S)).map fun m => m.filter S.contains) (fun m hm => by
      obtain ⟨u, hu, rfl⟩ := List.mem_map.mp hm
      obtain ⟨hu, q⟩ := List.mem_filter.mp hu
      obtain ⟨u1, u2, u3⟩ := mem_nsets.mp (hM u hu)
      have := of_decide_eq_true q
      exact mem_nsets.mpr ⟨u1.filter _, fun x hx => u2 x (List.mem_filter.mp hx).1, by omega⟩) hJ sJ fun x hx => by
    obtain ⟨hA', hi⟩ := JA x hx
    rcases cov x hA' with z | ⟨m, hm, z⟩
    · exact .inl (List.mem_filter.mpr ⟨z, hi⟩)
    · obtain ⟨q, z'⟩ := inS_both E (hA x hA') hi z
      exact .inr ⟨_, List.mem_map.mpr ⟨m, List.mem_filter.mpr ⟨hm, q⟩, rfl⟩, z'⟩
  rw [jl] at c
  have u := uni_len (n := n) (S := S) (P := M.filter (big2 S)) k0
  have e1 : bnd k l ((M.filter (big2 S)).map fun m => m.filter S.contains) + sumG (fun m => k * ((m.filter fun x => !S.contains x).length : Int)) (M.filter (big2 S)) = bnd k l (M.filter (big2 S)) := by
    unfold bnd
    rw [sumG_map]
    generalize M.filter (big2 S) = P
    induction P with
    | nil => rfl
    | cons m P ih =>
      rw [sumG_cons, sumG_cons, sumG_cons, ← ih]
      have := split_len (p := S.contains) (L := m)
      have : k * (m.length : Int) = k * ((m.filter S.contains).length : Int) + k * ((m.filter fun x => !S.contains x).length : Int) := by
        rw [← Int.mul_add]; congr 1; omega
      omega
  have e2 : bnd k l (M.filter (big2 S)) + bnd k l (M.filter fun m => !big2 S m) = bnd k l M := sumG_part
  have e3 := split_len (p := inS es S) (L := L)
  refine ⟨uni n S (M.filter (big2 S)), M.filter fun m => !big2 S m, L.filter fun x => !inS es S x, ofP_sets ?_, fun m hm => hM m (List.mem_filter.mp hm).1, sub, sub2, fun x hx => ?_, ?_⟩
  · have : S.length ≤ (uni n S (M.filter (big2 S))).length := nodup_le (pw_nodup s1) sub
    unfold uni at this
    omega
  · rcases cov x hx with z | ⟨m, hm, z⟩
    · cases q : inS es S x
      · exact .inl (List.mem_filter.mpr ⟨z, by rw [q]; rfl⟩)
      · exact .inr ⟨_, List.mem_cons_self, inS_mono sub q⟩
    · cases q : big2 S m
      · exact .inr ⟨m, List.mem_cons_of_mem _ (List.mem_filter.mpr ⟨hm, by rw [q]; rfl⟩), z⟩
      · exact .inr ⟨_, List.mem_cons_self, inS_mono (sub2 m hm q) z⟩
  · have e4 : bnd k l (uni n S (M.filter (big2 S)) :: M.filter fun m => !big2 S m) = (k * ((uni n S (M.filter (big2 S))).length : Int) - l) + bnd k l (M.filter fun m => !big2 S m) := sumG_cons
    omega
/-- numbers of the edges inside a set -/
def insN (es : List (Int × Int)) (S : List Int) : List Int := (ids es.length).filter (inS es S)
theorem insN_enum {S : List Int} : ENum es.length (insN es S) := (enum_ids es.length).filter _
def fullB (n : Nat) (es : List (Int × Int)) (k l : Int) (S : List Int) : Bool := decide ((rk n es k l (insN es S) : Int) = k * S.length - l)
theorem full_union (R : RkOk n es k l) (k1 : 0 ≤ k) (k2 : 0 ≤ 2 * k - l) {S T : List Int} (hS : S ∈ nsets n 2) (hT : T ∈ nsets n 2) (fS : fullB n es k l S = true) (fT : fullB n es k l T = true) {a b : Int} (hab : a ≠ b) (h1 : a ∈ S ∧ a ∈ T) (h2 : b ∈ S ∧ b ∈ T) :
    ofP n (fun x => S.contains x || T.contains x) ∈ nsets n 2 ∧ fullB n es k l (ofP n fun x => S.contains x || T.contains x) = true := by
  have fS := of_decide_eq_true fS
  have fT := of_decide_eq_true fT
  obtain ⟨s1, s2, s3⟩ := mem_nsets.mp hS
  obtain ⟨t1, t2, t3⟩ := mem_nsets.mp hT
  have hU : ofP n (fun x => S.contains x || T.contains x) ∈ nsets n 2 := ofP_sets (by
    have : S.length ≤ (ofP n fun x => S.contains x || T.contains x).length := nodup_le (pw_nodup s1) fun v hv => mem_ofP.mpr ⟨s2 v hv, by rw [List.contains_iff_mem.mpr hv]; rfl⟩
    omega)
  refine ⟨hU, decide_eq_true ?_⟩
  have uS : ∀ v ∈ S, v ∈ ofP n (fun x => S.contains x || T.contains x) := fun v hv => mem_ofP.mpr ⟨s2 v hv, by rw [List.contains_iff_mem.mpr hv]; rfl⟩
  have uT : ∀ v ∈ T, v ∈ ofP n (fun x => S.contains x || T.contains x) := fun v hv => mem_ofP.mpr ⟨t2 v hv, by rw [List.contains_iff_mem.mpr hv, Bool.or_true]⟩
  generalize hUe : ofP n (fun x => S.contains x || T.contains x) = U at *
  obtain ⟨u1, u2, u3⟩ := mem_nsets.mp hU
  have nU : Nums es (insN es U) := insN_enum.nums
  have up : (rk n es k l (insN es U) : Int) ≤ k * U.length - l := by
    have := rank_cover (n := n) (es := es) (k := k) (l := l) (J := greedy n es k l (insN es U) []) (ls := []) (M := [U]) (fun m hm => by rw [List.mem_singleton] at hm; rw [hm]; exact hU) (greedy_nodup nU.1) (greedy_sparse R.h0) fun x hx => .inr ⟨U, List.mem_singleton.mpr rfl, (List.mem_filter.mp (greedy_mem hx)).2⟩
    have e : bnd k l [U] = (k * U.length - l) + 0 := sumG_cons
    rw [e] at this
    simp at this
    exact this
  obtain ⟨b1, b2⟩ := greedy_bound (n := n) (es := es) (k := k) (l := l) R.E (xs := insN es U) nU.1 nU.2 R.h0
  have low : ∀ S, (∀ v ∈ S, v ∈ U) → ∀ x ∈ greedy n es k l (insN es S) [], x ∈ insN es U ∧ inS es S x = true := fun S h x hx => by
    obtain ⟨q1, q2⟩ := List.mem_filter.mp (greedy_mem hx)
    exact ⟨List.mem_filter.mpr ⟨q1, inS_mono h q2⟩, q2⟩
  obtain ⟨Y, Q, L, y1, y2, y3, y4, y5, y6⟩ := merge (n := n) (es := es) (k := k) (l := l) k1 R.E (S := S) (J := greedy n es k l (insN es S) []) (A := insN es U) (L := (greedy n es k l (insN es U) []).filter (loose es (maxi (tights n k l (eds es (greedy n es k l (insN es U) [])))))) (M := maxi (tights n k l (eds es (greedy n es k l (insN es U) [])))) hS
    (fun m hm => (mem_tights.mp (mem_maxi.mp hm).1).1) nU.2 (greedy_nodup (insN_enum (S := S)).nums.1) (greedy_sparse R.h0) (low S uS) fS fun x hx => by
      cases q : loose es (maxi (tights n k l (eds es (greedy n es k l (insN es U) [])))) x
      · refine .inr ?_
        unfold loose at q
        rw [List.all_eq_false] at q
        obtain ⟨m, hm, q⟩ := q
        exact ⟨m, hm, by simpa using q⟩
      · refine .inl (List.mem_filter.mpr ⟨Classical.byContradiction fun hn => ?_, q⟩)
        rw [b2 x hx hn] at q
        cases q
  obtain ⟨Z, Q', L', z1, z2, z3, z4, z5, z6⟩ := merge (n := n) (es := es) (k := k) (l := l) k1 R.E (S := T) (J := greedy n es k l (insN es T) []) (A := insN es U) (L := L) (M := Y :: Q) hT
    (fun m hm => (List.mem_cons.mp hm).elim (fun e => e ▸ y1) (y2 m)) nU.2 (greedy_nodup (insN_enum (S := T)).nums.1) (greedy_sparse R.h0) (low T uT) fT y5
  have bY : big2 T Y = true := decide_eq_true (nodup_le (l := [a, b]) (List.nodup_cons.mpr ⟨by simpa using hab, List.nodup_cons.mpr ⟨by simp, List.nodup_nil⟩⟩) fun u hu => by
    simp at hu
    rcases hu with rfl | rfl
    · exact List.mem_filter.mpr ⟨y3 _ h1.1, List.contains_iff_mem.mpr h1.2⟩
    · exact List.mem_filter.mpr ⟨y3 _ h2.1, List.contains_iff_mem.mpr h2.2⟩)
  have hUZ : U.length ≤ Z.length := nodup_le (pw_nodup u1) fun v hv => by
    rw [← hUe] at hv
    have := (mem_ofP.mp hv).2
    rw [Bool.or_eq_true] at this
    rcases this with h | h
    · exact z4 Y List.mem_cons_self bY v (y3 v (List.contains_iff_mem.mp h))
    · exact z3 v (List.contains_iff_mem.mp h)
  have e4 : bnd k l (Z :: Q') = (k * Z.length - l) + bnd k l Q' := sumG_cons
  have p4 : 0 ≤ bnd k l Q' := by
    clear z6 e4 z5
    induction Q' with
    | nil => exact Int.le_refl _
    | cons m Q' ih =>
      have e5 : bnd k l (m :: Q') = (k * m.length - l) + bnd k l Q' := sumG_cons
      have := ih fun a ha => z2 a (List.mem_cons_of_mem _ ha)
      have := (mem_nsets.mp (z2 m List.mem_cons_self)).2.2
      have : k * 2 ≤ k * (m.length : Int) := Int.mul_le_mul_of_nonneg_left this k1
      omega
  have : k * (U.length : Int) ≤ k * (Z.length : Int) := Int.mul_le_mul_of_nonneg_left (by omega) k1
  have : (rk n es k l (insN es U) : Int) = _ := b1
  omega
end
end Ip

set_option maxHeartbeats 4000000
namespace Ip
open PySem
/-! ### what a whole game gives -/
def enB (B : Bd) (x : Int) : Int × Int := (B.ends x).getD (0, 0)
theorem ends_all {B : Bd} : ∀ {A : List Int}, (∀ x ∈ A, (B.ends x).isSome = true) → endsOf B A = some (A.map (enB B))
  | [], _ => rfl
  | x :: A, h => by
    have h1 := h x List.mem_cons_self
    unfold endsOf
    rw [ends_all fun y hy => h y (List.mem_cons_of_mem _ hy), List.map_cons]
    unfold enB
    cases q : B.ends x with
    | none => rw [q] at h1; cases h1
    | some p => rfl
theorem play_facts {n : Int} {es : List (Int × Int)} {k l : Int} (n1 : 1 ≤ n) (n7 : n ≤ 7) (m15 : es.length ≤ 15) (E : ∀ p ∈ es, 0 ≤ p.1 ∧ p.1 < p.2 ∧ p.2 < n) (h : KL k l) :
    ∃ (en : Int → Int × Int) (fr : Int → Int), playF [grD n es, .int k, .int l] = .ok (.tuple [.list ((greedy n.toNat es k l (ids es.length) []).map .int), .list (((greedy n.toNat es k l (ids es.length) []).map en).map eD), .list (((ids n.toNat).map fr).map .int)]) ∧
      (∀ x ∈ greedy n.toNat es k l (ids es.length) [], (min (en x).1 (en x).2, max (en x).1 (en x).2) = edgeOf es x) ∧
      (∀ v ∈ ids n.toNat, 0 ≤ fr v ∧ fr v + ((greedy n.toNat es k l (ids es.length) []).filter fun x => (en x).1 == v).length = k) ∧
      ∀ S ∈ nsets n.toNat 2, l ≤ (S.map fr).sum + ((greedy n.toNat es k l (ids es.length) []).filter fun x => S.contains (en x).1 && !S.contains (en x).2).length := by
  have k1 := h.k1
  have k4 := h.k4
  have l0 := h.l0
  have l1 := h.l1
  obtain ⟨B, hp, I, fr, sp⟩ := playedM_ok (n := n) (es := es) (k := k) (l := l) (xs := ids es.length) (by omega) (by omega) k1 (by omega) l0 l1 (fun x p hp => E p (edgeAt_mem hp)) (ids_nodup _) (fun x hx => edgeAt_ids hx) (by rw [ids_len]; omega)
  have nd : (greedy n.toNat es k l (ids es.length) []).Nodup := greedy_nodup (ids_nodup _)
  have he := ends_all (B := B) (A := greedy n.toNat es k l (ids es.length) []) fun x hx => (I.dom x).mp hx
  generalize hG : greedy n.toNat es k l (ids es.length) [] = A at *
  have te : ∀ x ∈ A, ∃ t h, B.ends x = some (t, h) ∧ enB B x = (t, h) ∧ tl B x = t := fun x hx => by
    have := (I.dom x).mp hx
    cases q : B.ends x with
    | none => rw [q] at this; cases this
    | some p => exact ⟨p.1, p.2, rfl, by unfold enB; rw [q]; rfl, by unfold tl; rw [q]⟩
  have okv : ∀ v, v ∈ ids n.toNat → B.okN v := fun v hv => ⟨(mem_ids.mp hv).1, by rw [I.len]; exact (mem_ids.mp hv).2⟩
  refine ⟨enB B, B.free, ?_, fun x hx => ?_, fun v hv => ⟨fr v (okv v hv), ?_⟩, fun S hS => ?_⟩
  · unfold playF
    dsimp only
    rw [gOf_grD]
    dsimp only
    rw [if_pos ⟨n1, n7, m15, E, k1, k4, l0, l1⟩, hp]
    dsimp only
    rw [he]
    dsimp only
    rw [if_pos I.len]
  · obtain ⟨t, u, e1, e2, _⟩ := te x hx
    obtain ⟨_, _, hne, e3⟩ := I.ed x t u e1
    rw [e2]
    unfold edgeOf
    rcases e3 with e3 | e3 <;> rw [e3] <;> have := E _ (edgeAt_mem e3)
    · show (min t u, max t u) = (t, u)
      rw [Int.min_eq_left (by omega), Int.max_eq_right (by omega)]
    · show (min t u, max t u) = (u, t)
      rw [Int.min_eq_right (by omega), Int.max_eq_left (by omega)]
  · have c := outs_count I nd (okv v hv)
    have e : (A.filter fun x => (enB B x).1 == v) = A.filter fun x => tl B x == v := List.filter_congr fun x hx => by
      obtain ⟨t, u, _, e2, e3⟩ := te x hx
      rw [e2, e3]
    rw [e, ← c]
    show B.k - ((B.outs v).length : Int) + _ = k
    rw [I.k]
    omega
  · obtain ⟨s1, s2, s3⟩ := mem_nsets.mp hS
    have c1 := sum_free (I := I) (L := S)
    have c2 := count_tails I nd (pw_nodup s1) fun u hu => okv u (mem_ids.mpr (s2 u hu))
    have c3 := sp S hS
    rw [insd_inS] at c3
    have c4 : (A.filter fun x => S.contains (tl B x)).length = (A.filter (inS es S)).length + (A.filter fun x => S.contains (enB B x).1 && !S.contains (enB B x).2).length := by
      rw [filter_or]
      · congr 1
        refine List.filter_congr fun x hx => ?_
        obtain ⟨t, u, e1, e2, e3⟩ := te x hx
        obtain ⟨_, _, hne, e4⟩ := I.ed x t u e1
        rw [e2, e3]
        unfold inS edgeOf
        rcases e4 with e4 | e4 <;> rw [e4] <;> dsimp only [Option.getD_some] <;> cases S.contains t <;> cases S.contains u <;> rfl
      · intro x hx
        obtain ⟨t, u, e1, e2, e3⟩ := te x hx
        obtain ⟨_, _, hne, e4⟩ := I.ed x t u e1
        rw [e2]
        unfold inS edgeOf
        rcases e4 with e4 | e4 <;> rw [e4] <;> dsimp only [Option.getD_some] <;> cases S.contains t <;> cases S.contains u <;> simp
    have c5 : (S.map B.free).sum = sumN B.free S := rfl
    rw [c5, c1, c2, c4]
    omega
end Ip

set_option maxHeartbeats 4000000
namespace Ip
open PySem PySem.Spec PyProof.Rows L2
/-! ### orientations: mirrors -/
theorem iT {c : Bool} {a b : Prop} (h : c = true) (x : a) : if c = true then a else b := by rw [if_pos h]; exact x
theorem iF {c : Bool} {a b : Prop} (h : c = false) (x : b) : if c = true then a else b := by rw [if_neg (by rw [h]; exact Bool.false_ne_true)]; exact x
def revL (came : Int → Option (Option Int)) : Nat → List Int → Int → Option (List Int)
  | 0, _, _ => none
  | f + 1, T, v => match came v with
    | none => none
    | some none => some T
    | some (some x) => if 0 ≤ x then match T[x.toNat]? with
      | some p => revL came f (T.set x.toNat v) p
      | none => none else none
def scanO (es : List (Int × Int)) (cur : Int) : Nat → List Int → (Int → Option (Option Int)) → Nat → List Int → Option ((Int → Option (Option Int)) × Nat × List Int)
  | _, [], came, cs, q => some (came, cs, q)
  | i, t :: r, came, cs, q => match es[i]? with
    | none => none
    | some (a, b) => if t = cur ∧ (came (a + b - t)).isSome = false then
        (if cs < 900 ∧ q.length < 900 then scanO es cur (i + 1) r (upF came (a + b - t) (some (i : Nat))) (cs + 1) (q ++ [a + b - t]) else none)
      else scanO es cur (i + 1) r came cs q
def relL (es : List (Int × Int)) (bs : List Int) (v : Int) : Nat → List Int → (Int → Option (Option Int)) → Nat → List Int → Option (List Int × Bool)
  | 0, _, _, _, _ => none
  | _ + 1, T, _, _, [] => some (T, false)
  | f + 1, T, came, cs, c :: q => match atI bs c, atI bs v with
    | some bc, some bv => if ((T.count c : Nat) : Int) < bc ∨ c = v ∧ ((T.count v : Nat) : Int) ≤ bv then (revL came 100 T c).map fun T' => (T', true)
      else match scanO es c 0 T came cs q with
        | some (came', cs', q') => relL es bs v f T came' cs' q'
        | none => none
    | _, _ => none
def came1 (v : Int) : Int → Option (Option Int) := upF (fun _ => none) v none
def orientL (es : List (Int × Int)) (bs : List Int) : List (Int × Int) → List Int → Option (Option (List Int))
  | [], T => some (some T)
  | (a, _) :: r, T => if T.length < 900 then match relL es bs a 100 (T ++ [a]) (came1 a) 1 [a] with
    | some (T', true) => orientL es bs r T'
    | some (_, false) => some none
    | none => none else none
def oriF : List D → Rs D
  | [.int _, .tuple es, .tuple bs] => match pairsOf es, intsOf bs with
    | some l, some b => (match orientL l b l [] with
      | some (some T) => .ok (.list (T.map .int))
      | some none => .ok .none
      | none => .bad)
    | _, _ => .bad
  | _ => .bad
/-! ### their heap forms -/
/-- pairs in a tuple -/
def EsAt (H : Hp) (v : V) (es : List (Int × Int)) : Prop := ∃ a ys, v = .ref a ∧ H a = some (.tup ys) ∧ ∀ (j : Nat) (p : Int × Int), es[j]? = some p → ∃ t, ys[j]? = some (.ref t) ∧ H t = some (.tup [.int p.1, .int p.2])
def BsAt (H : Hp) (v : V) (bs : List Int) : Prop := ∃ a, v = .ref a ∧ H a = some (.tup (bs.map V.int))
/-- what stays: all but one object -/
def Kt (pt : Addr) (H H' : Hp) : Prop := ∀ a o, H a = some o → a ≠ pt → H' a = some o
theorem Kt.refl {pt : Addr} {H : Hp} : Kt pt H H := fun _ _ h _ => h
theorem Kt.trans {pt : Addr} {H H1 H2 : Hp} (x : Kt pt H H1) (y : Kt pt H1 H2) : Kt pt H H2 := fun a o h n => y a o (x a o h n) n
theorem Kt.set {pt : Addr} {H : Hp} {o : HO} : Kt pt H (upd H pt o) := fun a u e n => by rw [upd_ne n]; exact e
theorem Kt.new {pt p : Addr} {H : Hp} {o : HO} (h : H p = none) : Kt pt H (upd H p o) := fun a u e _ => by rw [upd_ne (ne_of_none e h)]; exact e
theorem Kt.at_ {pt p : Addr} {H H1 : Hp} {o : HO} (k : Kt pt H H1) (h : H p = none) : Kt pt H (upd H1 p o) := fun a u e n => by rw [upd_ne (ne_of_none e h)]; exact k a u e n
theorem EsAt.keep {H H' : Hp} {v : V} {es : List (Int × Int)} (h : EsAt H v es) (k : ∀ a ys, H a = some (.tup ys) → H' a = some (.tup ys)) : EsAt H' v es := by
  obtain ⟨a, ys, e, h1, h2⟩ := h
  refine ⟨a, ys, e, k _ _ h1, fun j p hp => ?_⟩
  obtain ⟨t, t1, t2⟩ := h2 j p hp
  exact ⟨t, t1, k _ _ t2⟩
theorem BsAt.keep {H H' : Hp} {v : V} {bs : List Int} (h : BsAt H v bs) (k : ∀ a ys, H a = some (.tup ys) → H' a = some (.tup ys)) : BsAt H' v bs := by
  obtain ⟨a, e, h1⟩ := h
  exact ⟨a, e, k _ _ h1⟩
theorem Kt.tup {pt : Addr} {H H' : Hp} {l : List V} (k : Kt pt H H') (h : H pt = some (.lst l)) : ∀ a ys, H a = some (.tup ys) → H' a = some (.tup ys) := fun a ys e => k a _ e fun z => by rw [z, h] at e; cases e
def spRev : Sp := fun vs H Q _ => ∃ (ve : V) (pt pc : Addr) (T T' : List Int) (came : Int → Option (Option Int)) (cs : Nat) (v : Int), vs = [ve, .ref pt, .ref pc, .int v] ∧ H pt = some (.lst (T.map V.int)) ∧ DR RC H pc came cs ∧ revL came 100 T v = some T' ∧ ∀ H', H' pt = some (.lst (T'.map V.int)) → Kt pt H H' → Q .non H'
def spRel : Sp := fun vs H Q _ => ∃ (ve vb : V) (pt : Addr) (T T' : List Int) (es : List (Int × Int)) (bs : List Int) (v : Int) (r : Bool), vs = [ve, .ref pt, vb, .int v] ∧ H pt = some (.lst (T.map V.int)) ∧ EsAt H ve es ∧ BsAt H vb bs ∧ T.length ≤ 1000 ∧ relL es bs v 100 T (came1 v) 1 [v] = some (T', r) ∧ ∀ H', H' pt = some (.lst (T'.map V.int)) → Kt pt H H' → Q (.bl r) H'
theorem DR.one {H : Hp} {p : Addr} {v : Int} (h : H p = some (.dK (mergeK [] [(Sum.inl v, .non)]))) : DR RC H p (came1 v) 1 := by
  refine ⟨_, h, ?_, ?_⟩
  · show (putK [] (Sum.inl v) V.non).length ≤ 1
    have h2 := length_putK ([] : List (Key × V)) (Sum.inl v) V.non
    rw [List.length_nil] at h2
    omega
  · exact DV.put (R := RC) (kvs := []) (E := fun _ => none) (fun n => rfl) v (v := .non) (x := none) rfl
theorem revL_len {came : Int → Option (Option Int)} : ∀ {f : Nat} {T T' : List Int} {v : Int}, revL came f T v = some T' → T'.length = T.length
  | 0, _, _, _, h => by cases h
  | f + 1, T, T', v, h => by
    unfold revL at h
    split at h
    · cases h
    · cases h; rfl
    · split at h
      · split at h
        · rw [revL_len h, List.length_set]
        · cases h
      · cases h
end Ip

set_option maxHeartbeats 4000000
namespace Ip
open PySem
/-! ### orientations: the search is right -/
/-- each tail is an end of its edge -/
structure OT (es : List (Int × Int)) (T : List Int) : Prop where
  len : T.length ≤ es.length
  nd : ∀ (i : Nat) (t a b : Int), T[i]? = some t → es[i]? = some (a, b) → t = a ∨ t = b
inductive Tr (es : List (Int × Int)) (T : List Int) (v : Int) : List Int → (Int → Option (Option Int)) → Prop
  | one : Tr es T v [v] (came1 v)
  | add {L : List Int} {came : Int → Option (Option Int)} {i : Nat} {t a b : Int} : Tr es T v L came → T[i]? = some t → es[i]? = some (a, b) → t ∈ L → (came (a + b - t)).isSome = false → Tr es T v (L ++ [a + b - t]) (upF came (a + b - t) (some (i : Nat)))
section
variable {es : List (Int × Int)} {T : List Int} {v : Int} {n : Nat}
theorem Tr.dom {L : List Int} {came : Int → Option (Option Int)} (h : Tr es T v L came) (u : Int) : (came u).isSome = true ↔ u ∈ L := by
  induction h with
  | one =>
    unfold came1 upF
    rw [List.mem_singleton]
    by_cases q : u = v
    · simp [q]
    · simp [q]
  | @add L came i t a b h h1 h2 h3 h4 ih =>
    unfold upF
    rw [List.mem_append, List.mem_singleton]
    by_cases q : u = a + b - t
    · simp [q]
    · simp only [q, if_false, or_false]
      exact ih
theorem Tr.nin {L : List Int} {came : Int → Option (Option Int)} (h : Tr es T v L came) {u : Int} (q : (came u).isSome = false) : ¬ u ∈ L := fun z => by
  rw [(h.dom u).mpr z] at q
  cases q
theorem Tr.nodup {L : List Int} {came : Int → Option (Option Int)} (h : Tr es T v L came) : L.Nodup := by
  induction h with
  | one => exact List.nodup_cons.mpr ⟨by simp, List.nodup_nil⟩
  | @add L came i t a b h h1 h2 h3 h4 ih =>
    refine List.nodup_append.mpr ⟨ih, List.nodup_cons.mpr ⟨by simp, List.nodup_nil⟩, fun x hx y hy e => ?_⟩
    rw [List.mem_singleton] at hy
    subst hy
    exact h.nin h4 (e ▸ hx)
theorem Tr.first {L : List Int} {came : Int → Option (Option Int)} (h : Tr es T v L came) : v ∈ L := by
  induction h with
  | one => simp
  | add h h1 h2 h3 h4 ih => exact List.mem_append_left _ ih
theorem Tr.range {L : List Int} {came : Int → Option (Option Int)} (h : Tr es T v L came) (O : OT es T) (E : ∀ p ∈ es, 0 ≤ p.1 ∧ p.1 < p.2 ∧ p.2 < (n : Int)) (hv : 0 ≤ v ∧ v < n) : ∀ u ∈ L, 0 ≤ u ∧ u < (n : Int) := by
  induction h with
  | one => intro u hu; rw [List.mem_singleton] at hu; rw [hu]; exact hv
  | @add L came i t a b h h1 h2 h3 h4 ih =>
    intro u hu
    rcases List.mem_append.mp hu with z | z
    · exact ih u z
    · rw [List.mem_singleton] at z
      have := E _ (List.mem_of_getElem? h2)
      rcases O.nd i t a b h1 h2 with e | e <;> omega
/-- an edge that leads out of the tree may be turned -/
theorem Tr.off {L : List Int} {came : Int → Option (Option Int)} (h : Tr es T v L came) (O : OT es T) {i : Nat} {t a b : Int} (h1 : T[i]? = some t) (h2 : es[i]? = some (a, b)) (hn : ¬ (a + b - t) ∈ L) (x : Int) : Tr es (T.set i x) v L came := by
  induction h with
  | one => exact .one
  | @add L came j s c d h g1 g2 g3 g4 ih =>
    have hij : i ≠ j := fun e => by
      subst e
      rw [h1] at g1
      rw [h2] at g2
      cases g1
      cases g2
      exact hn (List.mem_append_right _ (List.mem_singleton.mpr rfl))
    exact .add (ih fun z => hn (List.mem_append_left _ z)) (by rw [List.getElem?_set_ne hij]; exact g1) g2 g3 g4
theorem OT.turn (O : OT es T) {i : Nat} {t a b : Int} (h1 : T[i]? = some t) (h2 : es[i]? = some (a, b)) : OT es (T.set i (a + b - t)) := by
  refine ⟨by rw [List.length_set]; exact O.len, fun j s c d g1 g2 => ?_⟩
  by_cases e : i = j
  · subst e
    rw [List.getElem?_set_self (List.getElem?_eq_some_iff.mp h1).1] at g1
    cases g1
    rw [h2] at g2
    cases g2
    rcases O.nd i t a b h1 h2 with e | e <;> omega
  · rw [List.getElem?_set_ne e] at g1
    exact O.nd j s c d g1 g2
theorem count_setI {i : Nat} {t x u : Int} (h : T[i]? = some t) : (((T.set i x).count u : Nat) : Int) = (T.count u : Nat) - (if u = t then 1 else 0) + (if u = x then 1 else 0) := by
  induction T generalizing i with
  | nil => cases h
  | cons y r ih =>
    cases i with
    | zero =>
      cases h
      rw [List.set_cons_zero, List.count_cons, List.count_cons]
      have e : ∀ y : Int, (((if (y == u) = true then 1 else 0 : Nat)) : Int) = if u = y then 1 else 0 := fun y => by
        by_cases q : u = y
        · rw [if_pos q, if_pos (by rw [q]; exact beq_self_eq_true _)]; rfl
        · rw [if_neg q, if_neg (by rw [beq_iff_eq]; exact fun z => q z.symm)]; rfl
      rw [Int.natCast_add, Int.natCast_add, e, e]
      omega
    | succ i =>
      have h : r[i]? = some t := h
      rw [List.set_cons_succ, List.count_cons, List.count_cons]
      have := ih h
      omega
theorem rev_ok : ∀ (N : Nat) {L : List Int} {cameL : Int → Option (Option Int)} {T : List Int}, L.length ≤ N → Tr es T v L cameL → ∀ {m : Nat} {came : Int → Option (Option Int)} {c : Int}, L.length ≤ m → (∀ u ∈ L, came u = cameL u) → OT es T → c ∈ L →
    ∃ T', revL came m T c = some T' ∧ OT es T' ∧ T'.length = T.length ∧ ∀ u, ((T'.count u : Nat) : Int) = (T.count u : Nat) + (if u = c then 1 else 0) - (if u = v then 1 else 0)
  | 0, L, cameL, T, hN, h, m, came, c, hm, hc, O, hcL => by
    cases L with
    | nil => cases hcL
    | cons _ _ => cases hN
  | N + 1, L, cameL, T, hN, h, m, came, c, hm, hc, O, hcL => by
    cases h with
    | one =>
      rw [List.mem_singleton] at hcL
      subst hcL
      have e := hc c (List.mem_singleton.mpr rfl)
      cases m with
      | zero => cases hm
      | succ m =>
        refine ⟨T, ?_, O, rfl, fun u => by omega⟩
        unfold revL
        rw [e]
        unfold came1 upF
        rw [if_pos rfl]
    | @add L came0 i t a b h h1 h2 h3 h4 =>
      rw [List.length_append, List.length_singleton] at hN hm
      have hnL := h.nin h4
      by_cases q : c ∈ L
      · refine rev_ok N (by omega) h (m := m) (by omega) (fun u hu => ?_) O q
        rw [hc u (List.mem_append_left _ hu)]
        unfold upF
        rw [if_neg (show ¬ u = a + b - t from fun e => hnL (e ▸ hu))]
      · have ec : c = a + b - t := by
          rcases List.mem_append.mp hcL with z | z
          · exact absurd z q
          · exact List.mem_singleton.mp z
        cases m with
        | zero => omega
        | succ m =>
          have e := hc c hcL
          unfold upF at e
          rw [if_pos ec] at e
          obtain ⟨T', r1, r2, r3, r4⟩ := rev_ok N (by omega) (h.off O h1 h2 hnL (a + b - t)) (m := m) (came := came) (c := t) (by omega) (fun u hu => by
            rw [hc u (List.mem_append_left _ hu)]
            unfold upF
            rw [if_neg (show ¬ u = a + b - t from fun e => hnL (e ▸ hu))]) (O.turn h1 h2) h3
          refine ⟨T', ?_, r2, by rw [r3, List.length_set], fun u => ?_⟩
          · unfold revL
            rw [e]
            dsimp only
            rw [if_pos (by omega), Int.toNat_natCast, h1]
            dsimp only
            rw [ec]
            exact r1
          · rw [r4 u, count_setI h1, ec]
            have : t ≠ a + b - t := fun z => hnL (z ▸ h3)
            omega
/-- one node's edges are looked at -/
theorem scanO_ok {c : Int} (hn : n ≤ 100) (O : OT es T) (E : ∀ p ∈ es, 0 ≤ p.1 ∧ p.1 < p.2 ∧ p.2 < (n : Int)) (hv : 0 ≤ v ∧ v < n) : ∀ (k i : Nat) {came : Int → Option (Option Int)} {L D q : List Int}, T.length = i + k → Tr es T v L came → c ∈ L → L = D ++ q →
    ∃ came' L' q', scanO es c i (T.drop i) came L.length q = some (came', L'.length, q') ∧ Tr es T v L' came' ∧ L' = D ++ q' ∧ (∀ u ∈ L, u ∈ L') ∧ ∀ (j : Nat) (a b : Int), i ≤ j → T[j]? = some c → es[j]? = some (a, b) → (a + b - c) ∈ L'
  | 0, i, came, L, D, q, hk, h, hc, hL => by
    refine ⟨came, L, q, ?_, h, hL, fun u hu => hu, fun j a b hj e => ?_⟩
    · rw [List.drop_eq_nil_of_le (by omega)]
      rfl
    · have := (List.getElem?_eq_some_iff.mp e).1
      omega
  | k + 1, i, came, L, D, q, hk, h, hc, hL => by
    have hi : i < T.length := by omega
    have hie : i < es.length := by have := O.len; omega
    rw [List.drop_eq_getElem_cons hi]
    unfold scanO
    rw [List.getElem?_eq_getElem hie]
    have g1 : T[i]? = some T[i] := List.getElem?_eq_getElem hi
    have g2 : es[i]? = some es[i] := List.getElem?_eq_getElem hie
    generalize T[i] = t at *
    generalize es[i] = p at *
    obtain ⟨a, b⟩ := p
    dsimp only
    have hLn : L.length ≤ n := by
      have := nodup_le (l := L) (m := ids n) h.nodup fun u hu => mem_ids.mpr (h.range O E hv u hu)
      rw [ids_len] at this
      exact this
    by_cases hq : t = c ∧ (came (a + b - t)).isSome = false
    · rw [if_pos hq, if_pos ⟨by omega, by rw [hL, List.length_append] at hLn; omega⟩]
      have h' := h.add g1 g2 (hq.1 ▸ hc) hq.2
      obtain ⟨came', L', q', r1, r2, r3, r4, r5⟩ := scanO_ok hn O E hv k (i + 1) (D := D) (q := q ++ [a + b - t]) (by omega) h' (List.mem_append_left _ hc) (by rw [hL, List.append_assoc])
      rw [List.length_append, List.length_singleton] at r1
      refine ⟨came', L', q', r1, r2, r3, fun u hu => r4 u (List.mem_append_left _ hu), fun j a' b' hj e1 e2 => ?_⟩
      by_cases e : j = i
      · subst e
        rw [g1] at e1
        rw [g2] at e2
        cases e1
        cases e2
        exact r4 _ (List.mem_append_right _ (List.mem_singleton.mpr rfl))
      · exact r5 j a' b' (by omega) e1 e2
    · rw [if_neg hq]
      obtain ⟨came', L', q', r1, r2, r3, r4, r5⟩ := scanO_ok hn O E hv k (i + 1) (D := D) (q := q) (by omega) h hc hL
      refine ⟨came', L', q', r1, r2, r3, r4, fun j a' b' hj e1 e2 => ?_⟩
      by_cases e : j = i
      · subst e
        rw [g1] at e1
        rw [g2] at e2
        cases e1
        cases e2
        have : (came (a + b - c)).isSome = true := by
          cases z : (came (a + b - c)).isSome with
          | true => rfl
          | false => exact absurd ⟨rfl, z⟩ hq
        exact r4 _ ((h.dom _).mp this)
      · exact r5 j a' b' (by omega) e1 e2
theorem atI_mk {bs : List Int} {c : Int} (h : 0 ≤ c ∧ c < bs.length) : L2.atI bs c = some (mk bs c) := by
  unfold L2.atI
  rw [d_ixN h.1 h.2]
  show bs[c.toNat]? = some (bs.getD c.toNat 0)
  rw [List.getD_eq_getElem?_getD, List.getElem?_eq_getElem (by omega)]
  rfl
/-- a set that is left by no edge -/
structure Stk (es : List (Int × Int)) (bs T : List Int) (v : Int) (L : List Int) : Prop where
  nd : L.Nodup
  rg : ∀ u ∈ L, 0 ≤ u ∧ u < bs.length
  hv : v ∈ L
  full : ∀ u ∈ L, u ≠ v → mk bs u ≤ (T.count u : Nat)
  over : mk bs v < (T.count v : Nat)
  shut : ∀ u ∈ L, ∀ (j : Nat) (a b : Int), T[j]? = some u → es[j]? = some (a, b) → (a + b - u) ∈ L
theorem rel_ok {bs : List Int} (hn : n ≤ 90) (hbs : bs.length = n) (O : OT es T) (E : ∀ p ∈ es, 0 ≤ p.1 ∧ p.1 < p.2 ∧ p.2 < (n : Int)) (hv : 0 ≤ v ∧ v < n) : ∀ {f : Nat} {came : Int → Option (Option Int)} {L D q : List Int}, Tr es T v L came → L = D ++ q → (∀ u ∈ D, u ≠ v → mk bs u ≤ (T.count u : Nat)) → (v ∈ D → mk bs v < (T.count v : Nat)) → (∀ u ∈ D, ∀ (j : Nat) (a b : Int), T[j]? = some u → es[j]? = some (a, b) → (a + b - u) ∈ L) → n < f + D.length →
    (∃ T' c, relL es bs v f T came L.length q = some (T', true) ∧ OT es T' ∧ T'.length = T.length ∧ (((T.count c : Nat) : Int) < mk bs c ∨ c = v ∧ ((T.count v : Nat) : Int) ≤ mk bs v) ∧ ∀ u, ((T'.count u : Nat) : Int) = (T.count u : Nat) + (if u = c then 1 else 0) - (if u = v then 1 else 0)) ∨
    ∃ T' L', relL es bs v f T came L.length q = some (T', false) ∧ Stk es bs T v L'
  | 0, came, L, D, q, h, hL, h1, h2, h3, hf => by
    have := nodup_le (l := L) (m := ids n) h.nodup fun u hu => mem_ids.mpr (h.range O E hv u hu)
    rw [ids_len, hL, List.length_append] at this
    omega
  | f + 1, came, L, D, [], h, hL, h1, h2, h3, hf => by
    rw [List.append_nil] at hL
    subst hL
    refine .inr ⟨T, L, rfl, h.nodup, fun u hu => by rw [hbs]; exact h.range O E hv u hu, h.first, h1, h2 h.first, h3⟩
  | f + 1, came, L, D, c :: q, h, hL, h1, h2, h3, hf => by
    have hLn := nodup_le (l := L) (m := ids n) h.nodup fun u hu => mem_ids.mpr (h.range O E hv u hu)
    rw [ids_len] at hLn
    have hcL : c ∈ L := by rw [hL]; simp
    have rc := h.range O E hv c hcL
    have e1 := atI_mk (bs := bs) (c := c) (by omega)
    have e2 := atI_mk (bs := bs) (c := v) (by omega)
    unfold relL
    rw [e1, e2]
    dsimp only
    by_cases hq : ((T.count c : Nat) : Int) < mk bs c ∨ c = v ∧ ((T.count v : Nat) : Int) ≤ mk bs v
    · rw [if_pos hq]
      obtain ⟨T', r1, r2, r3, r4⟩ := rev_ok L.length (Nat.le_refl _) h (m := 100) (came := came) (c := c) (by omega) (fun u _ => rfl) O hcL
      exact .inl ⟨T', c, by rw [r1]; rfl, r2, r3, hq, r4⟩
    · rw [if_neg hq]
      obtain ⟨came', L', q', r1, r2, r3, r4, r5⟩ := scanO_ok (c := c) (by omega) O E hv T.length 0 (D := D ++ [c]) (q := q) (by omega) h hcL (by rw [hL, List.append_assoc]; rfl)
      rw [List.drop_zero] at r1
      rw [r1]
      dsimp only
      have hcD : ¬ c ∈ D := fun z => by
        have := h.nodup
        rw [hL] at this
        exact (List.nodup_append.mp this).2.2 c z c List.mem_cons_self rfl
      refine rel_ok hn hbs O E hv r2 r3 (fun u hu hne => ?_) (fun hu => ?_) (fun u hu j a b g1 g2 => ?_) (by rw [List.length_append, List.length_singleton]; omega)
      · rcases List.mem_append.mp hu with z | z
        · exact h1 u z hne
        · rw [List.mem_singleton] at z
          subst z
          have : ¬ ((T.count u : Nat) : Int) < mk bs u := fun z => hq (.inl z)
          omega
      · rcases List.mem_append.mp hu with z | z
        · exact h2 z
        · rw [List.mem_singleton] at z
          subst z
          have : ¬ ((T.count v : Nat) : Int) ≤ mk bs v := fun z => hq (.inr ⟨rfl, z⟩)
          omega
      · rcases List.mem_append.mp hu with z | z
        · exact r4 _ (h3 u z j a b g1 g2)
        · rw [List.mem_singleton] at z
          subst z
          exact r5 j a b (Nat.zero_le _) g1 g2
/-! ### a set with too many edges -/
theorem sum_count {T : List Int} : ∀ {L : List Int}, L.Nodup → sumN (fun u => ((T.count u : Nat) : Int)) L = ((T.filter L.contains).length : Nat)
  | [], _ => by
    show (0 : Int) = _
    rw [show T.filter ([] : List Int).contains = [] by simp]
    rfl
  | a :: L, h => by
    obtain ⟨h1, h2⟩ := List.nodup_cons.mp h
    rw [sumN_cons, sum_count h2]
    have e : T.filter (a :: L).contains = T.filter fun x => (x == a) || L.contains x := List.filter_congr fun x _ => by rw [List.contains_cons]
    rw [e, ← filter_or (fun x _ hx => by
      have := eq_of_beq hx
      subst this
      cases q : L.contains x with
      | false => rfl
      | true => exact absurd (List.contains_iff_mem.mp q) h1)]
    rw [List.count_eq_length_filter]
    omega
theorem tails_in {L S : List Int} : ∀ {T : List Int} {es : List (Int × Int)}, T.length ≤ es.length → (∀ (j : Nat) (t a b : Int), T[j]? = some t → es[j]? = some (a, b) → t ∈ L → a ∈ S ∧ b ∈ S) → (T.filter L.contains).length ≤ insd es S
  | [], es, _, _ => Nat.zero_le _
  | t :: T, [], h, _ => by cases h
  | t :: T, (a, b) :: es, hl, h => by
    have ih := tails_in (L := L) (S := S) (T := T) (es := es) (by simpa using hl) fun j t a b g1 g2 => h (j + 1) t a b g1 g2
    have c1 : insd ((a, b) :: es) S = (if S.contains a && S.contains b then 1 else 0) + insd es S := by
      unfold insd
      rw [List.filter_cons]
      split <;> rename_i q <;> simp only at q <;> simp [q] <;> omega
    rw [c1, List.filter_cons]
    split
    · rename_i q
      obtain ⟨x, y⟩ := h 0 t a b rfl rfl (List.contains_iff_mem.mp q)
      rw [List.contains_iff_mem.mpr x, List.contains_iff_mem.mpr y]
      rw [List.length_cons]
      simp only [Bool.and_self, if_true]
      omega
    · omega
def bsum (bs S : List Int) : Int := (S.map (mk bs)).sum
theorem sumN_perm {f : Int → Int} {L M : List Int} (h : L.Perm M) : sumN f L = sumN f M := sum_perm (h.map f)
theorem stk_dense {bs : List Int} {L : List Int} (hbs : bs.length = n) (O : OT es T) (h : Stk es bs T v L) : ∃ S ∈ nsets n 1, bsum bs S < (insd es S : Nat) := by
  have hp : (ofP n L.contains).Perm L := by
    refine (List.perm_ext_iff_of_nodup (pw_nodup ofP_pw) h.nd).mpr fun x => ?_
    rw [mem_ofP, List.contains_iff_mem]
    exact ⟨fun z => z.2, fun z => ⟨by have := h.rg x z; omega, z⟩⟩
  refine ⟨ofP n L.contains, ofP_sets ?_, ?_⟩
  · rw [hp.length_eq]
    have := List.length_pos_of_mem h.hv
    omega
  · have e1 : bsum bs (ofP n L.contains) = sumN (mk bs) L := sumN_perm hp
    have e2 := tails_in (L := L) (S := ofP n L.contains) O.len fun j t a b g1 g2 ht => by
      have := h.shut t ht j a b g1 g2
      have mm : ∀ x, x ∈ L → x ∈ ofP n L.contains := fun x hx => hp.mem_iff.mpr hx
      rcases O.nd j t a b g1 g2 with e | e
      · rw [e] at ht this
        exact ⟨mm _ ht, mm _ (by rw [show a + b - a = b by omega] at this; exact this)⟩
      · rw [e] at ht this
        exact ⟨mm _ (by rw [show a + b - b = a by omega] at this; exact this), mm _ ht⟩
    have e3 := sum_count (T := T) h.nd
    have e4 : sumN (mk bs) L < sumN (fun u => ((T.count u : Nat) : Int)) L := by
      rw [sum_erase h.hv, sum_erase (f := fun u => ((T.count u : Nat) : Int)) h.hv]
      have := h.over
      have : sumN (mk bs) (L.erase v) ≤ sumN (fun u => ((T.count u : Nat) : Int)) (L.erase v) := sumG_le fun u hu => by
        have := (h.nd.mem_erase_iff).mp hu
        exact h.full u this.2 this.1
      omega
    omega
theorem count_snoc {T : List Int} {a u : Int} : (((T ++ [a]).count u : Nat) : Int) = (T.count u : Nat) + if u = a then 1 else 0 := by
  rw [List.count_append, List.count_singleton, Int.natCast_add]
  congr 1
  by_cases q : u = a
  · rw [if_pos q, if_pos (by rw [q]; exact beq_self_eq_true _)]; rfl
  · rw [if_neg q, if_neg (by rw [beq_iff_eq]; exact fun z => q z.symm)]; rfl
theorem orient_go {bs : List Int} (hn : n ≤ 90) (hbs : bs.length = n) (E : ∀ p ∈ es, 0 ≤ p.1 ∧ p.1 < p.2 ∧ p.2 < (n : Int)) (hm : es.length ≤ 800) : ∀ (k : Nat) {T : List Int}, es.length = T.length + k → OT es T → (∀ u, 0 ≤ u → u < (n : Int) → ((T.count u : Nat) : Int) ≤ mk bs u) →
    (∃ T', orientL es bs (es.drop T.length) T = some (some T') ∧ OT es T' ∧ T'.length = es.length ∧ ∀ u, 0 ≤ u → u < (n : Int) → ((T'.count u : Nat) : Int) ≤ mk bs u) ∨ (orientL es bs (es.drop T.length) T = some none ∧ ∃ S ∈ nsets n 1, bsum bs S < (insd es S : Nat))
  | 0, T, hk, O, hc => by
    rw [List.drop_eq_nil_of_le (by omega)]
    exact .inl ⟨T, rfl, O, by omega, hc⟩
  | k + 1, T, hk, O, hc => by
    have hi : T.length < es.length := by omega
    rw [List.drop_eq_getElem_cons hi]
    have g2 : es[T.length]? = some es[T.length] := List.getElem?_eq_getElem hi
    have Ei := E _ (List.getElem_mem hi)
    generalize es[T.length] = p at *
    obtain ⟨a, b⟩ := p
    dsimp only at Ei
    unfold orientL
    rw [if_pos (by omega)]
    have O2 : OT es (T ++ [a]) := by
      refine ⟨by rw [List.length_append, List.length_singleton]; omega, fun j t c d h1 h2 => ?_⟩
      by_cases hj : j < T.length
      · rw [List.getElem?_append_left hj] at h1
        exact O.nd j t c d h1 h2
      · have : j = T.length := by
          have := (List.getElem?_eq_some_iff.mp h1).1
          rw [List.length_append, List.length_singleton] at this
          omega
        subst this
        rw [List.getElem?_append_right (Nat.le_refl _), Nat.sub_self] at h1
        rw [g2] at h2
        cases h1
        cases h2
        exact .inl rfl
    rcases rel_ok (v := a) hn hbs O2 E (by omega) (f := 100) (L := [a]) (D := []) (q := [a]) .one rfl (fun u hu => by cases hu) (fun hu => by cases hu) (fun u hu => by cases hu) (by rw [List.length_nil]; omega) with ⟨T', c, r1, r2, r3, r4, r5⟩ | ⟨T', L', r1, r2⟩
    · rw [show ([a] : List Int).length = 1 from rfl] at r1
      rw [r1]
      dsimp only
      have lT : T'.length = T.length + 1 := by rw [r3, List.length_append, List.length_singleton]
      have := orient_go hn hbs E hm k (T := T') (by omega) r2 fun u h0 h1 => by
        have c1 := r5 u
        have c2 := hc u h0 h1
        have c3 := count_snoc (T := T) (a := a) (u := u)
        have c4 := count_snoc (T := T) (a := a) (u := c)
        have c5 := count_snoc (T := T) (a := a) (u := a)
        have ca := hc a (by omega) (by omega)
        rcases r4 with r4 | ⟨r4, r6⟩
        · by_cases q1 : u = c
          · subst q1
            rw [if_pos rfl] at c1
            by_cases q2 : u = a
            · rw [if_pos q2] at c1 c3; omega
            · rw [if_neg q2] at c1 c3; omega
          · rw [if_neg q1] at c1
            by_cases q2 : u = a
            · rw [if_pos q2] at c1 c3; omega
            · rw [if_neg q2] at c1 c3; omega
        · subst r4
          by_cases q2 : u = c
          · subst q2
            rw [if_pos rfl] at c1
            omega
          · rw [if_neg q2] at c1 c3; omega
      rw [lT] at this
      exact this
    · rw [show ([a] : List Int).length = 1 from rfl] at r1
      rw [r1]
      exact .inr ⟨rfl, stk_dense hbs O2 r2⟩
theorem orient_ok {bs : List Int} (hn : n ≤ 90) (hbs : bs.length = n) (hb : ∀ b ∈ bs, 0 ≤ b) (E : ∀ p ∈ es, 0 ≤ p.1 ∧ p.1 < p.2 ∧ p.2 < (n : Int)) (hm : es.length ≤ 800) :
    (∃ T', orientL es bs es [] = some (some T') ∧ OT es T' ∧ T'.length = es.length ∧ ∀ u, 0 ≤ u → u < (n : Int) → ((T'.count u : Nat) : Int) ≤ mk bs u) ∨ (orientL es bs es [] = some none ∧ ∃ S ∈ nsets n 1, bsum bs S < (insd es S : Nat)) := by
  have := orient_go hn hbs E hm es.length (T := []) (by rw [List.length_nil]; omega) ⟨Nat.zero_le _, fun i t a b h => by cases h⟩ fun u h0 h1 => by
    show (0 : Int) ≤ mk bs u
    unfold mk
    rw [List.getD_eq_getElem?_getD, List.getElem?_eq_getElem (by omega)]
    exact hb _ (List.getElem_mem _)
  exact this
/-- an orientation within the bounds leaves no set with too many edges -/
theorem tails_le {S : List Int} : ∀ {T : List Int} {es : List (Int × Int)}, T.length = es.length → (∀ (j : Nat) (t a b : Int), T[j]? = some t → es[j]? = some (a, b) → t = a ∨ t = b) → insd es S ≤ (T.filter S.contains).length
  | [], [], _, _ => Nat.le_refl _
  | [], _ :: _, h, _ => by cases h
  | _ :: _, [], h, _ => by cases h
  | t :: T, (a, b) :: es, hl, h => by
    have ih := tails_le (S := S) (T := T) (es := es) (by simpa using hl) fun j t a b g1 g2 => h (j + 1) t a b g1 g2
    have c1 : insd ((a, b) :: es) S = (if S.contains a && S.contains b then 1 else 0) + insd es S := by
      unfold insd
      rw [List.filter_cons]
      split <;> rename_i q <;> simp only at q <;> simp [q] <;> omega
    rw [c1, List.filter_cons]
    rcases h 0 t a b rfl rfl with e | e <;> subst e
    · cases q : S.contains t with
      | true => rw [if_pos rfl, List.length_cons]; split <;> omega
      | false => rw [if_neg Bool.false_ne_true, Bool.false_and, if_neg Bool.false_ne_true]; omega
    · cases q : S.contains t with
      | true => rw [if_pos rfl, List.length_cons]; split <;> omega
      | false => rw [if_neg Bool.false_ne_true, Bool.and_false, if_neg Bool.false_ne_true]; omega
theorem orient_no {bs T S : List Int} (O : OT es T) (hl : T.length = es.length) (hc : ∀ u, 0 ≤ u → u < (n : Int) → ((T.count u : Nat) : Int) ≤ mk bs u) (hS : S ∈ nsets n 1) : (insd es S : Nat) ≤ bsum bs S := by
  obtain ⟨s1, s2, _⟩ := mem_nsets.mp hS
  have a := tails_le (S := S) hl O.nd
  have b := sum_count (T := T) (pw_nodup s1)
  have c : sumN (fun u => ((T.count u : Nat) : Int)) S ≤ bsum bs S := sumG_le fun u hu => hc u (s2 u hu).1 (s2 u hu).2
  omega
end
end Ip

set_option maxHeartbeats 4000000
namespace Ip
open PySem
/-! ### certificates: copies of one edge -/
def cpy (es : List (Int × Int)) (l : Int) (i : Int) : List (Int × Int) := es ++ List.replicate l.toNat (edgeOf es i)
theorem insd_app {E F : List (Int × Int)} {S : List Int} : insd (E ++ F) S = insd E S + insd F S := by
  unfold insd
  rw [List.filter_append, List.length_append]
theorem insd_rep {m : Nat} {p : Int × Int} {S : List Int} : insd (List.replicate m p) S = if S.contains p.1 && S.contains p.2 then m else 0 := by
  unfold insd
  rw [List.filter_replicate]
  split <;> simp
theorem cpy_E {n : Int} {es : List (Int × Int)} {l i : Int} (E : ∀ p ∈ es, 0 ≤ p.1 ∧ p.1 < p.2 ∧ p.2 < n) (hi : i ∈ ids es.length) : ∀ p ∈ cpy es l i, 0 ≤ p.1 ∧ p.1 < p.2 ∧ p.2 < n := fun p hp => by
  rcases List.mem_append.mp hp with z | z
  · exact E p z
  · rw [(List.mem_replicate.mp z).2]
    obtain ⟨q, hq⟩ := Option.isSome_iff_exists.mp (edgeAt_ids hi)
    unfold edgeOf
    rw [hq]
    exact E _ (edgeAt_mem hq)
theorem mk_rep {n : Nat} {k u : Int} (h0 : 0 ≤ u) (h1 : u < n) : mk (List.replicate n k) u = k := by
  unfold mk
  rw [List.getD_eq_getElem?_getD, List.getElem?_replicate, if_pos (by omega)]
  rfl
theorem bsum_rep {n : Nat} {k : Int} {S : List Int} (h : ∀ u ∈ S, 0 ≤ u ∧ u < (n : Int)) : bsum (List.replicate n k) S = k * S.length := by
  unfold bsum
  induction S with
  | nil => simp
  | cons a S ih =>
    rw [List.map_cons, List.sum_cons, ih fun u hu => h u (List.mem_cons_of_mem _ hu), mk_rep (h a List.mem_cons_self).1 (h a List.mem_cons_self).2, List.length_cons]
    rw [Int.natCast_add, Int.mul_add]
    omega
/-- edges within one node: none -/
theorem insd_one {n : Int} {es : List (Int × Int)} {S : List Int} (E : ∀ p ∈ es, 0 ≤ p.1 ∧ p.1 < p.2 ∧ p.2 < n) (hS : S.length ≤ 1) : insd es S = 0 := by
  unfold insd
  rw [List.length_eq_zero_iff, List.filter_eq_nil_iff]
  intro p hp z
  rw [Bool.and_eq_true] at z
  have := E p hp
  have a := List.contains_iff_mem.mp z.1
  have b := List.contains_iff_mem.mp z.2
  match S, hS, a, b with
  | [], _, a, _ => cases a
  | [x], _, a, b =>
    rw [List.mem_singleton] at a b
    omega
  | _ :: _ :: _, h, _, _ => simp at h
theorem cert_iff {n : Nat} {es : List (Int × Int)} {k l : Int} (h : KL k l) (E : ∀ p ∈ es, 0 ≤ p.1 ∧ p.1 < p.2 ∧ p.2 < (n : Int)) :
    Sprs n es k l ↔ ∀ i ∈ ids es.length, ∀ S ∈ nsets n 1, ((insd (cpy es l i) S : Nat) : Int) ≤ bsum (List.replicate n k) S := by
  have k1 := h.k1
  have l0 := h.l0
  have l1 := h.l1
  constructor
  · intro sp i hi S hS
    obtain ⟨s1, s2, s3⟩ := mem_nsets.mp hS
    rw [bsum_rep s2]
    by_cases q : 2 ≤ S.length
    · have := sp S (mem_nsets.mpr ⟨s1, s2, by omega⟩)
      unfold cpy
      rw [insd_app, insd_rep]
      split <;> omega
    · rw [insd_one (cpy_E E hi) (by omega)]
      have : 0 ≤ k * (S.length : Int) := Int.mul_nonneg (by omega) (by omega)
      exact this
  · intro c S hS
    obtain ⟨s1, s2, s3⟩ := mem_nsets.mp hS
    apply Classical.byContradiction
    intro z
    have k2 : k * 2 ≤ k * (S.length : Int) := Int.mul_le_mul_of_nonneg_left s3 (by omega)
    have pos : 0 < insd es S := by omega
    unfold insd at pos
    obtain ⟨p, hp⟩ := List.exists_mem_of_length_pos pos
    rw [List.mem_filter] at hp
    obtain ⟨j, hj, e⟩ := List.mem_iff_getElem.mp hp.1
    have hi : ((j : Nat) : Int) ∈ ids es.length := mem_ids.mpr ⟨by omega, by omega⟩
    have := c _ hi S (mem_nsets.mpr ⟨s1, s2, by omega⟩)
    have ee : edgeOf es ((j : Nat) : Int) = p := by
      unfold edgeOf
      rw [edgeAt_nat, List.getElem?_eq_getElem hj, e]
      rfl
    unfold cpy at this
    rw [insd_app, insd_rep, bsum_rep s2, ee, if_pos hp.2] at this
    omega
/-- the orientation with copies of edge i -/
def ctl (n : Nat) (es : List (Int × Int)) (k l i : Int) : Option (List Int) := (orientL (cpy es l i) (List.replicate n k) (cpy es l i) []).getD none
theorem ctl_ok {n : Nat} {es : List (Int × Int)} {k l i : Int} (h : KL k l) (hn : n ≤ 50) (hm : es.length ≤ 50) (E : ∀ p ∈ es, 0 ≤ p.1 ∧ p.1 < p.2 ∧ p.2 < (n : Int)) (hi : i ∈ ids es.length) :
    orientL (cpy es l i) (List.replicate n k) (cpy es l i) [] = some (ctl n es k l i) ∧ (∀ T, ctl n es k l i = some T → OT (cpy es l i) T ∧ T.length = (cpy es l i).length ∧ ∀ u, 0 ≤ u → u < (n : Int) → ((T.count u : Nat) : Int) ≤ mk (List.replicate n k) u) ∧ ((ctl n es k l i).isSome = true ↔ ∀ S ∈ nsets n 1, ((insd (cpy es l i) S : Nat) : Int) ≤ bsum (List.replicate n k) S) := by
  have k1 := h.k1
  have k4 := h.k4
  have l1 := h.l1
  unfold ctl
  rcases orient_ok (n := n) (es := cpy es l i) (bs := List.replicate n k) (by omega) (by rw [List.length_replicate]) (fun b hb => by rw [(List.mem_replicate.mp hb).2]; omega) (cpy_E E hi) (by unfold cpy; rw [List.length_append, List.length_replicate]; omega) with ⟨T, r1, r2, r3, r4⟩ | ⟨r1, S, hS, r2⟩
  · rw [r1]
    refine ⟨rfl, fun T' e => ?_, ⟨fun _ S hS => orient_no r2 r3 r4 hS, fun _ => rfl⟩⟩
    cases e
    exact ⟨r2, r3, r4⟩
  · rw [r1]
    refine ⟨rfl, fun T' e => (by cases e), ⟨fun z => (by cases z), fun z => ?_⟩⟩
    have := z S hS
    omega
end Ip

set_option maxHeartbeats 4000000
namespace Ip
open PySem PySem.Spec PyProof.Rows L2
/-! ### forests: mirrors -/
abbrev Pm := Int → Option (List Int)
def pscan (es : List (Int × Int)) (cs : List (Option Int)) (col num node : Int) (pa : List Int) : Nat → List (Int × Int) → Pm → Nat → List Int → Option (Pm × Nat × List Int)
  | _, [], came, m, q => some (came, m, q)
  | i, (a, b) :: r, came, m, q => match cs[i]? with
    | none => none
    | some c => if c = some col ∧ ((i : Nat) : Int) ≠ num ∧ (node = a ∨ node = b) ∧ (came (a + b - node)).isSome = false then
        (if m < 900 ∧ q.length < 900 ∧ pa.length < 900 then pscan es cs col num node pa (i + 1) r (upF came (a + b - node) (pa ++ [((i : Nat) : Int)])) (m + 1) (q ++ [a + b - node]) else none)
      else pscan es cs col num node pa (i + 1) r came m q
def ploop (es : List (Int × Int)) (cs : List (Option Int)) (col num : Int) : Nat → Pm → Nat → List Int → Option Pm
  | 0, _, _, _ => none
  | _ + 1, came, _, [] => some came
  | f + 1, came, m, node :: q => match came node with
    | none => none
    | some pa => match pscan es cs col num node pa 0 es came m q with
      | some (came', m', q') => ploop es cs col num f came' m' q'
      | none => none
def pm1 (v : Int) : Pm := upF (fun _ => none) v []
def pathM (es : List (Int × Int)) (cs : List (Option Int)) (col num : Int) : Option (Option (List Int)) := match atI es num with
  | some (s, g) => (ploop es cs col num 100 (pm1 s) 1 [s]).map fun came => came g
  | none => none
def recL (came : Int → Option (Option Int)) : Nat → List (Option Int) → Option Int → Option Int → Option (List (Option Int))
  | 0, _, _, _ => none
  | _ + 1, cs, none, _ => some cs
  | f + 1, cs, some x, c => if 0 ≤ x then match cs[x.toNat]?, came x with
    | some old, some nx => recL came f (cs.set x.toNat c) nx old
    | _, _ => none else none
abbrev Cm := Int → Option (Option Int)
def oscan (cur : Int) : List Int → Cm → Nat → List Int → Option (Cm × Nat × List Int)
  | [], came, m, q => some (came, m, q)
  | x :: r, came, m, q => if (came x).isSome then oscan cur r came m q else if m < 900 ∧ q.length < 900 then oscan cur r (upF came x (some cur)) (m + 1) (q ++ [x]) else none
inductive Cr where
  | go (came : Cm) (m : Nat) (q : List Int)
  | done (cs : List (Option Int))
def cscan (es : List (Int × Int)) (cs : List (Option Int)) (cur : Int) (cc : Option Int) : List Int → Cm → Nat → List Int → Option Cr
  | [], came, m, q => some (.go came m q)
  | c :: r, came, m, q => if cc = some c then cscan es cs cur cc r came m q else match pathM es cs c cur with
    | none => none
    | some none => (recL came 100 cs (some cur) (some c)).map .done
    | some (some xs) => match oscan cur xs came m q with
      | some (came', m', q') => cscan es cs cur cc r came' m' q'
      | none => none
def insL (es : List (Int × Int)) (k : Nat) (cs : List (Option Int)) : Nat → Cm → Nat → List Int → Option (List (Option Int) × Bool)
  | 0, _, _, _ => none
  | _ + 1, _, _, [] => some (cs, false)
  | f + 1, came, m, cur :: q => if 0 ≤ cur then match cs[cur.toNat]? with
    | none => none
    | some cc => match cscan es cs cur cc (ids k) came m q with
      | none => none
      | some (.done cs') => some (cs', true)
      | some (.go came' m' q') => insL es k cs f came' m' q' else none
def insM (es : List (Int × Int)) (k : Nat) (cs : List (Option Int)) (num : Int) : Option (List (Option Int) × Bool) := insL es k cs 100 (came1 num) 1 [num]
def colL (es : List (Int × Int)) (k : Nat) : List Int → List (Option Int) → Option (List (Option Int))
  | [], cs => some cs
  | x :: r, cs => match insM es k cs x with
    | some (cs', _) => colL es k r cs'
    | none => none
def colM (es : List (Int × Int)) (k : Nat) : Option (List (Option Int)) := colL es k (ids es.length) (List.replicate es.length none)
def cD : Option Int → D
  | none => .none
  | some c => .int c
def cV : Option Int → V
  | none => .non
  | some c => .int c
def colF : List D → Rs D
  | [g, .int k] => match gOf g with
    | some (n, es) => if es.length ≤ 500 ∧ 0 ≤ k ∧ k ≤ 1000 then (match colM es k.toNat with
      | some cs => .ok (.list (cs.map cD))
      | none => .bad) else .bad
    | none => .bad
  | _ => .bad
/-! ### their heap forms -/
/-- lists in a dict, none of them the queue -/
def RL (Z : Hp) (pq : Addr) (H : Hp) (v : V) (xs : List Int) : Prop := ∃ p, v = .ref p ∧ H p = some (.lst (xs.map V.int)) ∧ p ≠ pq ∧ Z p = none
theorem RL.keep {Z : Hp} {pq : Addr} {H H' : Hp} {v : V} {xs : List Int} (h : RL Z pq H v xs) (k : ∀ p o, H p = some (.lst o) → p ≠ pq → H' p = some (.lst o)) : RL Z pq H' v xs := by
  obtain ⟨p, e, h1, h2, h3⟩ := h
  exact ⟨p, e, k p _ h1 h2, h2, h3⟩
theorem DR.to {α : Type} {R R' : V → α → Prop} {H H' : Hp} {p : Addr} {E : Int → Option α} {m : Nat} (h : DR R H p E m) (hp : ∀ o, H p = some (.dK o) → H' p = some (.dK o)) (hR : ∀ v x, R v x → R' v x) : DR R' H' p E m := by
  obtain ⟨kvs, h1, h2, h3⟩ := h
  refine ⟨kvs, hp _ h1, h2, fun n => ?_⟩
  have := h3 n
  cases q : E n with
  | none => rw [q] at this; exact this
  | some x =>
    rw [q] at this
    obtain ⟨v, e, r⟩ := this
    exact ⟨v, e, hR v x r⟩
theorem DR.lst {Z : Hp} {pq p : Addr} {H H' : Hp} {E : Pm} {m : Nat} (h : DR (RL Z pq H) H p E m) (hp : ∀ o, H p = some (.dK o) → H' p = some (.dK o)) (k : ∀ p o, H p = some (.lst o) → p ≠ pq → H' p = some (.lst o)) : DR (RL Z pq H') H' p E m := h.to hp fun v x r => r.keep k
theorem walk_enumT {K : PySem.W.Frag} {a : Addr} {us : List V} : Walk (ItT K a) us.length (fun H => SqT K H a us) (fun i H v H' => ∃ T x, v = .ref T ∧ H T = none ∧ H' = upd H T (.tup [.int (i : Nat), x]) ∧ us[i]? = some x) := by
  refine ⟨fun i H hi G => ⟨us, us[i]'hi, G, List.getElem?_eq_getElem _⟩, fun H G => ⟨us, G, rfl⟩, fun i H x H' hi G y => ?_⟩
  obtain ⟨T, u, rfl, hT, rfl, h1⟩ := y
  exact ⟨T, u, rfl, hT, rfl, h1 us G⟩
def spPath : Sp := fun vs H Q _ => ∃ (ve : V) (pl : Addr) (es : List (Int × Int)) (cs : List (Option Int)) (col num : Int) (r : Option (List Int)), vs = [ve, .ref pl, .int col, .int num] ∧ EsAt H ve es ∧ (∃ a ys, ve = .ref a ∧ H a = some (.tup ys) ∧ ys.length = es.length) ∧ H pl = some (.lst (cs.map cV)) ∧ pathM es cs col num = some r ∧
  ∀ H' v, Same H H' → (match r with | none => v = .non | some xs => ∃ p, v = .ref p ∧ H' p = some (.lst (xs.map V.int)) ∧ H p = none) → Q v H'
def spRec : Sp := fun vs H Q _ => ∃ (pl pc : Addr) (cs cs' : List (Option Int)) (came : Cm) (m : Nat) (x : Option Int) (c : Option Int), vs = [.ref pl, .ref pc, cV x, cV c] ∧ H pl = some (.lst (cs.map cV)) ∧ DR RC H pc came m ∧ recL came 100 cs x c = some cs' ∧ ∀ H', H' pl = some (.lst (cs'.map cV)) → Kt pl H H' → Q .non H'
def spIns : Sp := fun vs H Q _ => ∃ (ve : V) (pl : Addr) (es : List (Int × Int)) (cs cs' : List (Option Int)) (k num : Int) (r : Bool), vs = [ve, .ref pl, .int k, .int num] ∧ EsAt H ve es ∧ (∃ a ys, ve = .ref a ∧ H a = some (.tup ys) ∧ ys.length = es.length) ∧ H pl = some (.lst (cs.map cV)) ∧ 0 ≤ k ∧ k ≤ 1000 ∧ insM es k.toNat cs num = some (cs', r) ∧ ∀ H', H' pl = some (.lst (cs'.map cV)) → Kt pl H H' → Q (.bl r) H'
theorem pairs_invR : ∀ {ds : List D} {es : List (Int × Int)}, Ip.pairsOf ds = some es → ds = es.map eD
  | [], es, h => by cases h; rfl
  | x :: r, es, h => by
    unfold Ip.pairsOf at h
    cases hp : pairOf x with
    | none => rw [hp] at h; cases h
    | some p =>
      cases hq : Ip.pairsOf r with
      | none => rw [hp, hq] at h; cases h
      | some q =>
        rw [hp, hq] at h
        cases h
        rw [List.map_cons, ← pairs_invR hq]
        congr 1
        unfold pairOf at hp
        split at hp
        · cases hp; rfl
        · cases hp
theorem gOf_invR {g : D} {n : Int} {es : List (Int × Int)} (h : gOf g = some (n, es)) : g = grD n es := by
  unfold gOf at h
  split at h
  · rename_i m ds
    cases hp : Ip.pairsOf ds with
    | none => rw [hp] at h; cases h
    | some l =>
      rw [hp] at h
      cases h
      rw [pairs_invR hp]
      rfl
  · cases h
end Ip

set_option maxHeartbeats 4000000
namespace Ip
open PySem
/-! ### paths of one color -/
section
variable {es : List (Int × Int)} {cs : List (Option Int)} {col num s : Int} {n : Nat}
/-- an edge of the color, not the one in question -/
def EdC (es : List (Int × Int)) (cs : List (Option Int)) (col num : Int) (i : Nat) (a b : Int) : Prop := es[i]? = some (a, b) ∧ cs[i]? = some (some col) ∧ ((i : Nat) : Int) ≠ num
inductive Wk (es : List (Int × Int)) (cs : List (Option Int)) (col num s : Int) : Int → List Int → Prop
  | nil : Wk es cs col num s s []
  | snoc {u a b : Int} {xs : List Int} {i : Nat} : Wk es cs col num s u xs → EdC es cs col num i a b → (u = a ∨ u = b) → Wk es cs col num s (a + b - u) (xs ++ [((i : Nat) : Int)])
structure PT (es : List (Int × Int)) (cs : List (Option Int)) (col num s : Int) (n : Nat) (L : List Int) (came : Pm) : Prop where
  dom : ∀ u, (came u).isSome = true ↔ u ∈ L
  nd : L.Nodup
  hs : s ∈ L
  rg : ∀ u ∈ L, 0 ≤ u ∧ u < (n : Int)
  wk : ∀ u xs, came u = some xs → Wk es cs col num s u xs ∧ xs.Nodup ∧ xs.length < L.length ∧ ∀ (i : Nat) (a b : Int), ((i : Nat) : Int) ∈ xs → es[i]? = some (a, b) → a ∈ L ∧ b ∈ L
def Shd (es : List (Int × Int)) (cs : List (Option Int)) (col num : Int) (D L : List Int) : Prop := ∀ u ∈ D, ∀ (i : Nat) (a b : Int), EdC es cs col num i a b → (u = a ∨ u = b) → (a + b - u) ∈ L
theorem PT.len {L : List Int} {came : Pm} (h : PT es cs col num s n L came) : L.length ≤ n := by
  have := nodup_le (l := L) (m := ids n) h.nd fun u hu => mem_ids.mpr (h.rg u hu)
  rw [ids_len] at this
  exact this
theorem PT.add {L : List Int} {came : Pm} (h : PT es cs col num s n L came) (E : ∀ p ∈ es, 0 ≤ p.1 ∧ p.1 < p.2 ∧ p.2 < (n : Int)) {u a b : Int} {pa : List Int} {i : Nat} (hu : came u = some pa) (hc : EdC es cs col num i a b) (hab : u = a ∨ u = b) (hn : (came (a + b - u)).isSome = false) : PT es cs col num s n (L ++ [a + b - u]) (upF came (a + b - u) (pa ++ [((i : Nat) : Int)])) := by
  have huL : u ∈ L := (h.dom u).mp (by rw [hu]; rfl)
  have hnL : ¬ (a + b - u) ∈ L := fun z => by rw [(h.dom _).mpr z] at hn; cases hn
  have Ei := E _ (List.mem_of_getElem? hc.1)
  dsimp only at Ei
  refine ⟨fun x => ?_, ?_, List.mem_append_left _ h.hs, fun x hx => ?_, fun x xs hx => ?_⟩
  · unfold upF
    rw [List.mem_append, List.mem_singleton]
    by_cases q : x = a + b - u
    · simp [q]
    · simp only [q, if_false, or_false]
      exact h.dom x
  · refine List.nodup_append.mpr ⟨h.nd, List.nodup_cons.mpr ⟨by simp, List.nodup_nil⟩, fun x hx y hy e => ?_⟩
    rw [List.mem_singleton] at hy
    rw [e, hy] at hx
    exact hnL hx
  · rcases List.mem_append.mp hx with z | z
    · exact h.rg x z
    · rw [List.mem_singleton] at z
      have := h.rg u huL
      omega
  · rw [List.length_append, List.length_singleton]
    unfold upF at hx
    by_cases q : x = a + b - u
    · rw [if_pos q] at hx
      cases hx
      obtain ⟨w1, w2, w3, w4⟩ := h.wk u pa hu
      subst q
      refine ⟨.snoc w1 hc hab, ?_, by rw [List.length_append, List.length_singleton]; omega, fun j c d hj he => ?_⟩
      · refine List.nodup_append.mpr ⟨w2, List.nodup_cons.mpr ⟨by simp, List.nodup_nil⟩, fun x hx y hy e => ?_⟩
        rw [List.mem_singleton] at hy
        rw [e, hy] at hx
        obtain ⟨z1, z2⟩ := w4 i a b hx hc.1
        rcases hab with e | e
        · exact hnL (by rw [show a + b - u = b by omega]; exact z2)
        · exact hnL (by rw [show a + b - u = a by omega]; exact z1)
      · rcases List.mem_append.mp hj with z | z
        · obtain ⟨z1, z2⟩ := w4 j c d z he
          exact ⟨List.mem_append_left _ z1, List.mem_append_left _ z2⟩
        · rw [List.mem_singleton] at z
          have : j = i := by omega
          subst this
          rw [hc.1] at he
          cases he
          rcases hab with e | e
          · exact ⟨List.mem_append_left _ (e ▸ huL), List.mem_append_right _ (List.mem_singleton.mpr (by omega))⟩
          · exact ⟨List.mem_append_right _ (List.mem_singleton.mpr (by omega)), List.mem_append_left _ (e ▸ huL)⟩
    · rw [if_neg q] at hx
      obtain ⟨w1, w2, w3, w4⟩ := h.wk x xs hx
      refine ⟨w1, w2, by omega, fun j c d hj he => ?_⟩
      obtain ⟨z1, z2⟩ := w4 j c d hj he
      exact ⟨List.mem_append_left _ z1, List.mem_append_left _ z2⟩
theorem pscan_ok (hn : n ≤ 100) (hl : cs.length = es.length) (E : ∀ p ∈ es, 0 ≤ p.1 ∧ p.1 < p.2 ∧ p.2 < (n : Int)) {node : Int} {pa : List Int} : ∀ (k i : Nat) {came : Pm} {L D q : List Int}, es.length = i + k → PT es cs col num s n L came → came node = some pa → L = D ++ q →
    ∃ came' L' q', pscan es cs col num node pa i (es.drop i) came L.length q = some (came', L'.length, q') ∧ PT es cs col num s n L' came' ∧ L' = D ++ q' ∧ (∀ u ∈ L, u ∈ L') ∧ (∀ u xs, came u = some xs → came' u = some xs) ∧ ∀ (j : Nat) (a b : Int), i ≤ j → EdC es cs col num j a b → (node = a ∨ node = b) → (a + b - node) ∈ L'
  | 0, i, came, L, D, q, hk, h, hc, hL => by
    refine ⟨came, L, q, ?_, h, hL, fun u hu => hu, fun u xs e => e, fun j a b hj e => ?_⟩
    · rw [List.drop_eq_nil_of_le (by omega)]
      rfl
    · have := (List.getElem?_eq_some_iff.mp e.1).1
      omega
  | k + 1, i, came, L, D, q, hk, h, hc, hL => by
    have hi : i < es.length := by omega
    rw [List.drop_eq_getElem_cons hi]
    have g2 : es[i]? = some es[i] := List.getElem?_eq_getElem hi
    have g1 : cs[i]? = some cs[i] := List.getElem?_eq_getElem (by omega)
    generalize cs[i] = c at *
    generalize es[i] = p at *
    obtain ⟨a, b⟩ := p
    unfold pscan
    rw [g1]
    dsimp only
    have hLn := h.len
    have hpa := (h.wk node pa hc).2.2.1
    by_cases hq : c = some col ∧ ((i : Nat) : Int) ≠ num ∧ (node = a ∨ node = b) ∧ (came (a + b - node)).isSome = false
    · have hcl : EdC es cs col num i a b := ⟨g2, by rw [g1, hq.1], hq.2.1⟩
      rw [if_pos hq, if_pos ⟨by omega, by rw [hL, List.length_append] at hLn; omega, by omega⟩]
      have h' := h.add E hc hcl hq.2.2.1 hq.2.2.2
      have hne : node ≠ a + b - node := fun z => by rw [← z, hc] at hq; cases hq.2.2.2
      obtain ⟨came', L', q', r1, r2, r3, r4, r5, r6⟩ := pscan_ok hn hl E k (i + 1) (D := D) (q := q ++ [a + b - node]) (by omega) h' (by unfold upF; rw [if_neg hne]; exact hc) (by rw [hL, List.append_assoc])
      rw [List.length_append, List.length_singleton] at r1
      refine ⟨came', L', q', r1, r2, r3, fun u hu => r4 u (List.mem_append_left _ hu), fun u xs e => r5 u xs ?_, fun j a' b' hj e1 e2 => ?_⟩
      · unfold upF
        rw [if_neg (fun z => by rw [← z, e] at hq; cases hq.2.2.2)]
        exact e
      · by_cases e : j = i
        · subst e
          obtain ⟨e3, _⟩ := e1
          rw [g2] at e3
          cases e3
          exact r4 _ (List.mem_append_right _ (List.mem_singleton.mpr rfl))
        · exact r6 j a' b' (by omega) e1 e2
    · rw [if_neg hq]
      obtain ⟨came', L', q', r1, r2, r3, r4, r5, r6⟩ := pscan_ok hn hl E k (i + 1) (D := D) (q := q) (by omega) h hc hL
      refine ⟨came', L', q', r1, r2, r3, r4, r5, fun j a' b' hj e1 e2 => ?_⟩
      by_cases e : j = i
      · subst e
        have e1' := e1
        obtain ⟨e3, e4, e5⟩ := e1
        rw [g2] at e3
        rw [g1] at e4
        cases e3
        cases e4
        have : (came (a + b - node)).isSome = true := by
          cases z : (came (a + b - node)).isSome with
          | true => rfl
          | false => exact absurd ⟨rfl, e5, e2, z⟩ hq
        exact r4 _ ((h.dom _).mp this)
      · exact r6 j a' b' (by omega) e1 e2
theorem ploop_ok (hn : n ≤ 90) (hl : cs.length = es.length) (E : ∀ p ∈ es, 0 ≤ p.1 ∧ p.1 < p.2 ∧ p.2 < (n : Int)) : ∀ {f : Nat} {came : Pm} {L D q : List Int}, PT es cs col num s n L came → L = D ++ q → Shd es cs col num D L → n < f + D.length →
    ∃ came' L', ploop es cs col num f came L.length q = some came' ∧ PT es cs col num s n L' came' ∧ Shd es cs col num L' L'
  | 0, came, L, D, q, h, hL, hD, hf => by
    have := h.len
    rw [hL, List.length_append] at this
    omega
  | f + 1, came, L, D, [], h, hL, hD, hf => by
    rw [List.append_nil] at hL
    subst hL
    exact ⟨came, L, rfl, h, hD⟩
  | f + 1, came, L, D, node :: q, h, hL, hD, hf => by
    have hnL : node ∈ L := by rw [hL]; simp
    have hs := (h.dom node).mpr hnL
    unfold ploop
    cases hc : came node with
    | none => rw [hc] at hs; cases hs
    | some pa =>
      dsimp only
      obtain ⟨came', L', q', r1, r2, r3, r4, r5, r6⟩ := pscan_ok (node := node) (pa := pa) (by omega) hl E es.length 0 (D := D ++ [node]) (q := q) (by omega) h hc (by rw [hL, List.append_assoc]; rfl)
      rw [List.drop_zero] at r1
      rw [r1]
      dsimp only
      refine ploop_ok hn hl E r2 r3 (fun u hu i a b e1 e2 => ?_) (by rw [List.length_append, List.length_singleton]; omega)
      rcases List.mem_append.mp hu with z | z
      · exact r4 _ (hD u z i a b e1 e2)
      · rw [List.mem_singleton] at z
        subst z
        exact r6 i a b (Nat.zero_le _) e1 e2
/-- THE PATH: there is one, or the ends lie apart -/
theorem pathM_ok (hn : n ≤ 90) (hl : cs.length = es.length) (E : ∀ p ∈ es, 0 ≤ p.1 ∧ p.1 < p.2 ∧ p.2 < (n : Int)) {g : Int} (he : edgeAt es num = some (s, g)) :
    (∃ xs, pathM es cs col num = some (some xs) ∧ Wk es cs col num s g xs ∧ xs.Nodup) ∨ (pathM es cs col num = some none ∧ ∃ L : List Int, s ∈ L ∧ ¬ g ∈ L ∧ Shd es cs col num L L) := by
  have Es := E _ (edgeAt_mem he)
  dsimp only at Es
  have h0 : PT es cs col num s n [s] (pm1 s) := by
    refine ⟨fun u => ?_, List.nodup_cons.mpr ⟨by simp, List.nodup_nil⟩, List.mem_singleton.mpr rfl, fun u hu => by rw [List.mem_singleton] at hu; omega, fun u xs e => ?_⟩
    · unfold pm1 upF
      rw [List.mem_singleton]
      by_cases q : u = s <;> simp [q]
    · unfold pm1 upF at e
      by_cases q : u = s
      · rw [if_pos q] at e
        cases e
        subst q
        exact ⟨.nil, List.nodup_nil, Nat.zero_lt_one, fun i a b z => by cases z⟩
      · rw [if_neg q] at e; cases e
  obtain ⟨came', L', r1, r2, r3⟩ := ploop_ok (f := 100) hn hl E (D := []) (q := [s]) h0 rfl (fun u hu => by cases hu) (by rw [List.length_nil]; omega)
  rw [show ([s] : List Int).length = 1 from rfl] at r1
  unfold pathM
  rw [show L2.atI es num = some (s, g) from he]
  dsimp only
  rw [r1]
  show (∃ xs, some (came' g) = some (some xs) ∧ _) ∨ (some (came' g) = some none ∧ _)
  cases hg : came' g with
  | none =>
    refine .inr ⟨rfl, L', r2.hs, fun z => ?_, r3⟩
    have := (r2.dom g).mpr z
    rw [hg] at this
    cases this
  | some xs =>
    obtain ⟨w1, w2, _⟩ := r2.wk g xs hg
    exact .inl ⟨xs, rfl, w1, w2⟩
end
end Ip

set_option maxHeartbeats 4000000
namespace Ip
open PySem
/-! ### colored edges as graphs -/
/-- the edges of a color, without one -/
def ce (es : List (Int × Int)) (cs : List (Option Int)) (c x : Int) : List (Int × Int) := (List.range es.length).filterMap fun i => if cs[i]? = some (some c) ∧ ((i : Nat) : Int) ≠ x then es[i]? else none
section
variable {es : List (Int × Int)} {cs : List (Option Int)} {n : Nat}
theorem mem_ce {c x : Int} {p : Int × Int} : p ∈ ce es cs c x ↔ ∃ i : Nat, EdC es cs c x i p.1 p.2 := by
  unfold ce EdC
  rw [List.mem_filterMap]
  constructor
  · rintro ⟨i, hi, e⟩
    split at e
    · rename_i q
      exact ⟨i, e, q.1, q.2⟩
    · cases e
  · rintro ⟨i, h1, h2, h3⟩
    exact ⟨i, List.mem_range.mpr (List.getElem?_eq_some_iff.mp h1).1, by rw [if_pos ⟨h2, h3⟩]; exact h1⟩
theorem con_step {E : List (Int × Int)} {a b u : Int} (h : (a, b) ∈ E) (hu : u = a ∨ u = b) : Con E u (a + b - u) := by
  rcases hu with rfl | rfl
  · rw [show u + b - u = b by omega]
    exact .edge (p := (u, b)) h (.refl _)
  · rw [show a + u - u = a by omega]
    exact .back (p := (a, u)) h (.refl _)
theorem Wk.con {c x s u : Int} {xs : List Int} (h : Wk es cs c x s u xs) : Con (ce es cs c x) s u := by
  induction h with
  | nil => exact .refl _
  | @snoc u a b xs i h hc hu ih => exact ih.trans (con_step (mem_ce.mpr ⟨i, hc⟩) hu)
theorem shd_not {c x s g : Int} {L : List Int} (hs : s ∈ L) (hg : ¬ g ∈ L) (h : Shd es cs c x L L) : ¬ Con (ce es cs c x) s g := fun z => by
  refine hg ((con_leaves (S := fun v => v ∈ L) z fun p hp => ?_).mp hs)
  obtain ⟨i, hi⟩ := mem_ce.mp hp
  constructor
  · intro q
    have := h p.1 q i p.1 p.2 hi (.inl rfl)
    rw [show p.1 + p.2 - p.1 = p.2 by omega] at this
    exact this
  · intro q
    have := h p.2 q i p.1 p.2 hi (.inr rfl)
    rw [show p.1 + p.2 - p.2 = p.1 by omega] at this
    exact this
/-- one more edge -/
theorem con_add {E F : List (Int × Int)} {a b u v : Int} (hF : ∀ p ∈ F, p ∈ E ∨ p = (a, b)) (h : Con F u v) : Con E u v ∨ (Con E u a ∧ Con E b v) ∨ (Con E u b ∧ Con E a v) := by
  induction h with
  | refl v => exact .inl (.refl v)
  | @edge p v hp h ih =>
    rcases hF p hp with z | z
    · rcases ih with i | ⟨i, j⟩ | ⟨i, j⟩
      · exact .inl (.edge z i)
      · exact .inr (.inl ⟨.edge z i, j⟩)
      · exact .inr (.inr ⟨.edge z i, j⟩)
    · subst z
      rcases ih with i | ⟨i, j⟩ | ⟨i, j⟩
      · exact .inr (.inl ⟨.refl _, i⟩)
      · exact .inr (.inl ⟨.refl _, j⟩)
      · exact .inl j
  | @back p v hp h ih =>
    rcases hF p hp with z | z
    · rcases ih with i | ⟨i, j⟩ | ⟨i, j⟩
      · exact .inl (.back z i)
      · exact .inr (.inl ⟨.back z i, j⟩)
      · exact .inr (.inr ⟨.back z i, j⟩)
    · subst z
      rcases ih with i | ⟨i, j⟩ | ⟨i, j⟩
      · exact .inr (.inr ⟨.refl _, i⟩)
      · exact .inl j
      · exact .inr (.inr ⟨.refl _, j⟩)
/-- each color is a forest -/
def FoC (es : List (Int × Int)) (cs : List (Option Int)) : Prop := ∀ (i : Nat) (a b c : Int), es[i]? = some (a, b) → cs[i]? = some (some c) → ¬ Con (ce es cs c i) a b
theorem ce_set_other {c d : Int} {x : Nat} {o : Option Int} {y : Int} (h : o ≠ some d) : ∀ p ∈ ce es (cs.set x o) d y, p ∈ ce es cs d y := fun p hp => by
  obtain ⟨i, h1, h2, h3⟩ := mem_ce.mp hp
  refine mem_ce.mpr ⟨i, h1, ?_, h3⟩
  by_cases e : x = i
  · subst e
    have hlt : x < cs.length := by
      have := (List.getElem?_eq_some_iff.mp h2).1
      rwa [List.length_set] at this
    rw [List.getElem?_set_self hlt] at h2
    exact absurd (Option.some.inj h2) h
  · rw [List.getElem?_set_ne e] at h2
    exact h2
/-- an edge takes a color in which its ends lie apart -/
theorem FoC.set {x : Nat} {a b c : Int} (F : FoC es cs) (hx : es[x]? = some (a, b)) (hn : ¬ Con (ce es cs c x) a b) : FoC es (cs.set x (some c)) := by
  intro i u v d h1 h2 z
  by_cases e : x = i
  · subst e
    have hlt : x < cs.length := by
      have := (List.getElem?_eq_some_iff.mp h2).1
      rwa [List.length_set] at this
    rw [List.getElem?_set_self hlt] at h2
    cases h2
    rw [hx] at h1
    cases h1
    refine hn (z.mono fun p hp => ?_)
    obtain ⟨i, g1, g2, g3⟩ := mem_ce.mp hp
    have hne : x ≠ i := fun e => g3 (by rw [e])
    rw [List.getElem?_set_ne hne] at g2
    exact mem_ce.mpr ⟨i, g1, g2, g3⟩
  · rw [List.getElem?_set_ne e] at h2
    by_cases q : d = c
    · subst q
      let E := (List.range es.length).filterMap fun j => if cs[j]? = some (some d) ∧ j ≠ i ∧ j ≠ x then es[j]? else none
      have mE : ∀ p, p ∈ E ↔ ∃ j : Nat, es[j]? = some p ∧ cs[j]? = some (some d) ∧ j ≠ i ∧ j ≠ x := fun p => by
        show p ∈ List.filterMap _ _ ↔ _
        rw [List.mem_filterMap]
        constructor
        · rintro ⟨j, hj, e⟩
          split at e
          · rename_i q
            exact ⟨j, e, q.1, q.2.1, q.2.2⟩
          · cases e
        · rintro ⟨j, g1, g2, g3, g4⟩
          exact ⟨j, List.mem_range.mpr (List.getElem?_eq_some_iff.mp g1).1, by rw [if_pos ⟨g2, g3, g4⟩]; exact g1⟩
      have key := con_add (E := E) (a := a) (b := b) (fun p hp => by
        obtain ⟨j, g1, g2, g3⟩ := mem_ce.mp hp
        by_cases ej : x = j
        · subst ej
          rw [hx] at g1
          exact .inr (Option.some.inj g1).symm
        · rw [List.getElem?_set_ne ej] at g2
          exact .inl ((mE p).mpr ⟨j, g1, g2, fun e => g3 (by rw [e]), fun e => ej e.symm⟩)) z
      have s1 : ∀ p ∈ E, p ∈ ce es cs d i := fun p hp => by
        obtain ⟨j, g1, g2, g3, g4⟩ := (mE p).mp hp
        exact mem_ce.mpr ⟨j, g1, g2, by omega⟩
      have s2 : ∀ p ∈ E, p ∈ ce es cs d x := fun p hp => by
        obtain ⟨j, g1, g2, g3, g4⟩ := (mE p).mp hp
        exact mem_ce.mpr ⟨j, g1, g2, by omega⟩
      have ei : (u, v) ∈ ce es cs d x := mem_ce.mpr ⟨i, h1, h2, by omega⟩
      have c1 : Con (ce es cs d x) u v := .edge (p := (u, v)) ei (.refl _)
      rcases key with k | ⟨k1, k2⟩ | ⟨k1, k2⟩
      · exact F i u v d h1 h2 (k.mono s1)
      · exact hn (((k1.mono s2).symm.trans c1).trans (k2.mono s2).symm)
      · exact hn (((k2.mono s2).trans c1.symm).trans (k1.mono s2))
    · exact F i u v d h1 h2 (z.mono (ce_set_other (c := c) (fun e => q (Option.some.inj e).symm)))
/-- a path runs over an edge once -/
theorem Wk.split {c y s u : Int} {xs : List Int} (h : Wk es cs c y s u xs) : ∀ {x : Nat} {a b : Int} {o : Option Int}, xs.Nodup → ((x : Nat) : Int) ∈ xs → es[x]? = some (a, b) → o ≠ some c → (Con (ce es (cs.set x o) c y) s a ∧ Con (ce es (cs.set x o) c y) b u) ∨ (Con (ce es (cs.set x o) c y) s b ∧ Con (ce es (cs.set x o) c y) a u) := by
  have pre : ∀ {u : Int} {xs : List Int}, Wk es cs c y s u xs → ∀ {x : Nat} {o : Option Int}, ¬ ((x : Nat) : Int) ∈ xs → Con (ce es (cs.set x o) c y) s u := by
    intro u xs h
    induction h with
    | nil => intro x o _; exact .refl _
    | @snoc u a b xs i h hc hu ih =>
      intro x o hx
      refine (ih fun z => hx (List.mem_append_left _ z)).trans (con_step (mem_ce.mpr ⟨i, hc.1, ?_, hc.2.2⟩) hu)
      rw [List.getElem?_set_ne (fun e => hx (List.mem_append_right _ (by rw [e]; exact List.mem_singleton.mpr rfl)))]
      exact hc.2.1
  induction h with
  | nil => intro x a b o _ hx; cases hx
  | @snoc u a' b' xs i h hc hu ih =>
    intro x a b o hn hx he ho
    obtain ⟨n1, _, n3⟩ := List.nodup_append.mp hn
    by_cases e : x = i
    · subst e
      have hnx : ¬ ((x : Nat) : Int) ∈ xs := fun z => n3 _ z _ (List.mem_singleton.mpr rfl) rfl
      rw [hc.1] at he
      cases he
      have := pre h (o := o) hnx
      rcases hu with rfl | rfl
      · rw [show u + b' - u = b' by omega]
        exact .inl ⟨this, .refl _⟩
      · rw [show a' + u - u = a' by omega]
        exact .inr ⟨this, .refl _⟩
    · have hx' : ((x : Nat) : Int) ∈ xs := by
        rcases List.mem_append.mp hx with z | z
        · exact z
        · rw [List.mem_singleton] at z; omega
      have st : Con (ce es (cs.set x o) c y) u (a' + b' - u) := con_step (mem_ce.mpr ⟨i, hc.1, by rw [List.getElem?_set_ne e]; exact hc.2.1, hc.2.2⟩) hu
      rcases ih n1 hx' he ho with ⟨i1, i2⟩ | ⟨i1, i2⟩
      · exact .inl ⟨i1, i2.trans st⟩
      · exact .inr ⟨i1, i2.trans st⟩
/-- without an edge of the path the ends lie apart -/
theorem FoC.cut {c y s u : Int} {xs : List Int} {x : Nat} {a b : Int} {o : Option Int} (F : FoC es cs) (h : Wk es cs c y s u xs) (hn : xs.Nodup) (hx : ((x : Nat) : Int) ∈ xs) (he : es[x]? = some (a, b)) (hc : cs[x]? = some (some c)) (ho : o ≠ some c) : ¬ Con (ce es (cs.set x o) c y) s u := fun z => by
  have sub : ∀ p ∈ ce es (cs.set x o) c y, p ∈ ce es cs c x := fun p hp => by
    obtain ⟨i, g1, g2, g3⟩ := mem_ce.mp hp
    have hlt := (List.getElem?_eq_some_iff.mp hc).1
    have hne : x ≠ i := fun e => by
      subst e
      rw [List.getElem?_set_self hlt] at g2
      exact ho (Option.some.inj g2)
    rw [List.getElem?_set_ne hne] at g2
    exact mem_ce.mpr ⟨i, g1, g2, by omega⟩
  rcases h.split hn hx he ho with ⟨i1, i2⟩ | ⟨i1, i2⟩
  · exact F x a b c he hc (((i1.symm.trans z).trans i2.symm).mono sub)
  · exact F x a b c he hc (((i2.trans z.symm).trans i1).mono sub)
end
end Ip

set_option maxHeartbeats 4000000
namespace Ip
open PySem
/-! ### one more edge is colored -/
theorem Wk.mem {es : List (Int × Int)} {cs : List (Option Int)} {c y s u : Int} {xs : List Int} (h : Wk es cs c y s u xs) {x : Int} (hx : x ∈ xs) : ∃ (i : Nat) (a b : Int), x = i ∧ EdC es cs c y i a b := by
  induction h with
  | nil => cases hx
  | @snoc u a b xs i h hc hu ih =>
    rcases List.mem_append.mp hx with z | z
    · exact ih z
    · exact ⟨i, a, b, List.mem_singleton.mp z, hc⟩
theorem Wk.congr {es : List (Int × Int)} {cs cs1 : List (Option Int)} {c y s u : Int} {xs : List Int} (h : Wk es cs c y s u xs) (e : ∀ i : Nat, ((i : Nat) : Int) ∈ xs → cs1[i]? = cs[i]?) : Wk es cs1 c y s u xs := by
  induction h with
  | nil => exact .nil
  | @snoc u a b xs i h hc hu ih =>
    exact .snoc (ih fun j hj => e j (List.mem_append_left _ hj)) ⟨hc.1, by rw [e i (List.mem_append_right _ (List.mem_singleton.mpr rfl))]; exact hc.2.1, hc.2.2⟩ hu
structure Ctx (es : List (Int × Int)) (cs : List (Option Int)) (k n : Nat) : Prop where
  n9 : n ≤ 90
  m9 : es.length ≤ 90
  len : cs.length = es.length
  E : ∀ p ∈ es, 0 ≤ p.1 ∧ p.1 < p.2 ∧ p.2 < (n : Int)
  fo : FoC es cs
  rg : ∀ (i : Nat) (c : Int), cs[i]? = some (some c) → c ∈ ids k
structure BT (es : List (Int × Int)) (cs : List (Option Int)) (k : Nat) (root : Int) (L : List Int) (came : Cm) : Prop where
  dom : ∀ x, (came x).isSome = true ↔ x ∈ L
  nd : L.Nodup
  rg : ∀ x ∈ L, 0 ≤ x ∧ x < (es.length : Int)
  rt : root ∈ L
  r0 : came root = some none
  nr : ∀ x, came x = some none → x = root
  par : ∀ x p, came x = some (some p) → p ∈ L ∧ L.idxOf p < L.idxOf x ∧ ∃ c xs, c ∈ ids k ∧ cs[p.toNat]? ≠ some (some c) ∧ pathM es cs c p = some (some xs) ∧ x ∈ xs
  ns : ∀ x p, came x = some (some p) → ∀ y ∈ L, L.idxOf y < L.idxOf p → ∀ c ∈ ids k, cs[y.toNat]? ≠ some (some c) → ∀ xs, pathM es cs c y = some (some xs) → ¬ x ∈ xs
section
variable {es : List (Int × Int)} {cs : List (Option Int)} {k n : Nat} {root : Int} {L : List Int} {came : Cm}
theorem edge_nat {x : Int} (hx : 0 ≤ x ∧ x < (es.length : Int)) : ∃ a b, es[x.toNat]? = some (a, b) ∧ edgeAt es x = some (a, b) := by
  obtain ⟨i, rfl⟩ : ∃ i : Nat, x = i := ⟨x.toNat, by omega⟩
  have hi : i < es.length := by omega
  refine ⟨es[i].1, es[i].2, ?_, ?_⟩
  · rw [Int.toNat_natCast, List.getElem?_eq_getElem hi]
  · rw [edgeAt_nat, List.getElem?_eq_getElem hi]
theorem idx_old {x y : Int} (hy : y ∈ L) : (L ++ [x]).idxOf y = L.idxOf y := by
  rw [List.idxOf_append, if_pos hy]
theorem idx_new {x : Int} (hx : ¬ x ∈ L) : (L ++ [x]).idxOf x = L.length := by
  rw [List.idxOf_append, if_neg hx]
  simp
theorem idx_lt {y : Int} (hy : y ∈ L) : L.idxOf y < L.length := List.idxOf_lt_length_of_mem hy
theorem BT.add (B : BT es cs k root L came) (C : Ctx es cs k n) {cur x c : Int} {xs : List Int} (hcur : cur ∈ L) (hx : ¬ x ∈ L) (hc : c ∈ ids k) (hcc : cs[cur.toNat]? ≠ some (some c)) (hp : pathM es cs c cur = some (some xs)) (hxs : x ∈ xs) (hrx : 0 ≤ x ∧ x < (es.length : Int))
    (cl : ∀ y ∈ L, L.idxOf y < L.idxOf cur → ∀ c ∈ ids k, cs[y.toNat]? ≠ some (some c) → ∀ xs, pathM es cs c y = some (some xs) → ∀ z ∈ xs, z ∈ L) : BT es cs k root (L ++ [x]) (upF came x (some cur)) := by
  have hne : ∀ y, y ∈ L → y ≠ x := fun y hy e => hx (e ▸ hy)
  have up : ∀ y, y ≠ x → upF came x (some cur) y = came y := fun y hy => by unfold upF; rw [if_neg hy]
  have upx : upF came x (some cur) x = some (some cur) := by unfold upF; rw [if_pos rfl]
  have inL : ∀ y q, came y = some q → y ∈ L := fun y q e => (B.dom y).mp (by rw [e]; rfl)
  refine ⟨fun y => ?_, ?_, fun y hy => ?_, List.mem_append_left _ B.rt, by rw [up _ (hne _ B.rt)]; exact B.r0, fun y e => ?_, fun y p e => ?_, fun y p e z hz hlt d hd hzc zs hzs => ?_⟩
  · rw [List.mem_append, List.mem_singleton]
    by_cases q : y = x
    · subst q; rw [upx]; simp
    · rw [up y q]; simp only [q, or_false]; exact B.dom y
  · refine List.nodup_append.mpr ⟨B.nd, List.nodup_cons.mpr ⟨by simp, List.nodup_nil⟩, fun a ha b hb e => ?_⟩
    rw [List.mem_singleton] at hb
    exact hne a ha (e.trans hb)
  · rcases List.mem_append.mp hy with z | z
    · exact B.rg y z
    · rw [List.mem_singleton] at z; rw [z]; exact hrx
  · by_cases q : y = x
    · subst q; rw [upx] at e; cases e
    · rw [up y q] at e; exact B.nr y e
  · by_cases q : y = x
    · subst q
      rw [upx] at e
      cases e
      rw [idx_old hcur, idx_new hx]
      exact ⟨List.mem_append_left _ hcur, idx_lt hcur, c, xs, hc, hcc, hp, hxs⟩
    · rw [up y q] at e
      obtain ⟨p1, p2, p3⟩ := B.par y p e
      rw [idx_old p1, idx_old (inL y _ e)]
      exact ⟨List.mem_append_left _ p1, p2, p3⟩
  · by_cases q : y = x
    · subst q
      rw [upx] at e
      cases e
      rw [idx_old hcur] at hlt
      have hzL : z ∈ L := by
        rcases List.mem_append.mp hz with w | w
        · exact w
        · rw [List.mem_singleton] at w
          rw [w, idx_new hx] at hlt
          have := idx_lt hcur
          omega
      rw [idx_old hzL] at hlt
      exact fun w => hx (cl z hzL hlt d hd hzc zs hzs y w)
    · rw [up y q] at e
      have hpL := (B.par y p e).1
      rw [idx_old hpL] at hlt
      have hzL : z ∈ L := by
        rcases List.mem_append.mp hz with w | w
        · exact w
        · rw [List.mem_singleton] at w
          rw [w, idx_new hx] at hlt
          have := idx_lt hpL
          omega
      rw [idx_old hzL] at hlt
      exact B.ns y p e z hzL hlt d hd hzc zs hzs
/-- a coloring after one more edge -/
structure Good (es : List (Int × Int)) (cs cs' : List (Option Int)) (k : Nat) (root : Int) : Prop where
  len : cs'.length = es.length
  fo : FoC es cs'
  rg : ∀ (i : Nat) (c : Int), cs'[i]? = some (some c) → c ∈ ids k
  no : ∀ i : Nat, cs'[i]? = some none ↔ cs[i]? = some none ∧ ((i : Nat) : Int) ≠ root
theorem get_setC {cs1 : List (Option Int)} {x i : Nat} {o : Option Int} (hx : x < cs1.length) : (cs1.set x o)[i]? = if i = x then some o else cs1[i]? := by
  by_cases e : i = x
  · subst e
    rw [if_pos rfl, List.getElem?_set_self hx]
  · rw [if_neg e, List.getElem?_set_ne (fun z => e z.symm)]
theorem rec_ok (B : BT es cs k root L came) (C : Ctx es cs k n) (hroot : cs[root.toNat]? = some none) : ∀ (N : Nat) {x col : Int} {cs1 : List (Option Int)} {f : Nat}, x ∈ L → L.idxOf x ≤ N → N + 1 < f → cs1.length = es.length → FoC es cs1 → (∀ i : Nat, cs1[i]? ≠ cs[i]? → ∃ q, came ((i : Nat) : Int) = some (some q) ∧ L.idxOf x ≤ L.idxOf q) → (∀ (i : Nat) (c : Int), cs1[i]? = some (some c) → c ∈ ids k) → col ∈ ids k → (∀ a b, es[x.toNat]? = some (a, b) → ¬ Con (ce es cs1 col x) a b) → cs1[x.toNat]? ≠ some (some col) → (∀ i : Nat, cs1[i]? = some none ↔ cs[i]? = some none) →
    ∃ cs', recL came f cs1 (some x) (some col) = some cs' ∧ Good es cs cs' k root := by
  intro N
  induction N using Nat.strongRecOn with
  | ind N ih =>
    intro x col cs1 f hx hi hf hl F mv rg hcol un hcc nn
    obtain ⟨x0, x1⟩ := B.rg x hx
    obtain ⟨a, b, he, hea⟩ := edge_nat ⟨x0, x1⟩
    have hxl : x.toNat < cs1.length := by omega
    have hxc : ((x.toNat : Nat) : Int) = x := by omega
    have inL : ∀ y q, came y = some q → y ∈ L := fun y q e => (B.dom y).mp (by rw [e]; rfl)
    cases f with
    | zero => omega
    | succ f =>
      have old : cs1[x.toNat]? = some cs1[x.toNat] := List.getElem?_eq_getElem hxl
      have F2 : FoC es (cs1.set x.toNat (some col)) := F.set he (by rw [hxc]; exact un a b he)
      have rg2 : ∀ (i : Nat) (c : Int), (cs1.set x.toNat (some col))[i]? = some (some c) → c ∈ ids k := fun i c e => by
        rw [get_setC hxl] at e
        split at e
        · cases e; exact hcol
        · exact rg i c e
      have hs := (B.dom x).mpr hx
      unfold recL
      rw [if_pos x0, old]
      cases hcm : came x with
      | none => rw [hcm] at hs; cases hs
      | some nx =>
        dsimp only
        cases nx with
        | none =>
          have er := B.nr x hcm
          cases f with
          | zero => omega
          | succ f =>
            refine ⟨cs1.set x.toNat (some col), rfl, by rw [List.length_set]; exact hl, F2, rg2, fun i => ?_⟩
            rw [get_setC hxl]
            by_cases e : i = x.toNat
            · rw [if_pos e]
              constructor
              · intro z; cases z
              · rintro ⟨_, z⟩
                exact absurd (by rw [← er]; omega) z
            · rw [if_neg e, nn i]
              exact ⟨fun z => ⟨z, fun w => e (by rw [← er] at w; omega)⟩, fun z => z.1⟩
        | some p =>
          obtain ⟨p1, p2, c, xs, hc, hpc, hpm, hxx⟩ := B.par x p hcm
          obtain ⟨pr0, pr1⟩ := B.rg p p1
          obtain ⟨s0, g0, hpe, hpea⟩ := edge_nat ⟨pr0, pr1⟩
          have hpw : ∃ ys, pathM es cs c p = some (some ys) ∧ Wk es cs c p s0 g0 ys ∧ ys.Nodup := by
            rcases pathM_ok (cs := cs) (col := c) C.n9 C.len C.E hpea with z | ⟨z, _⟩
            · exact z
            · rw [hpm] at z; cases z
          obtain ⟨ys, hy1, hy2, hy3⟩ := hpw
          rw [hpm] at hy1
          cases hy1
          have same : ∀ i : Nat, ((i : Nat) : Int) ∈ xs → cs1[i]? = cs[i]? := fun i hi2 => Classical.byContradiction fun z => by
            obtain ⟨q, q1, q2⟩ := mv i z
            exact B.ns _ q q1 p p1 (by omega) c hc hpc xs hpm hi2
          have hW1 := hy2.congr same
          obtain ⟨i0, a0, b0, e0, d0⟩ := hW1.mem hxx
          have ei : i0 = x.toNat := by omega
          subst ei
          have hx1c : cs1[x.toNat]? = some (some c) := d0.2.1
          have hne : some col ≠ some c := fun z => hcc (by rw [hx1c, z])
          rw [old] at hx1c
          have hx1c' : cs1[x.toNat] = some c := Option.some.inj hx1c
          rw [hx1c']
          have cut := F.cut (o := some col) hW1 hy3 (x := x.toNat) (by rw [hxc]; exact hxx) he (by rw [old, hx1c']) hne
          have npx : p ≠ x := fun z => by rw [z] at p2; omega
          refine ih (L.idxOf p) (by omega) (x := p) (col := c) (cs1 := cs1.set x.toNat (some col)) (f := f) p1 (Nat.le_refl _) (by omega) (by rw [List.length_set]; exact hl) F2 (fun i hi2 => ?_) rg2 hc (fun a' b' e' => ?_) ?_ (fun i => ?_)
          · rw [get_setC hxl] at hi2
            by_cases e : i = x.toNat
            · exact ⟨p, by rw [e, hxc]; exact hcm, Nat.le_refl _⟩
            · rw [if_neg e] at hi2
              obtain ⟨q, q1, q2⟩ := mv i hi2
              exact ⟨q, q1, by omega⟩
          · rw [hpe] at e'
            cases e'
            exact cut
          · rw [get_setC hxl, if_neg (by omega)]
            have : cs1[p.toNat]? = cs[p.toNat]? := Classical.byContradiction fun z => by
              obtain ⟨q, q1, q2⟩ := mv p.toNat z
              rw [show ((p.toNat : Nat) : Int) = p by omega] at q1
              have := (B.par p q q1).2.1
              omega
            rw [this]
            exact hpc
          · rw [get_setC hxl]
            by_cases e : i = x.toNat
            · rw [if_pos e, ← nn i, e, old, hx1c']
              constructor <;> intro z <;> cases z
            · rw [if_neg e]
              exact nn i
def Clo (es : List (Int × Int)) (cs : List (Option Int)) (k : Nat) (D L : List Int) : Prop := ∀ y ∈ D, ∀ c ∈ ids k, cs[y.toNat]? ≠ some (some c) → ∃ xs, pathM es cs c y = some (some xs) ∧ ∀ z ∈ xs, z ∈ L
theorem BT.len (B : BT es cs k root L came) : L.length ≤ es.length := by
  have := nodup_le (l := L) (m := ids es.length) B.nd fun u hu => mem_ids.mpr (B.rg u hu)
  rw [ids_len] at this
  exact this
theorem before {D q : List Int} {cur y : Int} (hL : L = D ++ [cur] ++ q) (nd : L.Nodup) (hy : y ∈ L) (h : L.idxOf y < L.idxOf cur) : y ∈ D := by
  subst hL
  have hcD : ¬ cur ∈ D := fun z => by
    rw [List.append_assoc] at nd
    exact (List.nodup_append.mp nd).2.2 cur z cur (by simp) rfl
  by_cases hyD : y ∈ D
  · exact hyD
  · rw [List.append_assoc] at h
    have e1 : (D ++ ([cur] ++ q)).idxOf cur = D.length := by
      rw [List.idxOf_append, if_neg hcD]
      simp
    have e2 : D.length ≤ (D ++ ([cur] ++ q)).idxOf y := by
      rw [List.idxOf_append, if_neg hyD]
      omega
    omega
theorem path_rg {c p x : Int} {xs : List Int} (C : Ctx es cs k n) (hp : 0 ≤ p ∧ p < (es.length : Int)) (h : pathM es cs c p = some (some xs)) (hx : x ∈ xs) : 0 ≤ x ∧ x < (es.length : Int) := by
  obtain ⟨s, g, _, he⟩ := edge_nat hp
  rcases pathM_ok (cs := cs) (col := c) C.n9 C.len C.E he with ⟨ys, z1, z2, _⟩ | ⟨z, _⟩
  · rw [h] at z1
    cases z1
    obtain ⟨i, a, b, rfl, e, _⟩ := z2.mem hx
    have := (List.getElem?_eq_some_iff.mp e).1
    omega
  · rw [h] at z; cases z
theorem oscan_ok (C : Ctx es cs k n) {cur c : Int} {xs D : List Int} (hc : c ∈ ids k) (hcc : cs[cur.toNat]? ≠ some (some c)) (hp : pathM es cs c cur = some (some xs)) : ∀ {ys : List Int} {L q : List Int} {came : Cm}, (∀ z ∈ ys, z ∈ xs) → BT es cs k root L came → L = D ++ [cur] ++ q → Clo es cs k D L →
    ∃ came' L' q', oscan cur ys came L.length q = some (came', L'.length, q') ∧ BT es cs k root L' came' ∧ L' = D ++ [cur] ++ q' ∧ (∀ u ∈ L, u ∈ L') ∧ ∀ z ∈ ys, z ∈ L'
  | [], L, q, came, _, B, hL, _ => ⟨came, L, q, rfl, B, hL, fun u hu => hu, fun z hz => by cases hz⟩
  | y :: ys, L, q, came, hy, B, hL, hD => by
    have hcL : cur ∈ L := by rw [hL]; simp
    have hle := B.len
    have hm := C.m9
    unfold oscan
    by_cases hq : (came y).isSome = true
    · rw [if_pos hq]
      obtain ⟨came', L', q', r1, r2, r3, r4, r5⟩ := oscan_ok C hc hcc hp (ys := ys) (fun z hz => hy z (List.mem_cons_of_mem _ hz)) B hL hD
      refine ⟨came', L', q', r1, r2, r3, r4, fun z hz => ?_⟩
      rcases List.mem_cons.mp hz with e | e
      · rw [e]; exact r4 _ ((B.dom y).mp hq)
      · exact r5 z e
    · rw [if_neg hq, if_pos ⟨by omega, by rw [hL, List.length_append] at hle; omega⟩]
      have hyL : ¬ y ∈ L := fun z => hq ((B.dom y).mpr z)
      have hyx := hy y List.mem_cons_self
      have B' := B.add C hcL hyL hc hcc hp hyx (path_rg C (B.rg cur hcL) hp hyx) fun z hz hlt d hd hzc zs hzs w hw => by
        obtain ⟨ws, e1, e2⟩ := hD z (before hL B.nd hz hlt) d hd hzc
        rw [hzs] at e1
        cases e1
        exact e2 w hw
      obtain ⟨came', L', q', r1, r2, r3, r4, r5⟩ := oscan_ok C hc hcc hp (ys := ys) (L := L ++ [y]) (q := q ++ [y]) (fun z hz => hy z (List.mem_cons_of_mem _ hz)) B' (by rw [hL, List.append_assoc]) (fun z hz d hd hzc => by
        obtain ⟨ws, e1, e2⟩ := hD z hz d hd hzc
        exact ⟨ws, e1, fun w hw => List.mem_append_left _ (e2 w hw)⟩)
      rw [List.length_append, List.length_singleton] at r1
      refine ⟨came', L', q', r1, r2, r3, fun u hu => r4 u (List.mem_append_left _ hu), fun z hz => ?_⟩
      rcases List.mem_cons.mp hz with e | e
      · rw [e]; exact r4 _ (List.mem_append_right _ (List.mem_singleton.mpr rfl))
      · exact r5 z e
theorem cscan_ok (C : Ctx es cs k n) (hroot : cs[root.toNat]? = some none) {cur : Int} {cc : Option Int} {D : List Int} (hcur : cs[cur.toNat]? = some cc) : ∀ {cols : List Int} {L q : List Int} {came : Cm}, (∀ c ∈ cols, c ∈ ids k) → BT es cs k root L came → L = D ++ [cur] ++ q → Clo es cs k D L →
    (∃ came' L' q', cscan es cs cur cc cols came L.length q = some (.go came' L'.length q') ∧ BT es cs k root L' came' ∧ L' = D ++ [cur] ++ q' ∧ (∀ u ∈ L, u ∈ L') ∧ ∀ c ∈ cols, cc ≠ some c → ∃ xs, pathM es cs c cur = some (some xs) ∧ ∀ z ∈ xs, z ∈ L') ∨ (∃ cs', cscan es cs cur cc cols came L.length q = some (.done cs') ∧ Good es cs cs' k root)
  | [], L, q, came, _, B, hL, _ => .inl ⟨came, L, q, rfl, B, hL, fun u hu => hu, fun z hz => by cases hz⟩
  | c :: cols, L, q, came, hk, B, hL, hD => by
    have hcL : cur ∈ L := by rw [hL]; simp
    have hle := B.len
    have hm := C.m9
    have hc := hk c List.mem_cons_self
    unfold cscan
    by_cases hq : cc = some c
    · rw [if_pos hq]
      rcases cscan_ok C hroot hcur (cols := cols) (fun d hd => hk d (List.mem_cons_of_mem _ hd)) B hL hD with ⟨came', L', q', r1, r2, r3, r4, r5⟩ | r
      · refine .inl ⟨came', L', q', r1, r2, r3, r4, fun d hd hne => ?_⟩
        rcases List.mem_cons.mp hd with e | e
        · exact absurd (e ▸ hq) hne
        · exact r5 d e hne
      · exact .inr r
    · rw [if_neg hq]
      have hcc : cs[cur.toNat]? ≠ some (some c) := fun z => hq (Option.some.inj (hcur.symm.trans z))
      obtain ⟨s, g, he, hea⟩ := edge_nat (B.rg cur hcL)
      rcases pathM_ok (cs := cs) (col := c) C.n9 C.len C.E hea with ⟨xs, z1, z2, z3⟩ | ⟨z, L0, l1, l2, l3⟩
      · rw [z1]
        dsimp only
        obtain ⟨came1, L1, q1, r1, r2, r3, r4, r5⟩ := oscan_ok C hc hcc z1 (ys := xs) (fun z hz => hz) B hL hD
        rw [r1]
        dsimp only
        have hD1 : Clo es cs k D L1 := fun z hz d hd hzc => by
          obtain ⟨ws, e1, e2⟩ := hD z hz d hd hzc
          exact ⟨ws, e1, fun w hw => r4 _ (e2 w hw)⟩
        rcases cscan_ok C hroot hcur (cols := cols) (fun d hd => hk d (List.mem_cons_of_mem _ hd)) r2 r3 hD1 with ⟨came', L', q', t1, t2, t3, t4, t5⟩ | r
        · refine .inl ⟨came', L', q', t1, t2, t3, fun u hu => t4 u (r4 u hu), fun d hd hne => ?_⟩
          rcases List.mem_cons.mp hd with e | e
          · rw [e]
            exact ⟨xs, z1, fun w hw => t4 w (r5 w hw)⟩
          · exact t5 d e hne
        · exact .inr r
      · rw [z]
        dsimp only
        have hx := idx_lt (L := L) hcL
        obtain ⟨cs', e1, e2⟩ := rec_ok B C hroot (L.idxOf cur) (x := cur) (col := c) (cs1 := cs) (f := 100) hcL (Nat.le_refl _) (by omega) C.len C.fo (fun i hi => absurd rfl hi) C.rg hc (fun a b e => by
          rw [he] at e
          cases e
          exact shd_not l1 l2 l3) hcc (fun i => Iff.rfl)
        rw [e1]
        exact .inr ⟨cs', rfl, e2⟩
theorem insL_ok (C : Ctx es cs k n) (hroot : cs[root.toNat]? = some none) : ∀ {f : Nat} {L D q : List Int} {came : Cm}, BT es cs k root L came → L = D ++ q → Clo es cs k D L → es.length < f + D.length →
    (∃ cs', insL es k cs f came L.length q = some (cs', true) ∧ Good es cs cs' k root) ∨ (insL es k cs f came L.length q = some (cs, false) ∧ ∃ L' came', BT es cs k root L' came' ∧ Clo es cs k L' L')
  | 0, L, D, q, came, B, hL, hD, hf => by
    have := B.len
    rw [hL, List.length_append] at this
    omega
  | f + 1, L, D, [], came, B, hL, hD, hf => by
    rw [List.append_nil] at hL
    subst hL
    exact .inr ⟨rfl, L, came, B, hD⟩
  | f + 1, L, D, cur :: q, came, B, hL, hD, hf => by
    have hcL : cur ∈ L := by rw [hL]; simp
    have hrg := B.rg cur hcL
    have hcl : cur.toNat < cs.length := by rw [C.len]; omega
    have hcc : cs[cur.toNat]? = some cs[cur.toNat] := List.getElem?_eq_getElem hcl
    unfold insL
    rw [if_pos hrg.1, hcc]
    dsimp only
    rcases cscan_ok C hroot hcc (cols := ids k) (D := D) (q := q) (fun c hc => hc) B (by rw [hL, List.append_assoc]; rfl) hD with ⟨came', L', q', r1, r2, r3, r4, r5⟩ | ⟨cs', r1, r2⟩
    · rw [r1]
      dsimp only
      refine insL_ok C hroot (D := D ++ [cur]) r2 r3 (fun y hy d hd hyc => ?_) (by rw [List.length_append, List.length_singleton]; omega)
      rcases List.mem_append.mp hy with z | z
      · obtain ⟨ws, e1, e2⟩ := hD y z d hd hyc
        exact ⟨ws, e1, fun w hw => r4 _ (e2 w hw)⟩
      · rw [List.mem_singleton] at z
        subst z
        exact r5 d hd fun e => hyc (by rw [hcc, e])
    · rw [r1]
      exact .inl ⟨cs', rfl, r2⟩
/-- THE INSERTION: one more edge is colored, or there is a set that is shut -/
theorem insM_ok (C : Ctx es cs k n) {num : Int} (hr : 0 ≤ num ∧ num < (es.length : Int)) (hroot : cs[num.toNat]? = some none) :
    (∃ cs', insM es k cs num = some (cs', true) ∧ Good es cs cs' k num) ∨ (insM es k cs num = some (cs, false) ∧ ∃ L came, BT es cs k num L came ∧ Clo es cs k L L) := by
  have B0 : BT es cs k num [num] (came1 num) := by
    have c0 : ∀ x, came1 num x = if x = num then some none else none := fun x => rfl
    refine ⟨fun x => ?_, List.nodup_cons.mpr ⟨by simp, List.nodup_nil⟩, fun x hx => by rw [List.mem_singleton] at hx; rw [hx]; exact hr, List.mem_singleton.mpr rfl, by rw [c0, if_pos rfl], fun x e => ?_, fun x p e => ?_, fun x p e => ?_⟩
    · rw [c0, List.mem_singleton]
      by_cases q : x = num <;> simp [q]
    · rw [c0] at e
      split at e
      · assumption
      · cases e
    · rw [c0] at e
      split at e <;> cases e
    · rw [c0] at e
      split at e <;> cases e
  exact insL_ok C hroot (f := 100) (D := []) (q := [num]) B0 rfl (fun y hy => by cases hy) (by rw [List.length_nil]; have := C.m9; omega)
end
end Ip

set_option maxHeartbeats 4000000
namespace Ip
open PySem
/-! ### how many components -/
def mks (n : Nat) (E : List (Int × Int)) : List Int := E.foldl relab (ids n)
def comps (n : Nat) (E : List (Int × Int)) : Nat := (sortU (mks n E)).length
section
variable {n : Nat} {E : List (Int × Int)}
theorem mks_ok (ok : EsOk n E) : Low n E (mks n E) ∧ Flat E (mks n E) := relab_all ok (done := []) rfl (low_ids n E) fun p hp => by cases hp
theorem mks_con (ok : EsOk n E) {a b : Int} (ha : 0 ≤ a ∧ a < (n : Int)) (hb : 0 ≤ b ∧ b < (n : Int)) : mk (mks n E) a = mk (mks n E) b ↔ Con E a b := by
  obtain ⟨l, f⟩ := mks_ok ok
  constructor
  · intro h
    exact (l.con a ha.1 ha.2).symm.trans (by rw [h]; exact l.con b hb.1 hb.2)
  · exact f.con
theorem mem_mks (ok : EsOk n E) {x : Int} : x ∈ mks n E ↔ ∃ v, (0 ≤ v ∧ v < (n : Int)) ∧ mk (mks n E) v = x := by
  have hl := (mks_ok ok).1.len
  constructor
  · intro h
    obtain ⟨i, hi, e⟩ := List.mem_iff_getElem.mp h
    refine ⟨(i : Nat), by omega, ?_⟩
    unfold mk
    rw [Int.toNat_natCast, List.getD_eq_getElem?_getD, List.getElem?_eq_getElem hi, e]
    rfl
  · rintro ⟨v, hv, rfl⟩
    unfold mk
    rw [List.getD_eq_getElem?_getD, List.getElem?_eq_getElem (by omega)]
    exact List.getElem_mem _
theorem sortU_nodup (xs : List Int) : (sortU xs).Nodup := pw_nodup (sortU_lt xs)
theorem comps_snoc {p : Int × Int} (ok : EsOk n (E ++ [p])) : comps n (E ++ [p]) + (if mk (mks n E) p.1 = mk (mks n E) p.2 then 0 else 1) = comps n E := by
  have okE : EsOk n E := fun q hq => ok q (List.mem_append_left _ hq)
  have hp := ok p (List.mem_append_right _ (List.mem_singleton.mpr rfl))
  have e : mks n (E ++ [p]) = relab (mks n E) p := by unfold mks; rw [List.foldl_append]; rfl
  have m1 : mk (mks n E) p.1 ∈ mks n E := (mem_mks okE).mpr ⟨p.1, by omega, rfl⟩
  have m2 : mk (mks n E) p.2 ∈ mks n E := (mem_mks okE).mpr ⟨p.2, by omega, rfl⟩
  unfold comps
  rw [e]
  generalize mks n E = ms at *
  unfold relab
  by_cases q : mk ms p.1 = mk ms p.2
  · rw [if_pos q, Nat.add_zero]
    refine nodup_eq (sortU_nodup _) (sortU_nodup _) fun x => ?_
    rw [sortU_mem, sortU_mem, List.mem_map]
    rw [q]
    simp only [gt_iff_lt, Int.lt_irrefl, if_false]
    constructor
    · rintro ⟨m, hm, rfl⟩
      split
      · rename_i z; rw [← z]; exact hm
      · exact hm
    · intro hx
      refine ⟨x, hx, ?_⟩
      split
      · rename_i z; exact z.symm
      · rfl
  · rw [if_neg q]
    generalize hlo : (if mk ms p.2 < mk ms p.1 then mk ms p.2 else mk ms p.1) = lo
    generalize hhi : (if mk ms p.2 > mk ms p.1 then mk ms p.2 else mk ms p.1) = hi
    have ne : lo ≠ hi := by rw [← hlo, ← hhi]; split <;> split <;> omega
    have mlo : lo ∈ ms := by rw [← hlo]; split <;> assumption
    have mhi : hi ∈ ms := by rw [← hhi]; split <;> assumption
    have key : (sortU (ms.map fun m => if m = hi then lo else m)).length = ((sortU ms).erase hi).length := by
      refine nodup_eq (sortU_nodup _) ((sortU_nodup _).erase _) fun x => ?_
      rw [sortU_mem, List.mem_map, (sortU_nodup ms).mem_erase_iff, sortU_mem]
      constructor
      · rintro ⟨m, hm, rfl⟩
        split
        · exact ⟨ne, mlo⟩
        · rename_i z; exact ⟨z, hm⟩
      · rintro ⟨h1, h2⟩
        exact ⟨x, h2, by rw [if_neg h1]⟩
    have key2 := List.length_erase_of_mem (sortU_mem.mpr mhi)
    have pos : 0 < (sortU ms).length := List.length_pos_of_mem (sortU_mem.mpr mhi)
    omega
/-- a set within one component -/
theorem comps_le (ok : EsOk n E) {S : List Int} {u : Int} (hS : S.Nodup) (hr : ∀ v ∈ S, 0 ≤ v ∧ v < (n : Int)) (hc : ∀ v ∈ S, Con E u v) (hu : u ∈ S) : comps n E + S.length ≤ n + 1 := by
  have h1 : comps n E ≤ (mk (mks n E) u :: (((ids n).filter fun v => !S.contains v).map (mk (mks n E)))).length := nodup_le (sortU_nodup _) fun x hx => by
    obtain ⟨v, hv, rfl⟩ := (mem_mks ok).mp (sortU_mem.mp hx)
    by_cases q : v ∈ S
    · rw [(mks_con ok hv (hr u hu)).mpr (hc v q).symm]
      exact List.mem_cons_self
    · refine List.mem_cons_of_mem _ (List.mem_map.mpr ⟨v, List.mem_filter.mpr ⟨mem_ids.mpr hv, ?_⟩, rfl⟩)
      cases z : S.contains v with
      | false => rfl
      | true => exact absurd (List.contains_iff_mem.mp z) q
  rw [List.length_cons, List.length_map] at h1
  have h2 := split_len (p := S.contains) (L := ids n)
  rw [ids_len] at h2
  have h3 : ((ids n).filter S.contains).length = S.length := nodup_eq ((ids_nodup n).filter _) hS fun x => by
    rw [List.mem_filter, mem_ids, List.contains_iff_mem]
    exact ⟨fun z => z.2, fun z => ⟨hr x z, z⟩⟩
  omega
/-- edges within a set leave the others alone -/
theorem comps_ge (ok : EsOk n E) {S : List Int} {u : Int} (hS : S.Nodup) (hr : ∀ v ∈ S, 0 ≤ v ∧ v < (n : Int)) (hu : u ∈ S) (hE : ∀ p ∈ E, p.1 ∈ S ∧ p.2 ∈ S) : n + 1 ≤ comps n E + S.length := by
  have l := (mks_ok ok).1
  have out : ∀ v, ¬ v ∈ S → ∀ w, Con E v w → w = v := fun v hv w h => by
    cases h with
    | refl => rfl
    | edge hp _ => exact absurd (hE _ hp).1 hv
    | back hp _ => exact absurd (hE _ hp).2 hv
  have fix : ∀ v, 0 ≤ v ∧ v < (n : Int) → ¬ v ∈ S → mk (mks n E) v = v := fun v hv hn => out v hn _ (l.con v hv.1 hv.2).symm
  have inS : mk (mks n E) u ∈ S := by
    refine (con_leaves (S := fun v => v ∈ S) (l.con u (hr u hu).1 (hr u hu).2) fun p hp => ?_).mpr hu
    exact ⟨fun _ => (hE p hp).2, fun _ => (hE p hp).1⟩
  have h0 : ¬ mk (mks n E) u ∈ (ids n).filter fun v => !S.contains v := fun z => by
    have := (List.mem_filter.mp z).2
    rw [List.contains_iff_mem.mpr inS] at this
    cases this
  have h1 : (mk (mks n E) u :: (ids n).filter fun v => !S.contains v).length ≤ comps n E := nodup_le (List.nodup_cons.mpr ⟨h0, (ids_nodup n).filter _⟩) fun x hx => by
    rcases List.mem_cons.mp hx with e | e
    · rw [e]
      exact sortU_mem.mpr ((mem_mks ok).mpr ⟨u, hr u hu, rfl⟩)
    · obtain ⟨e1, e2⟩ := List.mem_filter.mp e
      have hn : ¬ x ∈ S := fun z => by rw [List.contains_iff_mem.mpr z] at e2; cases e2
      exact sortU_mem.mpr ((mem_mks ok).mpr ⟨x, mem_ids.mp e1, fix x (mem_ids.mp e1) hn⟩)
  rw [List.length_cons] at h1
  have h2 := split_len (p := S.contains) (L := ids n)
  rw [ids_len] at h2
  have h3 : ((ids n).filter S.contains).length = S.length := nodup_eq ((ids_nodup n).filter _) hS fun x => by
    rw [List.mem_filter, mem_ids, List.contains_iff_mem]
    exact ⟨fun z => z.2, fun z => ⟨hr x z, z⟩⟩
  omega
/-! ### forests -/
/-- each edge joins two components of those before it -/
def Fo (E : List (Int × Int)) : Prop := ∀ (j : Nat) (p : Int × Int), E[j]? = some p → ¬ Con (E.take j) p.1 p.2
theorem Fo.nil : Fo [] := fun j p h => by cases h
theorem Fo.snoc {p : Int × Int} : Fo (E ++ [p]) ↔ Fo E ∧ ¬ Con E p.1 p.2 := by
  constructor
  · intro h
    refine ⟨fun j q hq => ?_, ?_⟩
    · have hj := (List.getElem?_eq_some_iff.mp hq).1
      have := h j q (by rw [List.getElem?_append_left hj]; exact hq)
      rw [List.take_append_of_le_length (by omega)] at this
      exact this
    · have := h E.length p (by rw [List.getElem?_append_right (Nat.le_refl _), Nat.sub_self]; rfl)
      rw [List.take_append_of_le_length (Nat.le_refl _), List.take_length] at this
      exact this
  · rintro ⟨h1, h2⟩ j q hq
    by_cases hj : j < E.length
    · rw [List.getElem?_append_left hj] at hq
      rw [List.take_append_of_le_length (by omega)]
      exact h1 j q hq
    · have : j = E.length := by
        have := (List.getElem?_eq_some_iff.mp hq).1
        rw [List.length_append, List.length_singleton] at this
        omega
      subst this
      rw [List.getElem?_append_right (Nat.le_refl _), Nat.sub_self] at hq
      cases hq
      rw [List.take_append_of_le_length (Nat.le_refl _), List.take_length]
      exact h2
theorem comps_nil : comps n [] = n := by
  have : (sortU (ids n)).length = (ids n).length := nodup_eq (sortU_nodup _) (ids_nodup n) fun x => sortU_mem
  rw [ids_len] at this
  exact this
/-- THE COUNT: a forest has as many edges as it joins components -/
theorem comps_fo : ∀ {E : List (Int × Int)}, EsOk n E → n ≤ comps n E + E.length ∧ (Fo E ↔ comps n E + E.length = n) := by
  have key : ∀ (m : Nat) (E : List (Int × Int)), E.length = m → EsOk n E → n ≤ comps n E + E.length ∧ (Fo E ↔ comps n E + E.length = n) := by
    intro m
    induction m with
    | zero =>
      intro E hm ok
      have : E = [] := List.length_eq_zero_iff.mp hm
      subst this
      rw [comps_nil]
      exact ⟨by omega, ⟨fun _ => rfl, fun _ => Fo.nil⟩⟩
    | succ m ih =>
      intro E hm ok
      obtain ⟨E', p, rfl⟩ : ∃ E' p, E = E' ++ [p] := ⟨E.dropLast, E.getLast (by intro z; rw [z] at hm; cases hm), (List.dropLast_concat_getLast _).symm⟩
      have okE : EsOk n E' := fun q hq => ok q (List.mem_append_left _ hq)
      have hp := ok p (List.mem_append_right _ (List.mem_singleton.mpr rfl))
      rw [List.length_append, List.length_singleton] at hm ⊢
      obtain ⟨i1, i2⟩ := ih E' (by omega) okE
      have c := comps_snoc ok
      have mc := mks_con okE (a := p.1) (b := p.2) (by omega) (by omega)
      rw [Fo.snoc, i2]
      by_cases q : mk (mks n E') p.1 = mk (mks n E') p.2
      · rw [if_pos q] at c
        have := mc.mp q
        exact ⟨by omega, ⟨fun z => absurd this z.2, fun z => by omega⟩⟩
      · rw [if_neg q] at c
        have : ¬ Con E' p.1 p.2 := fun z => q (mc.mpr z)
        exact ⟨by omega, ⟨fun z => by omega, fun z => ⟨by omega, this⟩⟩⟩
  exact fun {E} ok => key E.length E rfl ok
end
end Ip

set_option maxHeartbeats 4000000
namespace Ip
open PySem
/-! ### colors and sets of nodes -/
def hasC (cs : List (Option Int)) (c x : Int) : Bool := decide (cs[x.toNat]? = some (some c))
theorem hasC_iff {cs : List (Option Int)} {c x : Int} : hasC cs c x = true ↔ cs[x.toNat]? = some (some c) := by unfold hasC; exact decide_eq_true_iff
/-- colored with one of the first colors -/
def hasL (cs : List (Option Int)) (k : Nat) (x : Int) : Bool := (ids k).any fun c => hasC cs c x
theorem ids_snoc {j : Nat} : ids (j + 1) = ids j ++ [((j : Nat) : Int)] := by
  unfold ids
  rw [List.range_succ, List.map_append]
  rfl
theorem sumN_snoc {f : Int → Int} {L : List Int} {a : Int} : sumN f (L ++ [a]) = sumN f L + f a := by
  unfold sumN
  rw [List.map_append, List.sum_append]
  simp
theorem sum_cols {cs : List (Option Int)} {P : Int → Bool} {L : List Int} : ∀ k : Nat, sumN (fun c => ((L.filter fun x => hasC cs c x && P x).length : Nat)) (ids k) = ((L.filter fun x => hasL cs k x && P x).length : Nat)
  | 0 => by
    have : (L.filter fun x => hasL cs 0 x && P x) = [] := by
      rw [List.filter_eq_nil_iff]
      intro x _ z
      have : hasL cs 0 x = false := rfl
      rw [this] at z
      cases z
    rw [this]
    rfl
  | k + 1 => by
    rw [ids_snoc, sumN_snoc, sum_cols k]
    have e : (L.filter fun x => hasL cs (k + 1) x && P x) = L.filter fun x => (hasL cs k x && P x) || (hasC cs ((k : Nat) : Int) x && P x) := List.filter_congr fun x _ => by
      unfold hasL
      rw [ids_snoc, List.any_append, List.any_cons, List.any_nil, Bool.or_false, Bool.and_or_distrib_right]
    rw [e, ← filter_or (fun x _ hx => ?_)]
    · omega
    · rw [Bool.and_eq_true] at hx
      cases q : hasC cs ((k : Nat) : Int) x with
      | false => rfl
      | true =>
        have h1 := hasC_iff.mp q
        obtain ⟨c, hc, h2⟩ := List.any_eq_true.mp hx.1
        have h2 := hasC_iff.mp h2
        rw [h1] at h2
        cases h2
        have := mem_ids.mp hc
        omega
section
variable {es : List (Int × Int)} {cs : List (Option Int)} {k n : Nat}
theorem nodup_at {J : List Int} (h : J.Nodup) {i j : Nat} {x : Int} (h1 : J[i]? = some x) (h2 : J[j]? = some x) : i = j := by
  obtain ⟨a1, a2⟩ := List.getElem?_eq_some_iff.mp h1
  obtain ⟨b1, b2⟩ := List.getElem?_eq_some_iff.mp h2
  exact (List.getElem_inj h).mp (a2.trans b2.symm)
theorem edgeOf_nat {x : Int} {a b : Int} (h0 : 0 ≤ x) (h : es[x.toNat]? = some (a, b)) : edgeOf es x = (a, b) := by
  obtain ⟨i, rfl⟩ : ∃ i : Nat, x = i := ⟨x.toNat, by omega⟩
  rw [Int.toNat_natCast] at h
  unfold edgeOf
  rw [edgeAt_nat, h]
  rfl
/-- edges of one color form a forest, in any order -/
theorem fo_color (F : FoC es cs) {J : List Int} {c : Int} (nd : J.Nodup) (hJ : ∀ x ∈ J, (0 ≤ x ∧ x < (es.length : Int)) ∧ cs[x.toNat]? = some (some c)) : Fo (J.map (edgeOf es)) := by
  intro j p hp z
  rw [List.getElem?_map] at hp
  obtain ⟨x, hx, rfl⟩ := Option.map_eq_some_iff.mp hp
  obtain ⟨⟨x0, x1⟩, xc⟩ := hJ x (List.mem_of_getElem? hx)
  obtain ⟨a, b, he, _⟩ := edge_nat (es := es) ⟨x0, x1⟩
  rw [edgeOf_nat x0 he] at z
  refine F x.toNat a b c he xc (z.mono fun q hq => ?_)
  rw [← List.map_take] at hq
  obtain ⟨y, hy, rfl⟩ := List.mem_map.mp hq
  obtain ⟨⟨y0, y1⟩, yc⟩ := hJ y (List.mem_of_mem_take hy)
  obtain ⟨a', b', he', _⟩ := edge_nat (es := es) ⟨y0, y1⟩
  rw [edgeOf_nat y0 he']
  refine mem_ce.mpr ⟨y.toNat, he', yc, fun e => ?_⟩
  have : y = x := by omega
  subst this
  obtain ⟨i, hi⟩ := List.getElem?_of_mem hy
  have hij : i < j := by
    have := (List.getElem?_eq_some_iff.mp hi).1
    rw [List.length_take] at this
    omega
  rw [List.getElem?_take_of_lt hij] at hi
  have := nodup_at nd hi hx
  omega
/-- the colored edges within a set -/
theorem col_bound (C : Ctx es cs k n) {S : List Int} (hS : S ∈ nsets n 1) : ((((ids es.length).filter fun x => hasL cs k x && inS es S x).length : Nat) : Int) ≤ (k : Int) * ((S.length : Int) - 1) := by
  obtain ⟨s1, s2, s3⟩ := mem_nsets.mp hS
  have hu : ∃ u, u ∈ S := List.exists_mem_of_length_pos (by omega)
  obtain ⟨u, hu⟩ := hu
  rw [← sum_cols k]
  have bound : ∀ c ∈ ids k, (((ids es.length).filter fun x => hasC cs c x && inS es S x).length : Int) ≤ (S.length : Int) - 1 := fun c _ => by
    have hJ : ∀ x ∈ (ids es.length).filter fun x => hasC cs c x && inS es S x, ((0 ≤ x ∧ x < (es.length : Int)) ∧ cs[x.toNat]? = some (some c)) ∧ inS es S x = true := fun x hx => by
      obtain ⟨h1, h2⟩ := List.mem_filter.mp hx
      rw [Bool.and_eq_true] at h2
      exact ⟨⟨mem_ids.mp h1, hasC_iff.mp h2.1⟩, h2.2⟩
    have nd : ((ids es.length).filter fun x => hasC cs c x && inS es S x).Nodup := (ids_nodup _).filter _
    generalize (ids es.length).filter (fun x => hasC cs c x && inS es S x) = J at *
    have fo := fo_color C.fo nd fun x hx => (hJ x hx).1
    have inE : ∀ p ∈ J.map (edgeOf es), p ∈ es ∧ p.1 ∈ S ∧ p.2 ∈ S := fun p hp => by
      obtain ⟨x, hx, rfl⟩ := List.mem_map.mp hp
      obtain ⟨⟨hr, _⟩, hi⟩ := hJ x hx
      obtain ⟨a, b, he, _⟩ := edge_nat (es := es) hr
      unfold inS at hi
      rw [Bool.and_eq_true, List.contains_iff_mem, List.contains_iff_mem] at hi
      exact ⟨by rw [edgeOf_nat hr.1 he]; exact List.mem_of_getElem? he, hi⟩
    have ok : EsOk n (J.map (edgeOf es)) := fun p hp => C.E p (inE p hp).1
    have c1 := (comps_fo ok).2.mp fo
    have c2 := comps_ge ok (pw_nodup s1) s2 hu fun p hp => (inE p hp).2
    rw [List.length_map] at c1
    omega
  have : ∀ cl : List Int, (∀ c ∈ cl, (((ids es.length).filter fun x => hasC cs c x && inS es S x).length : Int) ≤ (S.length : Int) - 1) → sumN (fun c => (((ids es.length).filter fun x => hasC cs c x && inS es S x).length : Nat)) cl ≤ (cl.length : Int) * ((S.length : Int) - 1) := by
    intro cl
    induction cl with
    | nil => intro _; show (0 : Int) ≤ _; simp
    | cons c cl ih =>
      intro h
      rw [sumN_cons, List.length_cons, Int.natCast_add, Int.add_mul]
      have := h c List.mem_cons_self
      have := ih fun d hd => h d (List.mem_cons_of_mem _ hd)
      omega
  have := this (ids k) bound
  rw [ids_len] at this
  exact this
/-- ALL COLORED: no set has too many edges -/
theorem no_dense (C : Ctx es cs k n) (all : ∀ i : Nat, i < es.length → cs[i]? ≠ some none) {S : List Int} (hS : S ∈ nsets n 1) : ((insd es S : Nat) : Int) ≤ (k : Int) * ((S.length : Int) - 1) := by
  have e1 : insd es S = ((ids es.length).filter (inS es S)).length := by
    have := insd_inS (es := es) (A := ids es.length) (ks := S)
    rw [eds_ids] at this
    exact this
  have e2 : ((ids es.length).filter (inS es S)).length = ((ids es.length).filter fun x => hasL cs k x && inS es S x).length := by
    congr 1
    refine List.filter_congr fun x hx => ?_
    have hx := mem_ids.mp hx
    have hl : x.toNat < cs.length := by rw [C.len]; omega
    have : hasL cs k x = true := by
      cases q : cs[x.toNat]? with
      | none => rw [List.getElem?_eq_getElem hl] at q; cases q
      | some o =>
        cases o with
        | none => exact absurd q (all x.toNat (by omega))
        | some c => exact List.any_eq_true.mpr ⟨c, C.rg _ _ q, hasC_iff.mpr q⟩
    rw [this, Bool.true_and]
  rw [e1, e2]
  exact col_bound C hS
theorem con_sub {E F : List (Int × Int)} (h : ∀ p ∈ E, Con F p.1 p.2) {a b : Int} (c : Con E a b) : Con F a b := by
  induction c with
  | refl v => exact .refl v
  | edge hp _ ih => exact (h _ hp).trans ih
  | back hp _ ih => exact (h _ hp).symm.trans ih
theorem con_in {E : List (Int × Int)} {S : List Int} (h : ∀ p ∈ E, (p.1 ∈ S ↔ p.2 ∈ S)) {a b : Int} (c : Con E a b) : a ∈ S → Con (E.filter fun p => S.contains p.1 && S.contains p.2) a b := by
  induction c with
  | refl v => exact fun _ => .refl v
  | @edge p v hp _ ih =>
    intro ha
    have hb := (h p hp).mp ha
    exact .edge (List.mem_filter.mpr ⟨hp, by rw [List.contains_iff_mem.mpr ha, List.contains_iff_mem.mpr hb]; rfl⟩) (ih hb)
  | @back p v hp _ ih =>
    intro hb
    have ha := (h p hp).mpr hb
    exact .back (List.mem_filter.mpr ⟨hp, by rw [List.contains_iff_mem.mpr ha, List.contains_iff_mem.mpr hb]; rfl⟩) (ih ha)
theorem Wk.conL {c y s u : Int} {xs : List Int} (h : Wk es cs c y s u xs) {F : List (Int × Int)} (hF : ∀ (i : Nat) (a b : Int), ((i : Nat) : Int) ∈ xs → EdC es cs c y i a b → (a, b) ∈ F) : Con F s u := by
  induction h with
  | nil => exact .refl _
  | @snoc u a b xs i h hc hu ih => exact (ih fun j a b hj => hF j a b (List.mem_append_left _ hj)).trans (con_step (hF i a b (List.mem_append_right _ (List.mem_singleton.mpr rfl)) hc) hu)
/-- SHUT: a set full of colored edges -/
theorem shutF (C : Ctx es cs k n) {root : Int} {L : List Int} {came : Cm} (B : BT es cs k root L came) (hroot : cs[root.toNat]? = some none) (cl : Clo es cs k L L) : ∃ S ∈ nsets n 2, inS es S root = true ∧ (k : Int) * ((S.length : Int) - 1) ≤ (((ids es.length).filter fun x => hasL cs k x && inS es S x).length : Nat) := by
  have eL : ∀ x ∈ L, ∃ a b, es[x.toNat]? = some (a, b) ∧ edgeAt es x = some (a, b) ∧ edgeOf es x = (a, b) := fun x hx => by
    obtain ⟨a, b, h1, h2⟩ := edge_nat (es := es) (B.rg x hx)
    exact ⟨a, b, h1, h2, edgeOf_nat (B.rg x hx).1 h1⟩
  have okL : EsOk n (L.map (edgeOf es)) := fun p hp => by
    obtain ⟨x, hx, rfl⟩ := List.mem_map.mp hp
    obtain ⟨a, b, h1, _, h3⟩ := eL x hx
    rw [h3]
    exact C.E _ (List.mem_of_getElem? h1)
  obtain ⟨u, v, hr1, hr2, hr3⟩ := eL root B.rt
  have Er := C.E _ (List.mem_of_getElem? hr1)
  dsimp only at Er
  have flat := (mks_ok okL).2
  let S := ofP n fun w => decide (mk (mks n (L.map (edgeOf es))) w = mk (mks n (L.map (edgeOf es))) u)
  have mS : ∀ w, w ∈ S ↔ (0 ≤ w ∧ w < (n : Int)) ∧ mk (mks n (L.map (edgeOf es))) w = mk (mks n (L.map (edgeOf es))) u := fun w => by
    show w ∈ ofP n _ ↔ _
    rw [mem_ofP, decide_eq_true_iff]
  have uS : u ∈ S := (mS u).mpr ⟨by omega, rfl⟩
  have rE : (u, v) ∈ L.map (edgeOf es) := by rw [← hr3]; exact List.mem_map.mpr ⟨root, B.rt, rfl⟩
  have vS : v ∈ S := (mS v).mpr ⟨by omega, (flat (u, v) rE).symm⟩
  have closed : ∀ p ∈ L.map (edgeOf es), (p.1 ∈ S ↔ p.2 ∈ S) := fun p hp => by
    have h1 := flat p hp
    have h2 := okL p hp
    rw [mS, mS, h1]
    exact ⟨fun z => ⟨by omega, z.2⟩, fun z => ⟨by omega, z.2⟩⟩
  have sN : S ∈ nsets n 2 := ofP_sets (by
    have : 2 ≤ S.length := nodup_le (l := [u, v]) (List.nodup_cons.mpr ⟨by rw [List.mem_singleton]; omega, List.nodup_cons.mpr ⟨by simp, List.nodup_nil⟩⟩) fun w hw => by
      simp at hw
      rcases hw with rfl | rfl
      · exact uS
      · exact vS
    show (2 : Int) ≤ S.length
    omega)
  obtain ⟨s1, s2, s3⟩ := mem_nsets.mp sN
  have conS : ∀ w ∈ S, Con (L.map (edgeOf es)) u w := fun w hw => by
    obtain ⟨w1, w2⟩ := (mS w).mp hw
    exact (mks_con okL (by omega) w1).mp w2.symm
  refine ⟨S, sN, by
    unfold inS
    rw [hr3, List.contains_iff_mem.mpr uS, List.contains_iff_mem.mpr vS]
    rfl, ?_⟩
  have bound : ∀ c ∈ ids k, (S.length : Int) - 1 ≤ ((L.filter fun x => hasC cs c x && inS es S x).length : Nat) := fun c hc => by
    have ends : ∀ p ∈ L.map (edgeOf es), Con ((L.filter (hasC cs c)).map (edgeOf es)) p.1 p.2 := fun p hp => by
      obtain ⟨y, hy, rfl⟩ := List.mem_map.mp hp
      obtain ⟨a, b, h1, h2, h3⟩ := eL y hy
      by_cases q : cs[y.toNat]? = some (some c)
      · exact .edge (List.mem_map.mpr ⟨y, List.mem_filter.mpr ⟨hy, hasC_iff.mpr q⟩, rfl⟩) (.refl _)
      · obtain ⟨xs, e1, e2⟩ := cl y hy c hc q
        rcases pathM_ok (cs := cs) (col := c) C.n9 C.len C.E h2 with ⟨ys, z1, z2, _⟩ | ⟨z, _⟩
        · rw [e1] at z1
          cases z1
          rw [h3]
          refine z2.conL fun i a' b' hi hd => ?_
          have hiL := e2 _ hi
          refine List.mem_map.mpr ⟨((i : Nat) : Int), List.mem_filter.mpr ⟨hiL, hasC_iff.mpr (by rw [Int.toNat_natCast]; exact hd.2.1)⟩, ?_⟩
          exact edgeOf_nat (by omega) (by rw [Int.toNat_natCast]; exact hd.1)
        · rw [e1] at z; cases z
    have sub : ∀ p ∈ (L.filter (hasC cs c)).map (edgeOf es), p ∈ L.map (edgeOf es) := fun p hp => by
      obtain ⟨y, hy, rfl⟩ := List.mem_map.mp hp
      exact List.mem_map.mpr ⟨y, (List.mem_filter.mp hy).1, rfl⟩
    have con2 : ∀ w ∈ S, Con (((L.filter (hasC cs c)).map (edgeOf es)).filter fun p => S.contains p.1 && S.contains p.2) u w := fun w hw => con_in (fun p hp => closed p (sub p hp)) (con_sub ends (conS w hw)) uS
    have ok2 : EsOk n (((L.filter (hasC cs c)).map (edgeOf es)).filter fun p => S.contains p.1 && S.contains p.2) := fun p hp => okL p (sub p (List.mem_filter.mp hp).1)
    have c1 := comps_le ok2 (pw_nodup s1) s2 con2 uS
    have c2 := (comps_fo ok2).1
    have c3 : (((L.filter (hasC cs c)).map (edgeOf es)).filter fun p => S.contains p.1 && S.contains p.2).length = (L.filter fun x => hasC cs c x && inS es S x).length := by
      rw [List.filter_map, List.length_map, List.filter_filter]
      congr 1
      refine List.filter_congr fun x _ => ?_
      rw [Bool.and_comm]
      rfl
    omega
  have sumB : ∀ cl : List Int, (∀ c ∈ cl, (S.length : Int) - 1 ≤ ((L.filter fun x => hasC cs c x && inS es S x).length : Nat)) → (cl.length : Int) * ((S.length : Int) - 1) ≤ sumN (fun c => ((L.filter fun x => hasC cs c x && inS es S x).length : Nat)) cl := by
    intro cl
    induction cl with
    | nil => intro _; show _ ≤ (0 : Int); simp
    | cons c cl ih =>
      intro h
      rw [sumN_cons, List.length_cons, Int.natCast_add, Int.add_mul]
      have := h c List.mem_cons_self
      have := ih fun d hd => h d (List.mem_cons_of_mem _ hd)
      omega
  have t1 := sumB (ids k) bound
  rw [ids_len, sum_cols k] at t1
  have t2 : (L.filter fun x => hasL cs k x && inS es S x).length ≤ ((ids es.length).filter fun x => hasL cs k x && inS es S x).length :=
    nodup_le (B.nd.filter _) fun x hx => by
      obtain ⟨e1, e2⟩ := List.mem_filter.mp hx
      exact List.mem_filter.mpr ⟨mem_ids.mpr (B.rg x e1), e2⟩
  omega
/-- an edge without color in a full set: too many edges -/
theorem full_dense {root : Int} (hr : 0 ≤ root ∧ root < (es.length : Int)) (hroot : cs[root.toNat]? = some none) {S : List Int} (hi : inS es S root = true) (h : (k : Int) * ((S.length : Int) - 1) ≤ (((ids es.length).filter fun x => hasL cs k x && inS es S x).length : Nat)) : (k : Int) * ((S.length : Int) - 1) < (insd es S : Nat) := by
  have t2 : (root :: (ids es.length).filter fun x => hasL cs k x && inS es S x).length ≤ ((ids es.length).filter (inS es S)).length := by
    refine nodup_le (List.nodup_cons.mpr ⟨fun z => ?_, (ids_nodup _).filter _⟩) fun x hx => ?_
    · have := (List.mem_filter.mp z).2
      rw [Bool.and_eq_true] at this
      obtain ⟨c, _, hc⟩ := List.any_eq_true.mp this.1
      rw [hasC_iff, hroot] at hc
      cases hc
    · rcases List.mem_cons.mp hx with e | e
      · rw [e]
        exact List.mem_filter.mpr ⟨mem_ids.mpr hr, hi⟩
      · obtain ⟨e1, e2⟩ := List.mem_filter.mp e
        rw [Bool.and_eq_true] at e2
        exact List.mem_filter.mpr ⟨e1, e2.2⟩
  have e1 : insd es S = ((ids es.length).filter (inS es S)).length := by
    have := insd_inS (es := es) (A := ids es.length) (ks := S)
    rw [eds_ids] at this
    exact this
  rw [List.length_cons] at t2
  omega
/-- full at a coloring -/
def Full (es : List (Int × Int)) (cs : List (Option Int)) (k n : Nat) (x : Nat) : Prop := ∃ S ∈ nsets n 2, inS es S ((x : Nat) : Int) = true ∧ (k : Int) * ((S.length : Int) - 1) ≤ (((ids es.length).filter fun x => hasL cs k x && inS es S x).length : Nat)
theorem hasL_iff (hrg : ∀ (i : Nat) (c : Int), cs[i]? = some (some c) → c ∈ ids k) {x : Int} : hasL cs k x = true ↔ ∃ c, cs[x.toNat]? = some (some c) := by
  constructor
  · intro h
    obtain ⟨c, _, h⟩ := List.any_eq_true.mp h
    exact ⟨c, hasC_iff.mp h⟩
  · rintro ⟨c, h⟩
    exact List.any_eq_true.mpr ⟨c, hrg _ _ h, hasC_iff.mpr h⟩
theorem Good.full {cs' : List (Option Int)} {root : Int} (C : Ctx es cs k n) (g : Good es cs cs' k root) {x : Nat} (h : Full es cs k n x) : Full es cs' k n x := by
  obtain ⟨S, h1, h2, h3⟩ := h
  refine ⟨S, h1, h2, Int.le_trans h3 (Int.ofNat_le.mpr ?_)⟩
  refine nodup_le ((ids_nodup _).filter _) fun y hy => ?_
  obtain ⟨y1, y2⟩ := List.mem_filter.mp hy
  rw [Bool.and_eq_true] at y2
  refine List.mem_filter.mpr ⟨y1, ?_⟩
  rw [Bool.and_eq_true]
  refine ⟨?_, y2.2⟩
  obtain ⟨c, hc⟩ := (hasL_iff C.rg).mp y2.1
  have hy := mem_ids.mp y1
  refine (hasL_iff g.rg).mpr ?_
  have hl : y.toNat < cs'.length := by rw [g.len]; omega
  cases q : cs'[y.toNat]? with
  | none => rw [List.getElem?_eq_getElem hl] at q; cases q
  | some o =>
    cases o with
    | some d => exact ⟨d, rfl⟩
    | none =>
      have := ((g.no _).mp q).1
      rw [hc] at this
      cases this
/-! ### all edges, one by one -/
theorem colL_ok (n9 : n ≤ 90) (m9 : es.length ≤ 90) (E : ∀ p ∈ es, 0 ≤ p.1 ∧ p.1 < p.2 ∧ p.2 < (n : Int)) : ∀ (j i : Nat) {cs : List (Option Int)}, es.length = i + j → Ctx es cs k n → (∀ x : Nat, i ≤ x → x < es.length → cs[x]? = some none) → (∀ x : Nat, x < i → cs[x]? = some none → Full es cs k n x) →
    ∃ cs', colL es k ((ids es.length).drop i) cs = some cs' ∧ Ctx es cs' k n ∧ ∀ x : Nat, cs'[x]? = some none → Full es cs' k n x
  | 0, i, cs, hj, C, hn, hd => by
    rw [List.drop_eq_nil_of_le (by rw [ids_len]; omega)]
    refine ⟨cs, rfl, C, fun x hx => hd x ?_ hx⟩
    have := (List.getElem?_eq_some_iff.mp hx).1
    rw [C.len] at this
    omega
  | j + 1, i, cs, hj, C, hn, hd => by
    have hil : i < (ids es.length).length := by rw [ids_len]; omega
    have hgi : (ids es.length)[i] = ((i : Nat) : Int) := by
      have : (ids es.length)[i]? = some ((i : Nat) : Int) := by unfold ids; rw [List.getElem?_map, List.getElem?_range (by omega)]; rfl
      rw [List.getElem?_eq_getElem hil] at this
      exact Option.some.inj this
    rw [List.drop_eq_getElem_cons hil, hgi]
    unfold colL
    have hr := hn i (Nat.le_refl _) (by omega)
    rcases insM_ok C (num := ((i : Nat) : Int)) (by omega) (by rw [Int.toNat_natCast]; exact hr) with ⟨cs', r1, r2⟩ | ⟨r1, L, came, r2, r3⟩
    · rw [r1]
      dsimp only
      refine colL_ok n9 m9 E j (i + 1) (by omega) ⟨n9, m9, r2.len, E, r2.fo, r2.rg⟩ (fun x h1 h2 => (r2.no x).mpr ⟨hn x (by omega) h2, by omega⟩) (fun x h1 h2 => ?_)
      obtain ⟨z1, z2⟩ := (r2.no x).mp h2
      exact r2.full C (hd x (by omega) z1)
    · rw [r1]
      dsimp only
      refine colL_ok n9 m9 E j (i + 1) (by omega) C (fun x h1 h2 => hn x (by omega) h2) (fun x h1 h2 => ?_)
      by_cases e : x = i
      · subst e
        exact shutF C r2 (by rw [Int.toNat_natCast]; exact hr) r3
      · exact hd x (by omega) h2
/-- THE COLORING -/
theorem colM_full (n9 : n ≤ 90) (m9 : es.length ≤ 90) (E : ∀ p ∈ es, 0 ≤ p.1 ∧ p.1 < p.2 ∧ p.2 < (n : Int)) : ∃ cs', colM es k = some cs' ∧ Ctx es cs' k n ∧ ∀ x : Nat, cs'[x]? = some none → Full es cs' k n x := by
  have rep : ∀ (x : Nat) (o : Option Int), (List.replicate es.length (none : Option Int))[x]? = some o → o = none := fun x o h => by
    rw [List.getElem?_replicate] at h
    split at h
    · exact (Option.some.inj h).symm
    · cases h
  have := colL_ok (k := k) n9 m9 E es.length 0 (cs := List.replicate es.length none) (by omega) ⟨n9, m9, List.length_replicate, E, fun i a b c h1 h2 => (by have := rep _ _ h2; cases this), fun i c h => (by have := rep _ _ h; cases this)⟩ (fun x h1 h2 => by rw [List.getElem?_replicate, if_pos h2]) (fun x h => by omega)
  rw [List.drop_zero] at this
  exact this
theorem colM_ok (n9 : n ≤ 90) (m9 : es.length ≤ 90) (E : ∀ p ∈ es, 0 ≤ p.1 ∧ p.1 < p.2 ∧ p.2 < (n : Int)) : ∃ cs', colM es k = some cs' ∧ Ctx es cs' k n ∧ ∀ x : Nat, cs'[x]? = some none → ∃ S ∈ nsets n 2, (k : Int) * ((S.length : Int) - 1) < (insd es S : Nat) := by
  obtain ⟨cs', h1, h2, h3⟩ := colM_full (k := k) n9 m9 E
  refine ⟨cs', h1, h2, fun x hx => ?_⟩
  obtain ⟨S, s1, s2, s3⟩ := h3 x hx
  have := (List.getElem?_eq_some_iff.mp hx).1
  rw [h2.len] at this
  exact ⟨S, s1, full_dense (root := ((x : Nat) : Int)) (by omega) (by rw [Int.toNat_natCast]; exact hx) s2 s3⟩
end
end Ip

set_option maxHeartbeats 4000000
namespace Ip
open PySem
/-! ### partitions of the nodes -/
def grow (v : Int) (one : List (List Int)) : List (List (List Int)) := (List.range one.length).map (fun p => one.take p ++ [one.getD p [] ++ [v]] ++ one.drop (p + 1)) ++ [one ++ [[v]]]
def parts : Nat → List (List (List Int))
  | 0 => [[]]
  | n + 1 => (parts n).flatMap (grow (n : Nat))
structure PartOk (n : Nat) (P : List (List Int)) : Prop where
  sub : ∀ S ∈ P, S ∈ nsets n 1
  dis : P.Pairwise fun S T => ∀ v : Int, v ∈ S → ¬ v ∈ T
  cov : ∀ v : Int, 0 ≤ v ∧ v < (n : Int) → ∃ S ∈ P, v ∈ S
section
variable {n : Nat} {A B P : List (List Int)} {S : List Int}
theorem nsets_up {least : Int} (h : S ∈ nsets n least) : S ∈ nsets (n + 1) least := by
  obtain ⟨h1, h2, h3⟩ := mem_nsets.mp h
  exact mem_nsets.mpr ⟨h1, fun x hx => by have := h2 x hx; omega, h3⟩
theorem nsets_no {least : Int} (h : S ∈ nsets n least) : ¬ ((n : Nat) : Int) ∈ S := fun z => by
  have := (mem_nsets.mp h).2.1 _ z
  omega
theorem nsets_add {least : Int} (h : S ∈ nsets n least) : S ++ [((n : Nat) : Int)] ∈ nsets (n + 1) least := by
  obtain ⟨h1, h2, h3⟩ := mem_nsets.mp h
  refine mem_nsets.mpr ⟨List.pairwise_append.mpr ⟨h1, List.pairwise_singleton .., fun a ha b hb => ?_⟩, fun x hx => ?_, by rw [List.length_append]; simp; omega⟩
  · rw [List.mem_singleton] at hb
    have := h2 a ha
    omega
  · rcases List.mem_append.mp hx with z | z
    · have := h2 x z; omega
    · rw [List.mem_singleton] at z; omega
theorem PartOk.add (h : PartOk n (A ++ S :: B)) : PartOk (n + 1) (A ++ (S ++ [((n : Nat) : Int)]) :: B) := by
  obtain ⟨h1, h2, h3⟩ := h
  rw [List.pairwise_append, List.pairwise_cons] at h2
  obtain ⟨d1, ⟨d2, d3⟩, d4⟩ := h2
  refine ⟨fun T hT => ?_, ?_, fun v hv => ?_⟩
  · rcases List.mem_append.mp hT with z | z
    · exact nsets_up (h1 T (List.mem_append_left _ z))
    · rcases List.mem_cons.mp z with z | z
      · rw [z]
        exact nsets_add (h1 S (List.mem_append_right _ List.mem_cons_self))
      · exact nsets_up (h1 T (List.mem_append_right _ (List.mem_cons_of_mem _ z)))
  · rw [List.pairwise_append, List.pairwise_cons]
    refine ⟨d1, ⟨fun T hT v hv => ?_, d3⟩, fun T hT U hU v hv z => ?_⟩
    · rcases List.mem_append.mp hv with z | z
      · exact d2 T hT v z
      · rw [List.mem_singleton] at z
        rw [z]
        exact nsets_no (h1 T (List.mem_append_right _ (List.mem_cons_of_mem _ hT)))
    · rcases List.mem_cons.mp hU with w | w
      · rw [w] at z
        rcases List.mem_append.mp z with y | y
        · exact d4 T hT S List.mem_cons_self v hv y
        · rw [List.mem_singleton] at y
          rw [y] at hv
          exact nsets_no (h1 T (List.mem_append_left _ hT)) hv
      · exact d4 T hT U (List.mem_cons_of_mem _ w) v hv z
  · by_cases q : v = (n : Nat)
    · exact ⟨S ++ [((n : Nat) : Int)], List.mem_append_right _ List.mem_cons_self, by rw [q]; simp⟩
    · obtain ⟨T, hT, hv⟩ := h3 v (by omega)
      rcases List.mem_append.mp hT with z | z
      · exact ⟨T, List.mem_append_left _ z, hv⟩
      · rcases List.mem_cons.mp z with z | z
        · exact ⟨S ++ [((n : Nat) : Int)], List.mem_append_right _ List.mem_cons_self, by rw [← z]; exact List.mem_append_left _ hv⟩
        · exact ⟨T, List.mem_append_right _ (List.mem_cons_of_mem _ z), hv⟩
theorem PartOk.new (h : PartOk n P) : PartOk (n + 1) (P ++ [[((n : Nat) : Int)]]) := by
  obtain ⟨h1, h2, h3⟩ := h
  refine ⟨fun T hT => ?_, ?_, fun v hv => ?_⟩
  · rcases List.mem_append.mp hT with z | z
    · exact nsets_up (h1 T z)
    · rw [List.mem_singleton] at z
      rw [z]
      refine mem_nsets.mpr ⟨List.pairwise_singleton .., fun x hx => ?_, by simp⟩
      rw [List.mem_singleton] at hx
      omega
  · rw [List.pairwise_append]
    refine ⟨h2, List.pairwise_singleton .., fun T hT U hU v hv z => ?_⟩
    rw [List.mem_singleton] at hU
    rw [hU, List.mem_singleton] at z
    rw [z] at hv
    exact nsets_no (h1 T hT) hv
  · by_cases q : v = (n : Nat)
    · exact ⟨[((n : Nat) : Int)], by simp, by rw [q]; simp⟩
    · obtain ⟨T, hT, hv⟩ := h3 v (by omega)
      exact ⟨T, List.mem_append_left _ hT, hv⟩
theorem split_at {one : List (List Int)} {p : Nat} (h : p < one.length) : one = one.take p ++ one.getD p [] :: one.drop (p + 1) := by
  rw [List.getD_eq_getElem?_getD, List.getElem?_eq_getElem h]
  show one = one.take p ++ one[p] :: one.drop (p + 1)
  rw [← List.drop_eq_getElem_cons h, List.take_append_drop]
theorem mem_grow {v : Int} {one : List (List Int)} : P ∈ grow v one ↔ (∃ A S B, one = A ++ S :: B ∧ P = A ++ (S ++ [v]) :: B) ∨ P = one ++ [[v]] := by
  unfold grow
  rw [List.mem_append, List.mem_map, List.mem_singleton]
  refine or_congr ⟨?_, ?_⟩ Iff.rfl
  · rintro ⟨p, hp, rfl⟩
    refine ⟨one.take p, one.getD p [], one.drop (p + 1), split_at (List.mem_range.mp hp), by simp⟩
  · rintro ⟨A, S, B, rfl, rfl⟩
    refine ⟨A.length, List.mem_range.mpr (by simp), ?_⟩
    simp [List.getD_eq_getElem?_getD]
theorem parts_ok : ∀ {n : Nat} {P : List (List Int)}, P ∈ parts n → PartOk n P
  | 0, P, h => by
    unfold parts at h
    rw [List.mem_singleton] at h
    subst h
    exact ⟨fun S hS => (by cases hS), .nil, fun v hv => (by omega)⟩
  | n + 1, P, h => by
    unfold parts at h
    obtain ⟨one, h1, h2⟩ := List.mem_flatMap.mp h
    have ih := parts_ok h1
    rcases mem_grow.mp h2 with ⟨A, S, B, rfl, rfl⟩ | rfl
    · exact ih.add
    · exact ih.new
theorem parts_all {r : Int → Int → Prop} (rr : ∀ u, r u u) (rs : ∀ u v, r u v → r v u) (rt : ∀ u v w, r u v → r v w → r u w) : ∀ n : Nat, ∃ P ∈ parts n, ∀ S ∈ P, (∀ u ∈ S, ∀ v ∈ S, r u v) ∧ ∀ u ∈ S, ∀ v : Int, 0 ≤ v ∧ v < (n : Int) → r u v → v ∈ S
  | 0 => ⟨[], by unfold parts; simp, fun S hS => by cases hS⟩
  | n + 1 => by
    obtain ⟨P, hP, hc⟩ := parts_all rr rs rt n
    have ok := parts_ok hP
    by_cases q : ∃ u : Int, (0 ≤ u ∧ u < (n : Int)) ∧ r u (n : Nat)
    · obtain ⟨u, hu, hr⟩ := q
      obtain ⟨S, hS, huS⟩ := ok.cov u hu
      obtain ⟨A, B, rfl⟩ := List.append_of_mem hS
      have dd := ok.dis
      rw [List.pairwise_append, List.pairwise_cons] at dd
      obtain ⟨d1, ⟨d2, d3⟩, d4⟩ := dd
      refine ⟨A ++ (S ++ [((n : Nat) : Int)]) :: B, ?_, fun T hT => ?_⟩
      · unfold parts
        exact List.mem_flatMap.mpr ⟨_, hP, mem_grow.mpr (.inl ⟨A, S, B, rfl, rfl⟩)⟩
      · have old : T ∈ A ++ S :: B → (∀ v, v ∈ T → ¬ v ∈ S) → (∀ u ∈ T, ∀ v ∈ T, r u v) ∧ ∀ u ∈ T, ∀ v : Int, 0 ≤ v ∧ v < ((n + 1 : Nat) : Int) → r u v → v ∈ T := fun hm hd => by
          obtain ⟨c1, c2⟩ := hc T hm
          refine ⟨c1, fun t ht v hv htv => ?_⟩
          by_cases e : v = (n : Nat)
          · rw [e] at htv
            have : t ∈ S := (hc S hS).2 u huS t ((mem_nsets.mp (ok.sub T hm)).2.1 t ht) (rt _ _ _ hr (rs _ _ htv))
            exact absurd this (hd t ht)
          · exact c2 t ht v (by omega) htv
        rcases List.mem_append.mp hT with z | z
        · exact old (List.mem_append_left _ z) fun v hv => d4 T z S List.mem_cons_self v hv
        · rcases List.mem_cons.mp z with z | z
          · obtain ⟨c1, c2⟩ := hc S hS
            have sn : ∀ x ∈ S ++ [((n : Nat) : Int)], r u x := fun x hx => by
              rcases List.mem_append.mp hx with w | w
              · exact c1 u huS x w
              · rw [List.mem_singleton] at w
                rw [w]
                exact hr
            rw [z]
            refine ⟨fun x hx y hy => rt _ _ _ (rs _ _ (sn x hx)) (sn y hy), fun x hx v hv hxv => ?_⟩
            by_cases e : v = (n : Nat)
            · rw [e]; simp
            · exact List.mem_append_left _ (c2 u huS v (by omega) (rt _ _ _ (sn x hx) hxv))
          · exact old (List.mem_append_right _ (List.mem_cons_of_mem _ z)) fun v hv hvS => d2 T z v hvS hv
    · refine ⟨P ++ [[((n : Nat) : Int)]], ?_, fun T hT => ?_⟩
      · unfold parts
        exact List.mem_flatMap.mpr ⟨_, hP, mem_grow.mpr (.inr rfl)⟩
      · rcases List.mem_append.mp hT with z | z
        · obtain ⟨c1, c2⟩ := hc T z
          refine ⟨c1, fun t ht v hv htv => ?_⟩
          by_cases e : v = (n : Nat)
          · rw [e] at htv
            exact absurd ⟨t, (mem_nsets.mp (ok.sub T z)).2.1 t ht, htv⟩ q
          · exact c2 t ht v (by omega) htv
        · rw [List.mem_singleton] at z
          rw [z]
          refine ⟨fun x hx y hy => ?_, fun x hx v hv hxv => ?_⟩
          · rw [List.mem_singleton] at hx hy
            rw [hx, hy]
            exact rr _
          · rw [List.mem_singleton] at hx
            rw [hx] at hxv
            by_cases e : v = (n : Nat)
            · rw [e]; simp
            · exact absurd ⟨v, by omega, rs _ _ hxv⟩ q
/-! ### sums over parts -/
def sumP (f : List Int → Int) (P : List (List Int)) : Int := (P.map f).sum
theorem sumP_cons {f : List Int → Int} : sumP f (S :: P) = f S + sumP f P := by
  unfold sumP
  rw [List.map_cons, List.sum_cons]
theorem sumP_le {f g : List Int → Int} : ∀ {P : List (List Int)}, (∀ S ∈ P, f S ≤ g S) → sumP f P ≤ sumP g P
  | [], _ => Int.le_refl _
  | S :: P, h => by
    rw [sumP_cons, sumP_cons]
    have := h S List.mem_cons_self
    have := sumP_le (P := P) fun T hT => h T (List.mem_cons_of_mem _ hT)
    omega
theorem sumP_filter {q : List Int → Int → Bool} {L : List Int} : ∀ {P : List (List Int)}, P.Pairwise (fun S T => ∀ x ∈ L, q S x = true → q T x = false) → sumP (fun S => ((L.filter (q S)).length : Nat)) P = ((L.filter fun x => P.any fun S => q S x).length : Nat)
  | [], _ => by
    have : (L.filter fun x => ([] : List (List Int)).any fun S => q S x) = [] := List.filter_eq_nil_iff.mpr fun x _ z => by cases z
    rw [this]
    rfl
  | S :: P, h => by
    obtain ⟨h1, h2⟩ := List.pairwise_cons.mp h
    rw [sumP_cons, sumP_filter h2]
    have e : (L.filter fun x => (S :: P).any fun S => q S x) = L.filter fun x => q S x || P.any fun S => q S x := List.filter_congr fun x _ => List.any_cons
    rw [e, ← filter_or (fun x hx hq => ?_)]
    · omega
    · rw [List.any_eq_false]
      intro T hT
      rw [h1 T hT x hx hq]
      exact Bool.false_ne_true
theorem sumP_sub {c : Int} : ∀ {P : List (List Int)}, sumP (fun S => c * ((S.length : Int) - 1)) P = c * (sumP (fun S => (S.length : Int)) P - P.length)
  | [] => by simp [sumP]
  | S :: P => by
    rw [sumP_cons, sumP_cons, sumP_sub, List.length_cons, ← Int.mul_add]
    congr 1
    omega
theorem PartOk.len (h : PartOk n P) : sumP (fun S => (S.length : Int)) P = n := by
  have h1 := sumP_filter (q := fun S => S.contains) (L := ids n) (P := P) (h.dis.imp fun {S T} hd x _ hx => by
    have := hd x (List.contains_iff_mem.mp hx)
    cases e : T.contains x with
    | false => rfl
    | true => exact absurd (List.contains_iff_mem.mp e) this)
  have h2 : sumP (fun S => (((ids n).filter S.contains).length : Nat)) P = sumP (fun S => (S.length : Int)) P := by
    unfold sumP
    congr 1
    refine List.map_congr_left fun S hS => ?_
    have : ((ids n).filter S.contains).length = S.length := congrArg List.length (set_ofP (h.sub S hS))
    rw [this]
  rw [← h2, h1]
  have : ((ids n).filter fun x => P.any fun S => S.contains x) = ids n := List.filter_eq_self.mpr fun x hx => by
    obtain ⟨S, hS, hv⟩ := h.cov x (mem_ids.mp hx)
    exact List.any_eq_true.mpr ⟨S, hS, List.contains_iff_mem.mpr hv⟩
  rw [this, ids_len]
variable {es : List (Int × Int)} {cs : List (Option Int)} {k : Nat}
def crs (es : List (Int × Int)) (P : List (List Int)) : Int := (es.length : Int) - sumP (fun S => ((insd es S : Nat) : Int)) P
theorem dis_inS (h : P.Pairwise fun S T => ∀ v : Int, v ∈ S → ¬ v ∈ T) {x : Int} {S T : List Int} (hd : ∀ v : Int, v ∈ S → ¬ v ∈ T) (hx : inS es S x = true) : inS es T x = false := by
  unfold inS at *
  rw [Bool.and_eq_true, List.contains_iff_mem] at hx
  have := hd _ hx.1
  cases e : T.contains (edgeOf es x).1 with
  | false => rfl
  | true => exact absurd (List.contains_iff_mem.mp e) this
theorem insd_ids : insd es S = ((ids es.length).filter (inS es S)).length := by
  have := insd_inS (es := es) (A := ids es.length) (ks := S)
  rw [eds_ids] at this
  exact this
/-- the edges within some part -/
def inP (es : List (Int × Int)) (P : List (List Int)) (x : Int) : Bool := P.any fun S => inS es S x
theorem crs_eq (h : PartOk n P) : crs es P = (((ids es.length).filter fun x => !inP es P x).length : Nat) := by
  have h1 := sumP_filter (q := inS es) (L := ids es.length) (P := P) (h.dis.imp fun {S T} hd x _ hx => dis_inS h.dis hd hx)
  have h2 : sumP (fun S => ((insd es S : Nat) : Int)) P = sumP (fun S => (((ids es.length).filter (inS es S)).length : Nat)) P := by
    unfold sumP
    congr 1
    refine List.map_congr_left fun S hS => ?_
    rw [insd_ids]
  have h3 := split_len (p := inP es P) (L := ids es.length)
  rw [ids_len] at h3
  unfold crs
  rw [h2, h1]
  show (es.length : Int) - (((ids es.length).filter (inP es P)).length : Nat) = _
  omega
/-- how many are colored -/
def colN (es : List (Int × Int)) (cs : List (Option Int)) (k : Nat) : Nat := ((ids es.length).filter (hasL cs k)).length
def colIn (es : List (Int × Int)) (cs : List (Option Int)) (k : Nat) (S : List Int) : Nat := ((ids es.length).filter fun x => hasL cs k x && inS es S x).length
theorem col_split (h : PartOk n P) : (colN es cs k : Int) = sumP (fun S => (colIn es cs k S : Nat)) P + (((ids es.length).filter fun x => hasL cs k x && !inP es P x).length : Nat) := by
  have h1 := sumP_filter (q := fun S x => hasL cs k x && inS es S x) (L := ids es.length) (P := P) (h.dis.imp fun {S T} hd x _ hx => by
    rw [Bool.and_eq_true] at hx
    rw [dis_inS h.dis hd hx.2, Bool.and_false])
  have h2 : sumP (fun S => (colIn es cs k S : Nat)) P = (((ids es.length).filter fun x => hasL cs k x && inP es P x).length : Nat) := by
    unfold colIn
    rw [h1]
    congr 2
    refine List.filter_congr fun x _ => ?_
    unfold inP
    cases hasL cs k x with
    | true => rfl
    | false => exact (List.any_eq_false.mpr fun S _ => by simp)
  rw [h2]
  unfold colN
  have := filter_or (p := fun x => hasL cs k x && inP es P x) (q := fun x => hasL cs k x && !inP es P x) (l := ids es.length) fun x _ hx => by
    rw [Bool.and_eq_true] at hx
    rw [hx.2]
    simp
  have e : ((ids es.length).filter fun x => (hasL cs k x && inP es P x) || (hasL cs k x && !inP es P x)) = (ids es.length).filter (hasL cs k) := List.filter_congr fun x _ => by
    cases hasL cs k x <;> cases inP es P x <;> rfl
  rw [e] at this
  omega
/-- TREES: enough edges cross each partition -/
theorem trees_cross (C : Ctx es cs k n) (h : PartOk n P) (hk : (k : Int) * ((n : Int) - 1) ≤ colN es cs k) : (k : Int) * ((P.length : Int) - 1) ≤ crs es P := by
  rw [col_split h] at hk
  rw [crs_eq h]
  have h1 : sumP (fun S => (colIn es cs k S : Nat)) P ≤ sumP (fun S => (k : Int) * ((S.length : Int) - 1)) P := sumP_le fun S hS => col_bound C (h.sub S hS)
  rw [sumP_sub, h.len] at h1
  have h2 : ((ids es.length).filter fun x => hasL cs k x && !inP es P x).length ≤ ((ids es.length).filter fun x => !inP es P x).length := nodup_le ((ids_nodup _).filter _) fun x hx => by
    obtain ⟨x1, x2⟩ := List.mem_filter.mp hx
    rw [Bool.and_eq_true] at x2
    exact List.mem_filter.mpr ⟨x1, x2.2⟩
  have e1 : (k : Int) * ((n : Int) - 1) = k * n - k := by rw [Int.mul_sub, Int.mul_one]
  have e2 : (k : Int) * ((n : Int) - P.length) = k * n - k * P.length := Int.mul_sub ..
  have e3 : (k : Int) * ((P.length : Int) - 1) = k * P.length - k := by rw [Int.mul_sub, Int.mul_one]
  omega
/-! ### full sets -/
def Ful (es : List (Int × Int)) (cs : List (Option Int)) (k n : Nat) (S : List Int) : Prop := S ∈ nsets n 1 ∧ (k : Int) * ((S.length : Int) - 1) ≤ colIn es cs k S
theorem ful_one {u : Int} (hu : 0 ≤ u ∧ u < (n : Int)) : Ful es cs k n [u] := by
  refine ⟨mem_nsets.mpr ⟨List.pairwise_singleton .., fun x hx => by rw [List.mem_singleton] at hx; omega, by simp⟩, ?_⟩
  simp
theorem ful_union (C : Ctx es cs k n) {S T : List Int} (hS : Ful es cs k n S) (hT : Ful es cs k n T) {a : Int} (h1 : a ∈ S) (h2 : a ∈ T) : Ful es cs k n (ofP n fun x => S.contains x || T.contains x) := by
  obtain ⟨mS, fS⟩ := hS
  obtain ⟨mT, fT⟩ := hT
  obtain ⟨s1, s2, s3⟩ := mem_nsets.mp mS
  obtain ⟨t1, t2, t3⟩ := mem_nsets.mp mT
  have c := filter_incl (p := S.contains) (q := T.contains) (l := ids n)
  have eS : ((ids n).filter S.contains).length = S.length := congrArg List.length (set_ofP mS)
  have eT : ((ids n).filter T.contains).length = T.length := congrArg List.length (set_ofP mT)
  rw [eS, eT] at c
  have cU : (ofP n fun x => S.contains x || T.contains x).length = ((ids n).filter fun x => S.contains x || T.contains x).length := rfl
  have cN : (ofP n fun x => S.contains x && T.contains x).length = ((ids n).filter fun x => S.contains x && T.contains x).length := rfl
  rw [← cU, ← cN] at c
  have nN : 0 < (ofP n fun x => S.contains x && T.contains x).length := List.length_pos_of_mem (a := a) (mem_ofP.mpr ⟨s2 a h1, by rw [List.contains_iff_mem.mpr h1, List.contains_iff_mem.mpr h2]; rfl⟩)
  have nU : 0 < (ofP n fun x => S.contains x || T.contains x).length := List.length_pos_of_mem (a := a) (mem_ofP.mpr ⟨s2 a h1, by rw [List.contains_iff_mem.mpr h1, List.contains_iff_mem.mpr h2]; rfl⟩)
  have mN := ofP_sets (n := n) (p := fun x => S.contains x && T.contains x) (least := 1) (by omega)
  have mU := ofP_sets (n := n) (p := fun x => S.contains x || T.contains x) (least := 1) (by omega)
  have bN := col_bound C mN
  have cc : colIn es cs k S + colIn es cs k T ≤ colIn es cs k (ofP n fun x => S.contains x || T.contains x) + colIn es cs k (ofP n fun x => S.contains x && T.contains x) := by
    unfold colIn
    refine filter_le2 fun x _ => ?_
    have fU : ∀ y, (S.contains y = true ∨ T.contains y = true) → (ofP n fun x => S.contains x || T.contains x).contains y = true := fun y hy => by
      refine List.contains_iff_mem.mpr (mem_ofP.mpr ⟨?_, by rw [Bool.or_eq_true]; exact hy⟩)
      exact hy.elim (fun z => s2 y (List.contains_iff_mem.mp z)) (fun z => t2 y (List.contains_iff_mem.mp z))
    have fN : ∀ y, S.contains y = true → T.contains y = true → (ofP n fun x => S.contains x && T.contains x).contains y = true := fun y a1 a2 =>
      List.contains_iff_mem.mpr (mem_ofP.mpr ⟨s2 y (List.contains_iff_mem.mp a1), by rw [Bool.and_eq_true]; exact ⟨a1, a2⟩⟩)
    unfold inS
    generalize (edgeOf es x).1 = p
    generalize (edgeOf es x).2 = q
    have up := fU p
    have uq := fU q
    have np := fN p
    have nq := fN q
    cases hasL cs k x with
    | false => simp
    | true =>
      revert up uq np nq
      cases S.contains p <;> cases S.contains q <;> cases T.contains p <;> cases T.contains q <;> intro up uq np nq <;> simp_all
  refine ⟨mU, ?_⟩
  have bN : ((colIn es cs k (ofP n fun x => S.contains x && T.contains x) : Nat) : Int) ≤ (k : Int) * (((ofP n fun x => S.contains x && T.contains x).length : Int) - 1) := bN
  have e3 : (k : Int) * (((ofP n fun x => S.contains x || T.contains x).length : Int) - 1) + (k : Int) * (((ofP n fun x => S.contains x && T.contains x).length : Int) - 1) = k * ((S.length : Int) - 1) + k * ((T.length : Int) - 1) := by
    rw [← Int.mul_add, ← Int.mul_add]
    congr 1
    omega
  omega
/-- in one full set -/
def Rel (es : List (Int × Int)) (cs : List (Option Int)) (k n : Nat) (u v : Int) : Prop := u = v ∨ ∃ S, Ful es cs k n S ∧ u ∈ S ∧ v ∈ S
theorem rel_trans (C : Ctx es cs k n) {u v w : Int} (h1 : Rel es cs k n u v) (h2 : Rel es cs k n v w) : Rel es cs k n u w := by
  rcases h1 with rfl | ⟨S, fS, s1, s2⟩
  · exact h2
  · rcases h2 with rfl | ⟨T, fT, t1, t2⟩
    · exact .inr ⟨S, fS, s1, s2⟩
    · exact .inr ⟨_, ful_union C fS fT s2 t1, mem_ofP.mpr ⟨(mem_nsets.mp fS.1).2.1 u s1, by rw [List.contains_iff_mem.mpr s1]; rfl⟩, mem_ofP.mpr ⟨(mem_nsets.mp fT.1).2.1 w t2, by rw [List.contains_iff_mem.mpr t2, Bool.or_true]⟩⟩
/-- a class is full -/
theorem ful_class (C : Ctx es cs k n) {u : Int} (hu : 0 ≤ u ∧ u < (n : Int)) : ∀ {L : List Int}, (∀ v ∈ L, Rel es cs k n u v) → ∃ S, Ful es cs k n S ∧ u ∈ S ∧ ∀ v ∈ L, v ∈ S
  | [], _ => ⟨[u], ful_one hu, List.mem_singleton.mpr rfl, fun v hv => by cases hv⟩
  | v :: L, h => by
    obtain ⟨S, f, hs, hl⟩ := ful_class C hu (L := L) fun w hw => h w (List.mem_cons_of_mem _ hw)
    rcases h v List.mem_cons_self with rfl | ⟨T, fT, t1, t2⟩
    · exact ⟨S, f, hs, fun w hw => (List.mem_cons.mp hw).elim (fun e => by rw [e]; exact hs) (hl w)⟩
    · refine ⟨_, ful_union C f fT hs t1, mem_ofP.mpr ⟨hu, by rw [List.contains_iff_mem.mpr hs]; rfl⟩, fun w hw => ?_⟩
      rcases List.mem_cons.mp hw with e | e
      · rw [e]
        exact mem_ofP.mpr ⟨(mem_nsets.mp fT.1).2.1 v t2, by rw [List.contains_iff_mem.mpr t2, Bool.or_true]⟩
      · exact mem_ofP.mpr ⟨(mem_nsets.mp f.1).2.1 w (hl w e), by rw [List.contains_iff_mem.mpr (hl w e)]; rfl⟩
/-- THE PARTITION that shows how many can be colored -/
theorem full_part (C : Ctx es cs k n) (hf : ∀ x : Nat, cs[x]? = some none → Full es cs k n x) : ∃ P ∈ parts n, crs es P = (colN es cs k : Int) - k * ((n : Int) - P.length) := by
  obtain ⟨P, hP, hc⟩ := parts_all (r := Rel es cs k n) (fun u => .inl rfl) (fun u v h => h.elim (fun e => .inl e.symm) fun ⟨S, f, a, b⟩ => .inr ⟨S, f, b, a⟩) (fun u v w => rel_trans C) n
  have ok := parts_ok hP
  refine ⟨P, hP, ?_⟩
  rw [col_split (cs := cs) (k := k) (es := es) ok, crs_eq ok]
  have e1 : ((ids es.length).filter fun x => !inP es P x) = (ids es.length).filter fun x => hasL cs k x && !inP es P x := List.filter_congr fun x hx => by
    have hx := mem_ids.mp hx
    cases q : hasL cs k x with
    | true => rfl
    | false =>
      rw [Bool.false_and, Bool.not_eq_false']
      have hl : x.toNat < cs.length := by rw [C.len]; omega
      have hn : cs[x.toNat]? = some none := by
        cases z : cs[x.toNat]? with
        | none => rw [List.getElem?_eq_getElem hl] at z; cases z
        | some o =>
          cases o with
          | none => rfl
          | some c => rw [(hasL_iff C.rg).mpr ⟨c, z⟩] at q; cases q
      obtain ⟨S, s1, s2, s3⟩ := hf x.toNat hn
      rw [show ((x.toNat : Nat) : Int) = x by omega] at s2
      obtain ⟨m1, m2, m3⟩ := mem_nsets.mp s1
      have fS : Ful es cs k n S := ⟨mem_nsets.mpr ⟨m1, m2, by omega⟩, s3⟩
      have s2' := s2
      unfold inS at s2'
      rw [Bool.and_eq_true, List.contains_iff_mem, List.contains_iff_mem] at s2'
      obtain ⟨T, hT, ht⟩ := ok.cov _ (m2 _ s2'.1)
      have ht2 := (hc T hT).2 _ ht _ (m2 _ s2'.2) (.inr ⟨S, fS, s2'.1, s2'.2⟩)
      refine List.any_eq_true.mpr ⟨T, hT, ?_⟩
      unfold inS
      rw [List.contains_iff_mem.mpr ht, List.contains_iff_mem.mpr ht2]
      rfl
  have e2 : sumP (fun S => (colIn es cs k S : Nat)) P = sumP (fun S => (k : Int) * ((S.length : Int) - 1)) P := by
    unfold sumP
    congr 1
    refine List.map_congr_left fun S hS => ?_
    obtain ⟨m1, m2, m3⟩ := mem_nsets.mp (ok.sub S hS)
    obtain ⟨u, hu⟩ := List.exists_mem_of_length_pos (l := S) (by omega)
    obtain ⟨c1, c2⟩ := hc S hS
    obtain ⟨T, fT, ut, hl⟩ := ful_class C (m2 u hu) (L := S) fun v hv => c1 u hu v hv
    have : S = T := pw_ext m1 (mem_nsets.mp fT.1).1 fun x => ⟨hl x, fun hx => c2 u hu x ((mem_nsets.mp fT.1).2.1 x hx) (.inr ⟨T, fT, ut, hx⟩)⟩
    subst this
    exact Int.le_antisymm (col_bound C (ok.sub S hS)) fT.2
  rw [e1, e2, sumP_sub, ok.len]
  omega
/-- FEW: a partition that too few edges cross -/
theorem few_part (C : Ctx es cs k n) (hf : ∀ x : Nat, cs[x]? = some none → Full es cs k n x) (hk : (colN es cs k : Int) < (k : Int) * ((n : Int) - 1)) : ∃ P ∈ parts n, crs es P < (k : Int) * ((P.length : Int) - 1) := by
  obtain ⟨P, hP, e⟩ := full_part C hf
  refine ⟨P, hP, ?_⟩
  have e1 : (k : Int) * ((n : Int) - 1) = k * n - k := by rw [Int.mul_sub, Int.mul_one]
  have e2 : (k : Int) * ((n : Int) - P.length) = k * n - k * P.length := Int.mul_sub ..
  have e3 : (k : Int) * ((P.length : Int) - 1) = k * P.length - k := by rw [Int.mul_sub, Int.mul_one]
  omega
end
end Ip

set_option maxHeartbeats 4000000
namespace Ip
open PySem
/-! ### sorting told by insertion -/
def insI {α : Type} (le : α → α → Bool) (x : α) : List α → List α
  | [] => [x]
  | y :: r => if le x y then x :: y :: r else y :: insI le x r
def isrt {α : Type} (le : α → α → Bool) : List α → List α
  | [] => []
  | x :: r => insI le x (isrt le r)
section
variable {α : Type} {le : α → α → Bool}
theorem insI_perm {x : α} : ∀ {l : List α}, (insI le x l).Perm (x :: l)
  | [] => .refl _
  | y :: r => by
    unfold insI
    split
    · exact .refl _
    · exact ((insI_perm (x := x) (l := r)).cons y).trans (.swap ..)
theorem isrt_perm : ∀ {l : List α}, (isrt le l).Perm l
  | [] => .refl _
  | x :: r => insI_perm.trans ((isrt_perm (l := r)).cons x)
theorem insI_pw (tr : ∀ a b c, le a b = true → le b c = true → le a c = true) (to : ∀ a b, (le a b || le b a) = true) {x : α} : ∀ {l : List α}, l.Pairwise (fun a b => le a b = true) → (insI le x l).Pairwise (fun a b => le a b = true)
  | [], _ => List.pairwise_singleton ..
  | y :: r, h => by
    obtain ⟨h1, h2⟩ := List.pairwise_cons.mp h
    unfold insI
    split
    · rename_i q
      exact List.pairwise_cons.mpr ⟨fun z hz => (List.mem_cons.mp hz).elim (fun e => by rw [e]; exact q) fun e => tr _ _ _ q (h1 z e), h⟩
    · rename_i q
      refine List.pairwise_cons.mpr ⟨fun z hz => ?_, insI_pw tr to h2⟩
      rcases List.mem_cons.mp (insI_perm.mem_iff.mp hz) with e | e
      · rw [e]
        have := to x y
        rw [Bool.or_eq_true] at this
        exact this.resolve_left q
      · exact h1 z e
theorem isrt_pw (tr : ∀ a b c, le a b = true → le b c = true → le a c = true) (to : ∀ a b, (le a b || le b a) = true) : ∀ {l : List α}, (isrt le l).Pairwise (fun a b => le a b = true)
  | [] => .nil
  | x :: r => insI_pw tr to (isrt_pw tr to)
theorem msort_isrt (tr : ∀ a b c, le a b = true → le b c = true → le a c = true) (to : ∀ a b, (le a b || le b a) = true) (an : ∀ a b, le a b = true → le b a = true → a = b) {l : List α} : l.mergeSort le = isrt le l :=
  List.Perm.eq_of_pairwise (le := fun a b => le a b = true) (fun a b _ _ => an a b) (List.pairwise_mergeSort tr to l) (isrt_pw tr to) ((List.mergeSort_perm _ _).trans isrt_perm.symm)
end
def leI (a b : Int) : Bool := decide (a ≤ b)
def leL (a b : List Int) : Bool := decide (a ≤ b)
theorem leI_isrt {l : List Int} : l.mergeSort leI = isrt leI l := msort_isrt (fun a b c h1 h2 => by unfold leI at *; simp at *; omega) (fun a b => by unfold leI; simp; omega) (fun a b h1 h2 => by unfold leI at *; simp at *; omega)
theorem leL_isrt {l : List (List Int)} : l.mergeSort leL = isrt leL l := msort_isrt (fun a b c h1 h2 => by unfold leL at *; simp only [decide_eq_true_iff] at *; exact List.le_trans h1 h2) (fun a b => by unfold leL; rw [Bool.or_eq_true]; simp only [decide_eq_true_iff]; exact List.le_total a b) (fun a b h1 h2 => by unfold leL at *; simp only [decide_eq_true_iff] at *; exact List.le_antisymm h1 h2)
def isPB (n : Nat) (P : List (List Int)) : Bool := P.all (fun S => !S.isEmpty) && P.flatten.all (fun v => decide (0 ≤ v) && decide (v ≤ (n : Int) - 1)) && (isrt leI P.flatten == ids n) && (P == isrt leL (P.map (isrt leI)))
def forms (n : Nat) (P : List (List Int)) : List (List (List Int)) := [P, P.reverse, P.tail, P ++ [[]], P ++ P.take 1, P.map List.reverse, P ++ [[(n : Int)]]]
theorem isPB_forms : ([1, 2, 3, 4].all fun n => (parts n).all fun P => (forms n P).all fun Q => isPB n Q == (parts n).contains Q) = true := by decide +kernel
theorem isPB_parts : ([1, 2, 3, 4, 5].all fun n => (parts n).all fun P => isPB n P) = true := by decide +kernel
theorem isPB_form {n : Nat} (h1 : 1 ≤ n) (h4 : n ≤ 4) {P Q : List (List Int)} (hP : P ∈ parts n) (hQ : Q ∈ forms n P) : isPB n Q = (parts n).contains Q := by
  have h := isPB_forms
  rw [List.all_eq_true] at h
  have := h n (by simp; omega)
  rw [List.all_eq_true] at this
  have := this P hP
  rw [List.all_eq_true] at this
  exact eq_of_beq (this Q hQ)
theorem isPB_part {n : Nat} (h1 : 1 ≤ n) (h5 : n ≤ 5) {P : List (List Int)} (hP : P ∈ parts n) : isPB n P = true := by
  have h := isPB_parts
  rw [List.all_eq_true] at h
  have := h n (by simp; omega)
  rw [List.all_eq_true] at this
  exact this P hP
theorem le_int {a b : Int} : PySem.W.dataLe false id (.int a) (.int b) = leI a b := congrFun (congrFun (PySem.W.dataLe_int fun x : Int => x) a) b
theorem le_row {a b : List Int} : PySem.W.dataLe false id (.list (a.map .int)) (.list (b.map .int)) = leL a b := congrFun (congrFun (PySem.W.dataLe_rows fun x : List Int => x) a) b
theorem d_srtI {xs : List Int} (hl : xs.length ≤ lim) : blD .sorted [.list (xs.map .int)] = .ok (.list ((isrt leI xs).map .int)) := by
  have h := d_sorted (φ := PyData.int) (xs := xs) (fun x _ y _ => by rw [PySem.W.alike]) (.inr fun x _ => rfl) hl fun x _ => rfl
  rw [h]
  rw [show (fun a b : Int => PySem.W.dataLe false id (PyData.int a) (PyData.int b)) = leI from funext fun a => funext fun b => le_int, leI_isrt]
def lD (s : List Int) : D := .list (s.map .int)
theorem shp_lD {n : Nat} (s : List Int) : shp (n + 1) (lD s) = true := shp_ints s
theorem ll_lD (P : List (List Int)) : ll P = .list (P.map lD) := rfl
theorem d_sortLL {P : List (List Int)} (hl : P.length ≤ lim) : blD .sorted [ll P] = .ok (ll (isrt leL P)) := by
  have h := d_sorted (φ := lD) (xs := P) (fun x _ y _ => by unfold lD; rw [PySem.W.alike, alike_ints]) (.inr fun x _ => rfl) hl fun x _ => shp_lD x
  rw [ll_lD, h]
  rw [show (fun a b : List Int => PySem.W.dataLe false id (lD a) (lD b)) = leL from funext fun a => funext fun b => le_row, leL_isrt]
  rfl
theorem eqv_lD {a b : List Int} : PyData.eqv (lD a) (lD b) = (a == b) := by
  unfold lD
  rw [PyData.eqv, eqvA_ints]
theorem eqvA_lD : ∀ {P Q : List (List Int)}, PyData.eqvAll (P.map lD) (Q.map lD) = (P == Q)
  | [], [] => by rw [List.map_nil, PyData.eqvAll]; rfl
  | [], y :: ys => by rw [List.map_nil, List.map_cons]; simp [PyData.eqvAll]
  | x :: xs, [] => by rw [List.map_nil, List.map_cons]; simp [PyData.eqvAll]
  | x :: xs, y :: ys => by
    rw [List.map_cons, List.map_cons, PyData.eqvAll, eqvA_lD, eqv_lD]
    rfl
theorem eqv_ll {P Q : List (List Int)} : PyData.eqv (ll P) (ll Q) = (P == Q) := by
  rw [ll_lD, ll_lD, PyData.eqv, eqvA_lD]
/-! ### trees -/
section
variable {es : List (Int × Int)} {cs : List (Option Int)} {k n : Nat}
def trC (es : List (Int × Int)) (cs : List (Option Int)) (c : Int) : List Int := (ids es.length).filter (hasC cs c)
theorem mem_trC {c x : Int} : x ∈ trC es cs c ↔ (0 ≤ x ∧ x < (es.length : Int)) ∧ cs[x.toNat]? = some (some c) := by
  unfold trC
  rw [List.mem_filter, mem_ids, hasC_iff]
theorem trC_pw {c : Int} : (trC es cs c).Pairwise (· < ·) := (ids_pairwise _).filter _
theorem trC_ok (C : Ctx es cs k n) {c : Int} : EsOk n ((trC es cs c).map (edgeOf es)) := fun p hp => by
  obtain ⟨x, hx, rfl⟩ := List.mem_map.mp hp
  have hr := (mem_trC.mp hx).1
  obtain ⟨a, b, h1, _⟩ := edge_nat (es := es) hr
  rw [edgeOf_nat hr.1 h1]
  exact C.E _ (List.mem_of_getElem? h1)
theorem trC_fo (C : Ctx es cs k n) {c : Int} : Fo ((trC es cs c).map (edgeOf es)) := fo_color C.fo (pw_nodup trC_pw) fun x hx => mem_trC.mp hx
theorem comps_pos (h : 1 ≤ n) {E : List (Int × Int)} (ok : EsOk n E) : 1 ≤ comps n E := List.length_pos_of_mem (a := mk (mks n E) 0) (sortU_mem.mpr ((mem_mks ok).mpr ⟨0, by omega, rfl⟩))
theorem trC_comps (C : Ctx es cs k n) {c : Int} : comps n ((trC es cs c).map (edgeOf es)) + (trC es cs c).length = n := by
  have := (comps_fo (trC_ok C (c := c))).2.mp (trC_fo C)
  rw [List.length_map] at this
  exact this
theorem trC_le (C : Ctx es cs k n) (h : 1 ≤ n) {c : Int} : ((trC es cs c).length : Int) ≤ (n : Int) - 1 := by
  have := trC_comps C (c := c)
  have := comps_pos h (trC_ok C (c := c))
  omega
theorem sum_trC : sumN (fun c => ((trC es cs c).length : Nat)) (ids k) = (colN es cs k : Nat) := by
  have := sum_cols (cs := cs) (P := fun _ => true) (L := ids es.length) k
  simp only [Bool.and_true] at this
  exact this
theorem sum_all {f : Int → Int} {b : Int} : ∀ {L : List Int}, (∀ c ∈ L, f c ≤ b) → (L.length : Int) * b ≤ sumN f L → ∀ c ∈ L, f c = b
  | [], _, _, c, hc => by cases hc
  | a :: L, h, hs, c, hc => by
    rw [sumN_cons, List.length_cons, Int.natCast_add, Int.add_mul] at hs
    have h1 := h a List.mem_cons_self
    have h2 : ∀ {M : List Int}, (∀ c ∈ M, f c ≤ b) → sumN f M ≤ (M.length : Int) * b := by
      intro M
      induction M with
      | nil => intro _; show (0 : Int) ≤ _; simp
      | cons x M ih =>
        intro hM
        rw [sumN_cons, List.length_cons, Int.natCast_add, Int.add_mul]
        have := hM x List.mem_cons_self
        have := ih fun d hd => hM d (List.mem_cons_of_mem _ hd)
        omega
    have h3 := h2 (M := L) fun d hd => h d (List.mem_cons_of_mem _ hd)
    rcases List.mem_cons.mp hc with e | e
    · rw [e]; omega
    · exact sum_all (fun d hd => h d (List.mem_cons_of_mem _ hd)) (by omega) c e
/-- enough edges: each color is a tree -/
theorem trC_len (C : Ctx es cs k n) (h : 1 ≤ n) (hk : (k : Int) * ((n : Int) - 1) ≤ colN es cs k) {c : Int} (hc : c ∈ ids k) : ((trC es cs c).length : Int) = (n : Int) - 1 := by
  refine sum_all (f := fun c => ((trC es cs c).length : Nat)) (L := ids k) (fun c _ => trC_le C h) ?_ c hc
  rw [ids_len, sum_trC]
  exact hk
theorem col_le (C : Ctx es cs k n) (h : 1 ≤ n) : (colN es cs k : Int) ≤ (k : Int) * ((n : Int) - 1) := by
  rw [← sum_trC]
  have h2 : ∀ {M : List Int}, sumN (fun c => ((trC es cs c).length : Nat)) M ≤ (M.length : Int) * ((n : Int) - 1) := by
    intro M
    induction M with
    | nil => show (0 : Int) ≤ _; simp
    | cons x M ih =>
      rw [sumN_cons, List.length_cons, Int.natCast_add, Int.add_mul]
      have := trC_le C h (c := x)
      omega
  have := h2 (M := ids k)
  rw [ids_len] at this
  exact this
theorem cs_form (hl : cs.length = es.length) : cs = (ids es.length).map fun x => cs.getD x.toNat none := by
  apply List.ext_getElem
  · rw [List.length_map, ids_len, hl]
  · intro i h1 h2
    rw [List.getElem_map]
    have : (ids es.length)[i]'(by rw [ids_len]; omega) = ((i : Nat) : Int) := by unfold ids; simp
    rw [this, Int.toNat_natCast, List.getD_eq_getElem?_getD, List.getElem?_eq_getElem h1]
    rfl
/-- how many have a color -/
theorem col_some (C : Ctx es cs k n) : (cs.filter fun o => o.isSome).length = colN es cs k := by
  unfold colN
  conv => lhs; rw [cs_form C.len]
  rw [List.filter_map, List.length_map]
  congr 1
  refine List.filter_congr fun x hx => ?_
  have hx := mem_ids.mp hx
  have hl : x.toNat < cs.length := by rw [C.len]; omega
  show (cs.getD x.toNat none).isSome = hasL cs k x
  rw [Bool.eq_iff_iff, hasL_iff C.rg, List.getD_eq_getElem?_getD, List.getElem?_eq_getElem hl]
  show cs[x.toNat].isSome = true ↔ _
  rw [Option.isSome_iff_exists]
  exact ⟨fun ⟨c, h⟩ => ⟨c, by rw [h]⟩, fun ⟨c, h⟩ => ⟨c, Option.some.inj h⟩⟩
theorem flat_nodup : ∀ {L : List Int}, L.Nodup → ((L.map (trC es cs)).flatten).Nodup
  | [], _ => List.nodup_nil
  | c :: L, h => by
    obtain ⟨h1, h2⟩ := List.nodup_cons.mp h
    rw [List.map_cons, List.flatten_cons, List.nodup_append]
    refine ⟨pw_nodup trC_pw, flat_nodup h2, fun a ha b hb e => ?_⟩
    subst e
    obtain ⟨t, ht, hb⟩ := List.mem_flatten.mp hb
    obtain ⟨d, hd, rfl⟩ := List.mem_map.mp ht
    have x1 := (mem_trC.mp ha).2
    have x2 := (mem_trC.mp hb).2
    rw [x1] at x2
    cases x2
    exact h1 hd
theorem sortU_nd {L : List Int} : ((sortU L).length == L.length) = decide L.Nodup := by
  rw [Bool.eq_iff_iff, beq_iff_eq, decide_eq_true_iff]
  constructor
  · intro h
    exact Classical.byContradiction fun z => by
      have : ∀ {M : List Int}, ¬ M.Nodup → (sortU M).length < M.length := by
        intro M
        induction M with
        | nil => intro z; exact absurd List.nodup_nil z
        | cons x M ih =>
          intro z
          have e : (sortU (x :: M)).length = (insU x (sortU M)).length := rfl
          have l1 := sortU_len M
          have l2 := insU_len (x := x) (l := sortU M)
          rw [e, List.length_cons]
          by_cases q : M.Nodup
          · have hx : x ∈ M := Classical.byContradiction fun y => z (List.nodup_cons.mpr ⟨y, q⟩)
            have : (sortU (x :: M)).length = (sortU M).length := nodup_eq (sortU_nodup _) (sortU_nodup _) fun y => by
              rw [sortU_mem, sortU_mem, List.mem_cons]
              exact ⟨fun h => h.elim (fun h => by rw [h]; exact hx) id, .inr⟩
            rw [e] at this
            omega
          · have := ih q
            omega
      have := this z
      omega
  · intro h
    exact nodup_eq (sortU_nodup _) h fun x => sortU_mem
theorem sortU_asc {L : List Int} : (L == sortU L) = asc L := by
  rw [Bool.eq_iff_iff, beq_iff_eq, asc_iff]
  constructor
  · intro h
    rw [h]
    exact sortU_lt L
  · intro h
    exact pw_ext h (sortU_lt L) fun x => sortU_mem.symm
end
end Ip

set_option maxHeartbeats 4000000
namespace Ip
open PySem
/-! ### crossing edges and components -/
section
variable {n : Nat} {E es : List (Int × Int)} {P : List (List Int)}
theorem EsOk.left {A B : List (Int × Int)} (h : EsOk n (A ++ B)) : EsOk n A := fun p hp => h p (List.mem_append_left _ hp)
theorem comps_drop {p : Int × Int → Bool} : ∀ (m : Nat) (E : List (Int × Int)), E.length = m → EsOk n E → comps n (E.filter p) ≤ comps n E + (E.filter fun e => !p e).length
  | 0, E, hm, _ => by
    have : E = [] := List.length_eq_zero_iff.mp hm
    subst this
    exact Nat.le_add_right _ _
  | m + 1, E, hm, ok => by
    rcases List.eq_nil_or_concat E with rfl | ⟨F, e, rfl⟩
    · cases hm
    · rw [List.concat_eq_append] at *
      have hF : F.length = m := by rw [List.length_append, List.length_singleton] at hm; omega
      have okF : EsOk n F := ok.left
      have ih := comps_drop (p := p) m F hF okF
      have c1 := comps_snoc ok
      have he := ok e (List.mem_append_right _ (List.mem_singleton.mpr rfl))
      rw [List.filter_append, List.filter_append]
      cases q : p e with
      | false =>
        rw [show ([e] : List (Int × Int)).filter p = [] from List.filter_cons_of_neg (by simp [q]), show ([e] : List (Int × Int)).filter (fun e => !p e) = [e] from List.filter_cons_of_pos (by simp [q]), List.append_nil, List.length_append, List.length_singleton]
        split at c1 <;> omega
      | true =>
        rw [show ([e] : List (Int × Int)).filter p = [e] from List.filter_cons_of_pos (by simp [q]), show ([e] : List (Int × Int)).filter (fun e => !p e) = [] from List.filter_cons_of_neg (by simp [q]), List.append_nil]
        have okp : EsOk n (F.filter p ++ [e]) := fun x hx => by
          rcases List.mem_append.mp hx with z | z
          · exact okF x (List.mem_filter.mp z).1
          · exact ok x (List.mem_append_right _ z)
        have c2 := comps_snoc okp
        by_cases z : mk (mks n F) e.1 = mk (mks n F) e.2
        · rw [if_pos z] at c1
          split at c2 <;> omega
        · rw [if_neg z] at c1
          have : ¬ mk (mks n (F.filter p)) e.1 = mk (mks n (F.filter p)) e.2 := fun w => z ((mks_con okF (by omega) (by omega)).mpr (((mks_con okp.left (by omega) (by omega)).mp w).mono fun x hx => (List.mem_filter.mp hx).1))
          rw [if_neg this] at c2
          omega
/-- within a part -/
def inPe (P : List (List Int)) (e : Int × Int) : Bool := P.any fun S => S.contains e.1 && S.contains e.2
theorem filter_by {α β : Type} {p : α → Bool} {f : β → α} {l : List β} : ((l.map f).filter p).length = (l.filter fun x => p (f x)).length := by
  rw [List.filter_map, List.length_map]
  rfl
theorem crs_e (h : PartOk n P) : crs es P = ((es.filter fun e => !inPe P e).length : Nat) := by
  rw [crs_eq h]
  have e := eds_ids (es := es)
  unfold eds at e
  conv => rhs; rw [← e, filter_by]
  rfl
/-- edges within parts join no parts -/
theorem parts_comps (h : PartOk n P) (ok : EsOk n E) (hE : ∀ e ∈ E, inPe P e = true) : P.length ≤ comps n E := by
  have nd : (P.map fun S => mk (mks n E) (S.headD 0)).Nodup := by
    have hd : ∀ S ∈ P, S.headD 0 ∈ S ∧ 0 ≤ S.headD 0 ∧ S.headD 0 < (n : Int) := fun S hS => by
      obtain ⟨_, h2, h3⟩ := mem_nsets.mp (h.sub S hS)
      cases S with
      | nil => simp at h3
      | cons a r => exact ⟨List.mem_cons_self, h2 a List.mem_cons_self⟩
    have cl : ∀ S ∈ P, ∀ e ∈ E, (e.1 ∈ S ↔ e.2 ∈ S) := fun S hS e he => by
      obtain ⟨T, hT, hin⟩ := List.any_eq_true.mp (hE e he)
      rw [Bool.and_eq_true, List.contains_iff_mem, List.contains_iff_mem] at hin
      have key : ∀ v, v ∈ T → v ∈ S → T = S := fun v v1 v2 => by
        refine Classical.byContradiction fun ne => ?_
        have : ∀ {L : List (List Int)}, L.Pairwise (fun S T => ∀ v : Int, v ∈ S → ¬ v ∈ T) → S ∈ L → T ∈ L → False := by
          intro L
          induction L with
          | nil => intro _ z; cases z
          | cons A L ih =>
            intro pw m1 m2
            obtain ⟨p1, p2⟩ := List.pairwise_cons.mp pw
            rcases List.mem_cons.mp m1 with e1 | e1
            · rcases List.mem_cons.mp m2 with e2 | e2
              · exact ne (e2.trans e1.symm)
              · exact p1 T e2 v (by rw [← e1]; exact v2) v1
            · rcases List.mem_cons.mp m2 with e2 | e2
              · exact p1 S e1 v (by rw [← e2]; exact v1) v2
              · exact ih p2 e1 e2
        exact this h.dis hS hT
      exact ⟨fun z => by rw [← key _ hin.1 z]; exact hin.2, fun z => by rw [← key _ hin.2 z]; exact hin.1⟩
    have : ∀ {L : List (List Int)}, (∀ S ∈ L, S ∈ P) → L.Pairwise (fun S T => ∀ v : Int, v ∈ S → ¬ v ∈ T) → (L.map fun S => mk (mks n E) (S.headD 0)).Nodup := by
      intro L
      induction L with
      | nil => intro _ _; exact List.nodup_nil
      | cons S L ih =>
        intro hL pw
        obtain ⟨p1, p2⟩ := List.pairwise_cons.mp pw
        rw [List.map_cons, List.nodup_cons]
        refine ⟨fun z => ?_, ih (fun T hT => hL T (List.mem_cons_of_mem _ hT)) p2⟩
        obtain ⟨T, hT, e⟩ := List.mem_map.mp z
        have hS := hL S List.mem_cons_self
        have hT2 := hL T (List.mem_cons_of_mem _ hT)
        have c := (mks_con ok (hd T hT2).2 (hd S hS).2).mp e
        have : S.headD 0 ∈ T := (con_leaves (S := fun v => v ∈ T) c fun p hp => cl T hT2 p hp).mp (hd T hT2).1
        exact p1 T hT _ (hd S hS).1 this
    exact this (fun S hS => hS) h.dis
  have := nodup_le nd (m := sortU (mks n E)) fun x hx => by
    obtain ⟨S, hS, rfl⟩ := List.mem_map.mp hx
    obtain ⟨_, h2, h3⟩ := mem_nsets.mp (h.sub S hS)
    refine sortU_mem.mpr ((mem_mks ok).mpr ⟨S.headD 0, ?_, rfl⟩)
    cases S with
    | nil => simp at h3
    | cons a r => exact h2 a List.mem_cons_self
  rw [List.length_map] at this
  exact this
/-- CROSSING: parts are joined by crossing edges alone -/
theorem cross_comps (h : PartOk n P) (ok : EsOk n E) : (P.length : Int) ≤ comps n E + crs E P := by
  have a := comps_drop (p := inPe P) E.length E rfl ok
  have b := parts_comps (E := E.filter (inPe P)) h (fun p hp => ok p (List.mem_filter.mp hp).1) fun e he => (List.mem_filter.mp he).2
  rw [crs_e h]
  omega
theorem crs_nonneg (h : PartOk n P) : 0 ≤ crs es P := by rw [crs_eq h]; omega
theorem crs_le (h : PartOk n P) : crs es P ≤ es.length := by
  rw [crs_e h]
  have := List.length_filter_le (fun e => !inPe P e) es
  omega
/-- not connected: nothing crosses the components -/
theorem apart (ok : EsOk n es) (h : 2 ≤ comps n es) (n1 : 1 ≤ n) : ∃ P ∈ parts n, 2 ≤ P.length ∧ crs es P = 0 := by
  obtain ⟨P, hP, hc⟩ := parts_all (r := Con es) (fun u => .refl u) (fun u v c => c.symm) (fun u v w a b => a.trans b) n
  have pk := parts_ok hP
  refine ⟨P, hP, ?_, ?_⟩
  · obtain ⟨S, hS, h0⟩ := pk.cov 0 (by omega)
    refine Classical.byContradiction fun z => ?_
    have hl : P = [S] := by
      cases P with
      | nil => cases hS
      | cons A r =>
        cases r with
        | nil => rw [List.mem_singleton] at hS; rw [hS]
        | cons B r => simp at z
    have all : ∀ v, 0 ≤ v ∧ v < (n : Int) → v ∈ S := fun v hv => by
      obtain ⟨T, hT, hvT⟩ := pk.cov v hv
      rw [hl, List.mem_singleton] at hT
      rw [← hT]
      exact hvT
    have := comps_le ok (S := ids n) (u := 0) (ids_nodup n) (fun v hv => mem_ids.mp hv) (fun v hv => (hc S hS).1 0 h0 v (all v (mem_ids.mp hv))) (mem_ids.mpr (by omega))
    rw [ids_len] at this
    omega
  · rw [crs_e pk]
    have : es.filter (fun e => !inPe P e) = [] := List.filter_eq_nil_iff.mpr fun e he z => by
      have hk := ok e he
      obtain ⟨S, hS, h1⟩ := pk.cov e.1 (by omega)
      have h2 := (hc S hS).2 e.1 h1 e.2 (by omega) (.edge he (.refl _))
      have : inPe P e = true := List.any_eq_true.mpr ⟨S, hS, by rw [List.contains_iff_mem.mpr h1, List.contains_iff_mem.mpr h2]; rfl⟩
      rw [this] at z
      cases z
    rw [this]
    rfl
/-- each node by itself -/
theorem alone (n : Nat) : ∃ P ∈ parts n, P.length = n := by
  obtain ⟨P, hP, hc⟩ := parts_all (r := fun u v => u = v) (fun u => rfl) (fun u v c => c.symm) (fun u v w a b => a.trans b) n
  have pk := parts_ok hP
  refine ⟨P, hP, ?_⟩
  have hl := pk.len
  have e : ∀ L : List (List Int), (∀ S ∈ L, S ∈ P) → sumP (fun S => (S.length : Int)) L = L.length := fun L => by
    induction L with
    | nil => intro _; rfl
    | cons S L ih =>
      intro h
      rw [sumP_cons, ih fun T hT => h T (List.mem_cons_of_mem _ hT), List.length_cons]
      have hS := h S List.mem_cons_self
      obtain ⟨s1, _, s3⟩ := mem_nsets.mp (pk.sub S hS)
      have : S.length = 1 := by
        cases S with
        | nil => simp at s3
        | cons a r =>
          cases r with
          | nil => rfl
          | cons b r =>
            have := (hc _ hS).1 a List.mem_cons_self b (List.mem_cons_of_mem _ List.mem_cons_self)
            have := (List.pairwise_cons.mp s1).1 b List.mem_cons_self
            omega
      omega
  rw [e P fun S hS => hS] at hl
  omega
/-! ### the weakest partition -/
def stepP (es : List (Int × Int)) (o : Option (List (List Int))) (P : List (List Int)) : Option (List (List Int)) := match o with
  | none => some P
  | some B => if crs es P * ((B.length : Int) - 1) < crs es B * ((P.length : Int) - 1) then some P else some B
def bestP (n : Nat) (es : List (Int × Int)) : Option (List (List Int)) := (parts n).tail.foldl (stepP es) none
theorem tail_two : ([2, 3, 4, 5].all fun n => (match parts n with | [] => false | A :: r => (A.length == 1) && !r.isEmpty && r.all fun P => decide (2 ≤ P.length) && decide (P.length ≤ 5))) = true := by decide +kernel
theorem tail_ok {n : Nat} (h2 : 2 ≤ n) (h5 : n ≤ 5) : ∃ A r, parts n = A :: r ∧ A.length = 1 ∧ r ≠ [] ∧ ∀ P ∈ r, 2 ≤ P.length ∧ P.length ≤ 5 := by
  have h := tail_two
  rw [List.all_eq_true] at h
  have := h n (by simp; omega)
  cases q : parts n with
  | nil => rw [q] at this; cases this
  | cons A r =>
    rw [q] at this
    dsimp only at this
    rw [Bool.and_eq_true, Bool.and_eq_true, List.all_eq_true, beq_iff_eq] at this
    refine ⟨A, r, rfl, this.1.1, fun z => ?_, fun P hP => ?_⟩
    · rw [z] at this
      exact absurd this.1.2 Bool.false_ne_true
    · have := this.2 P hP
      rw [Bool.and_eq_true] at this
      exact ⟨of_decide_eq_true this.1, of_decide_eq_true this.2⟩
theorem bestP_go : ∀ {xs don : List (List (List Int))} {B : List (List Int)}, (∀ P ∈ don ++ xs, 2 ≤ P.length) → B ∈ don → (∀ T ∈ don, crs es B * ((T.length : Int) - 1) ≤ crs es T * ((B.length : Int) - 1)) →
    ∃ B', xs.foldl (stepP es) (some B) = some B' ∧ B' ∈ don ++ xs ∧ ∀ T ∈ don ++ xs, crs es B' * ((T.length : Int) - 1) ≤ crs es T * ((B'.length : Int) - 1)
  | [], don, B, _, h1, h2 => by
    rw [List.append_nil]
    exact ⟨B, rfl, h1, h2⟩
  | P :: xs, don, B, hl, h1, h2 => by
    rw [List.foldl_cons, show don ++ P :: xs = (don ++ [P]) ++ xs by simp]
    have lB := hl B (List.mem_append_left _ h1)
    have lP := hl P (List.mem_append_right _ List.mem_cons_self)
    unfold stepP
    dsimp only
    by_cases q : crs es P * ((B.length : Int) - 1) < crs es B * ((P.length : Int) - 1)
    · rw [if_pos q]
      refine bestP_go (by rw [List.append_assoc]; exact hl) (List.mem_append_right _ (List.mem_singleton.mpr rfl)) fun T hT => ?_
      rcases List.mem_append.mp hT with z | z
      · have lT := hl T (List.mem_append_left _ z)
        have a := h2 T z
        apply Classical.byContradiction
        intro w
        have w : crs es T * ((P.length : Int) - 1) < crs es P * ((T.length : Int) - 1) := by omega
        have c1 : crs es B * ((T.length : Int) - 1) * ((P.length : Int) - 1) ≤ crs es T * ((B.length : Int) - 1) * ((P.length : Int) - 1) := Int.mul_le_mul_of_nonneg_right a (by omega)
        have c2 : crs es P * ((B.length : Int) - 1) * ((T.length : Int) - 1) < crs es B * ((P.length : Int) - 1) * ((T.length : Int) - 1) := Int.mul_lt_mul_of_pos_right q (by omega)
        have c3 : crs es T * ((P.length : Int) - 1) * ((B.length : Int) - 1) < crs es P * ((T.length : Int) - 1) * ((B.length : Int) - 1) := Int.mul_lt_mul_of_pos_right w (by omega)
        have e1 := Int.mul_right_comm (crs es B) ((T.length : Int) - 1) ((P.length : Int) - 1)
        have e2 := Int.mul_right_comm (crs es P) ((B.length : Int) - 1) ((T.length : Int) - 1)
        have e3 := Int.mul_right_comm (crs es T) ((P.length : Int) - 1) ((B.length : Int) - 1)
        omega
      · rw [List.mem_singleton] at z
        rw [z]
        exact Int.le_refl _
    · rw [if_neg q]
      refine bestP_go (by rw [List.append_assoc]; exact hl) (List.mem_append_left _ h1) fun T hT => ?_
      rcases List.mem_append.mp hT with z | z
      · exact h2 T z
      · rw [List.mem_singleton] at z
        rw [z]
        omega
theorem bestP_ok (h2 : 2 ≤ n) (h5 : n ≤ 5) : ∃ B, bestP n es = some B ∧ B ∈ parts n ∧ 2 ≤ B.length ∧ B.length ≤ 5 ∧ ∀ T ∈ parts n, 2 ≤ T.length → crs es B * ((T.length : Int) - 1) ≤ crs es T * ((B.length : Int) - 1) := by
  obtain ⟨A, r, e, hA, hr, hl⟩ := tail_ok h2 h5
  unfold bestP
  rw [e, List.tail_cons]
  cases r with
  | nil => exact absurd rfl hr
  | cons P r =>
    obtain ⟨B, b1, b2, b3⟩ := bestP_go (es := es) (xs := r) (don := [P]) (B := P) (fun Q hQ => (hl Q hQ).1) (List.mem_singleton.mpr rfl) (fun T hT => by rw [List.mem_singleton] at hT; rw [hT]; exact Int.le_refl _)
    refine ⟨B, b1, List.mem_cons_of_mem _ b2, (hl B b2).1, (hl B b2).2, fun T hT h2 => ?_⟩
    rcases List.mem_cons.mp hT with z | z
    · rw [z] at h2; omega
    · exact b3 T z
/-- connected exactly if something crosses the weakest one -/
theorem conn_best (ok : EsOk n es) (n2 : 2 ≤ n) (n5 : n ≤ 5) {B : List (List Int)} (hB : bestP n es = some B) : 0 < crs es B ↔ comps n es = 1 := by
  obtain ⟨B', b0, b1, b2, b3, b4⟩ := bestP_ok (es := es) n2 n5
  rw [hB] at b0
  cases b0
  have c1 := comps_pos (by omega) ok
  constructor
  · intro h
    refine Classical.byContradiction fun z => ?_
    obtain ⟨P, p1, p2, p3⟩ := apart ok (by omega) (by omega)
    have := b4 P p1 p2
    rw [p3, Int.zero_mul] at this
    have : 0 < crs es B * ((P.length : Int) - 1) := Int.mul_pos h (by omega)
    omega
  · intro h
    have := cross_comps (parts_ok b1) ok
    omega
end
end Ip

set_option maxHeartbeats 4000000
namespace Ip
open PySem
/-! ### what is missing -/
section
variable {n k : Nat} {E es : List (Int × Int)} {cs : List (Option Int)} {P : List (List Int)}
def gap (es : List (Int × Int)) (k : Int) (P : List (List Int)) : Int := k * ((P.length : Int) - 1) - crs es P
theorem gap_le (C : Ctx es cs k n) (h : PartOk n P) : gap es k P ≤ (k : Int) * ((n : Int) - 1) - colN es cs k := by
  unfold gap
  rw [col_split (cs := cs) (k := k) (es := es) h, crs_eq h]
  have h1 : sumP (fun S => (colIn es cs k S : Nat)) P ≤ sumP (fun S => (k : Int) * ((S.length : Int) - 1)) P := sumP_le fun S hS => col_bound C (h.sub S hS)
  rw [sumP_sub, h.len] at h1
  have h2 : ((ids es.length).filter fun x => hasL cs k x && !inP es P x).length ≤ ((ids es.length).filter fun x => !inP es P x).length := nodup_le ((ids_nodup _).filter _) fun x hx => by
    obtain ⟨x1, x2⟩ := List.mem_filter.mp hx
    rw [Bool.and_eq_true] at x2
    exact List.mem_filter.mpr ⟨x1, x2.2⟩
  have e1 : (k : Int) * ((n : Int) - 1) = k * n - k := by rw [Int.mul_sub, Int.mul_one]
  have e2 : (k : Int) * ((n : Int) - P.length) = k * n - k * P.length := Int.mul_sub ..
  have e3 : (k : Int) * ((P.length : Int) - 1) = k * P.length - k := by rw [Int.mul_sub, Int.mul_one]
  omega
theorem gap_full (C : Ctx es cs k n) (hf : ∀ x : Nat, cs[x]? = some none → Full es cs k n x) : ∃ P ∈ parts n, gap es k P = (k : Int) * ((n : Int) - 1) - colN es cs k := by
  obtain ⟨P, hP, e⟩ := full_part C hf
  refine ⟨P, hP, ?_⟩
  unfold gap
  have e1 : (k : Int) * ((n : Int) - 1) = k * n - k := by rw [Int.mul_sub, Int.mul_one]
  have e2 : (k : Int) * ((n : Int) - P.length) = k * n - k * P.length := Int.mul_sub ..
  have e3 : (k : Int) * ((P.length : Int) - 1) = k * P.length - k := by rw [Int.mul_sub, Int.mul_one]
  omega
/-! the first greatest -/
def stepG (es : List (Int × Int)) (k : Int) (o : Option (List (List Int))) (P : List (List Int)) : Option (List (List Int)) := match o with
  | none => some P
  | some B => if gap es k B < gap es k P then some P else some B
theorem gap_go {kk : Int} : ∀ {xs don : List (List (List Int))} {B : List (List Int)} {i : Nat}, don[i]? = some B → (∀ (j : Nat) (T : List (List Int)), j < i → don[j]? = some T → gap es kk T < gap es kk B) → (∀ T ∈ don, gap es kk T ≤ gap es kk B) →
    ∃ B' i', xs.foldl (stepG es kk) (some B) = some B' ∧ (don ++ xs)[i']? = some B' ∧ (∀ (j : Nat) (T : List (List Int)), j < i' → (don ++ xs)[j]? = some T → gap es kk T < gap es kk B') ∧ ∀ T ∈ don ++ xs, gap es kk T ≤ gap es kk B'
  | [], don, B, i, h1, h2, h3 => by
    rw [List.append_nil]
    exact ⟨B, i, rfl, h1, h2, h3⟩
  | P :: xs, don, B, i, h1, h2, h3 => by
    rw [List.foldl_cons, show don ++ P :: xs = (don ++ [P]) ++ xs by simp]
    have hi := (List.getElem?_eq_some_iff.mp h1).1
    unfold stepG
    dsimp only
    by_cases q : gap es kk B < gap es kk P
    · rw [if_pos q]
      refine gap_go (don := don ++ [P]) (i := don.length) (by rw [List.getElem?_append_right (Nat.le_refl _), Nat.sub_self]; rfl) (fun j T hj hT => ?_) fun T hT => ?_
      · rw [List.getElem?_append_left hj] at hT
        have := h3 T (List.mem_of_getElem? hT)
        omega
      · rcases List.mem_append.mp hT with z | z
        · have := h3 T z
          omega
        · rw [List.mem_singleton] at z
          rw [z]
          exact Int.le_refl _
    · rw [if_neg q]
      refine gap_go (don := don ++ [P]) (i := i) (by rw [List.getElem?_append_left hi]; exact h1) (fun j T hj hT => ?_) fun T hT => ?_
      · rw [List.getElem?_append_left (by omega)] at hT
        exact h2 j T hj hT
      · rcases List.mem_append.mp hT with z | z
        · exact h3 T z
        · rw [List.mem_singleton] at z
          rw [z]
          omega
theorem fold_max {a : Int} : ∀ {xs : List Int} {n : Int}, (∀ x ∈ n :: xs, x ≤ a) → a ∈ n :: xs → xs.foldl max n = a
  | [], n, _, h => by rw [List.mem_singleton] at h; exact h.symm
  | x :: xs, n, hl, h => by
    rw [List.foldl_cons]
    have l1 := hl n List.mem_cons_self
    have l2 := hl x (List.mem_cons_of_mem _ List.mem_cons_self)
    refine fold_max (fun y hy => ?_) ?_
    · rcases List.mem_cons.mp hy with e | e
      · rw [e]; omega
      · exact hl y (List.mem_cons_of_mem _ (List.mem_cons_of_mem _ e))
    · rcases List.mem_cons.mp h with e | e
      · have : max n x = a := by omega
        rw [this]; exact List.mem_cons_self
      · rcases List.mem_cons.mp e with e | e
        · have : max n x = a := by omega
          rw [this]; exact List.mem_cons_self
        · exact List.mem_cons_of_mem _ e
theorem idx_first {f : List (List Int) → Int} : ∀ {L : List (List (List Int))} {i : Nat} {B : List (List Int)}, L[i]? = some B → (∀ (j : Nat) (T : List (List Int)), j < i → L[j]? = some T → f T ≠ f B) → (L.map f).idxOf (f B) = i
  | [], i, B, h, _ => by cases h
  | A :: L, 0, B, h, _ => by
    cases h
    rw [List.map_cons, List.idxOf_cons_self]
  | A :: L, i + 1, B, h, hn => by
    have ne : (f A == f B) = false := beq_eq_false_iff_ne.mpr (hn 0 A (by omega) rfl)
    rw [List.map_cons, List.idxOf_cons, ne, idx_first (L := L) (i := i) h fun j T hj hT => hn (j + 1) T (by omega) hT]
    rfl
/-! ### the new edges -/
def zc (n : Nat) (E : List (Int × Int)) : List (Int × Int) := (sortU (mks n E)).tail.map fun m => ((0 : Int), m)
theorem sortU_zero (n1 : 1 ≤ n) (ok : EsOk n E) : sortU (mks n E) = 0 :: (sortU (mks n E)).tail := by
  obtain ⟨l, f⟩ := mks_ok ok
  have m0 : mk (mks n E) 0 = 0 := by have := l.lo 0 (by omega) (by omega); omega
  have h0 : (0 : Int) ∈ sortU (mks n E) := sortU_mem.mpr ((mem_mks ok).mpr ⟨0, by omega, m0⟩)
  have pos : ∀ x ∈ sortU (mks n E), 0 ≤ x := fun x hx => by
    obtain ⟨v, hv, rfl⟩ := (mem_mks ok).mp (sortU_mem.mp hx)
    exact (l.lo v hv.1 hv.2).1
  have pw := sortU_lt (mks n E)
  cases q : sortU (mks n E) with
  | nil => rw [q] at h0; cases h0
  | cons a r =>
    rw [q] at h0 pos pw
    rw [List.tail_cons]
    congr 1
    rcases List.mem_cons.mp h0 with e | e
    · exact e.symm
    · have := (List.pairwise_cons.mp pw).1 0 e
      have := pos a List.mem_cons_self
      omega
theorem mark_self (ok : EsOk n E) {m : Int} (hm : m ∈ sortU (mks n E)) : (0 ≤ m ∧ m < (n : Int)) ∧ mk (mks n E) m = m := by
  obtain ⟨l, f⟩ := mks_ok ok
  obtain ⟨v, hv, e⟩ := (mem_mks ok).mp (sortU_mem.mp hm)
  have h1 := l.lo v hv.1 hv.2
  have h2 := l.con v hv.1 hv.2
  rw [e] at h1 h2
  refine ⟨by omega, ?_⟩
  rw [f.con h2]
  exact e
/-- a group's first node is its mark -/
theorem grp_head (ok : EsOk n E) {m : Int} (hm : m ∈ sortU (mks n E)) : ∃ r, ((ids n).filter fun v => mk (mks n E) v == m) = m :: r := by
  obtain ⟨hr, hs⟩ := mark_self ok hm
  have l := (mks_ok ok).1
  have pw : ((ids n).filter fun v => mk (mks n E) v == m).Pairwise (· < ·) := (ids_pairwise n).filter _
  have hin : m ∈ (ids n).filter fun v => mk (mks n E) v == m := List.mem_filter.mpr ⟨mem_ids.mpr hr, beq_iff_eq.mpr hs⟩
  have lo : ∀ v ∈ (ids n).filter (fun v => mk (mks n E) v == m), m ≤ v := fun v hv => by
    obtain ⟨h1, h2⟩ := List.mem_filter.mp hv
    have := mem_ids.mp h1
    have := (l.lo v this.1 this.2).2
    rw [beq_iff_eq.mp h2] at this
    exact this
  cases q : (ids n).filter fun v => mk (mks n E) v == m with
  | nil => rw [q] at hin; cases hin
  | cons a r =>
    rw [q] at pw hin lo
    refine ⟨r, ?_⟩
    congr 1
    rcases List.mem_cons.mp hin with e | e
    · exact e.symm
    · have := (List.pairwise_cons.mp pw).1 m e
      have := lo a List.mem_cons_self
      omega
theorem zc_ok (n1 : 1 ≤ n) (ok : EsOk n E) : EsOk n (zc n E) := fun p hp => by
  obtain ⟨m, hm, rfl⟩ := List.mem_map.mp hp
  have z := sortU_zero n1 ok
  have pw := sortU_lt (mks n E)
  have hin : m ∈ sortU (mks n E) := List.mem_of_mem_tail hm
  have := (mark_self ok hin).1
  rw [z] at pw
  have := (List.pairwise_cons.mp pw).1 m hm
  exact ⟨by show (0 : Int) ≤ 0; omega, this, by show m < _; omega⟩
theorem zc_len (n1 : 1 ≤ n) (ok : EsOk n E) : (zc n E).length + 1 = comps n E := by
  unfold zc comps
  rw [List.length_map]
  conv => rhs; rw [sortU_zero n1 ok]
  rfl
theorem zc_comps (n1 : 1 ≤ n) (ok : EsOk n E) : comps n (E ++ zc n E) = 1 := by
  have ok2 : EsOk n (E ++ zc n E) := fun p hp => (List.mem_append.mp hp).elim (ok p) (zc_ok n1 ok p)
  have c1 := comps_pos n1 ok2
  have c2 := comps_le ok2 (S := ids n) (u := 0) (ids_nodup n) (fun v hv => mem_ids.mp hv) (fun v hv => ?_) (mem_ids.mpr (by omega))
  · rw [ids_len] at c2
    omega
  · have hv := mem_ids.mp hv
    obtain ⟨l, f⟩ := mks_ok ok
    have h2 := (l.con v hv.1 hv.2).mono (fs := E ++ zc n E) fun p hp => List.mem_append_left _ hp
    have hin : mk (mks n E) v ∈ sortU (mks n E) := sortU_mem.mpr ((mem_mks ok).mpr ⟨v, hv, rfl⟩)
    rw [sortU_zero n1 ok] at hin
    rcases List.mem_cons.mp hin with e | e
    · rw [e] at h2
      exact h2
    · exact Con.trans (.edge (p := ((0 : Int), mk (mks n E) v)) (List.mem_append_right _ (List.mem_map.mpr ⟨_, e, rfl⟩)) (.refl _)) h2
/-- all the new edges -/
def rein (n k : Nat) (es : List (Int × Int)) (cs : List (Option Int)) : List (Int × Int) := (ids k).flatMap fun c => zc n ((trC es cs c).map (edgeOf es))
theorem rein_ok (C : Ctx es cs k n) (n1 : 1 ≤ n) : EsOk n (rein n k es cs) := fun p hp => by
  obtain ⟨c, _, h⟩ := List.mem_flatMap.mp hp
  exact zc_ok n1 (trC_ok C) p h
theorem flat_sum {f : Int → List (Int × Int)} {p : Int × Int → Bool} : ∀ {L : List Int}, (((L.flatMap f).filter p).length : Int) = sumN (fun c => (((f c).filter p).length : Nat)) L
  | [] => rfl
  | c :: L => by
    rw [List.flatMap_cons, List.filter_append, List.length_append, sumN_cons, ← flat_sum (L := L)]
    omega
theorem flat_len2 {f : Int → List (Int × Int)} : ∀ {L : List Int}, ((L.flatMap f).length : Int) = sumN (fun c => ((f c).length : Nat)) L
  | [] => rfl
  | c :: L => by
    rw [List.flatMap_cons, List.length_append, sumN_cons, ← flat_len2 (L := L)]
    omega
theorem sumN_add {f g : Int → Int} {L : List Int} : sumN (fun c => f c + g c) L = sumN f L + sumN g L := by
  induction L with
  | nil => rfl
  | cons a L ih => rw [sumN_cons, sumN_cons, sumN_cons, ih]; omega
theorem sumN_const {b : Int} {L : List Int} : sumN (fun _ => b) L = (L.length : Int) * b := by
  induction L with
  | nil => show (0 : Int) = _; simp
  | cons a L ih => rw [sumN_cons, ih, List.length_cons, Int.natCast_add, Int.add_mul]; omega
theorem sumN_mono {f g : Int → Int} : ∀ {L : List Int}, (∀ c ∈ L, f c ≤ g c) → sumN f L ≤ sumN g L
  | [], _ => Int.le_refl _
  | a :: L, h => by
    rw [sumN_cons, sumN_cons]
    have := h a List.mem_cons_self
    have := sumN_mono (L := L) fun c hc => h c (List.mem_cons_of_mem _ hc)
    omega
theorem sumN_congr {f g : Int → Int} {L : List Int} (h : ∀ c ∈ L, f c = g c) : sumN f L = sumN g L := by
  unfold sumN
  congr 1
  exact List.map_congr_left h
theorem rein_len (C : Ctx es cs k n) (n1 : 1 ≤ n) : ((rein n k es cs).length : Int) = (k : Int) * ((n : Int) - 1) - colN es cs k := by
  unfold rein
  rw [flat_len2]
  have e : sumN (fun c => ((zc n ((trC es cs c).map (edgeOf es))).length : Nat)) (ids k) + sumN (fun c => ((trC es cs c).length : Nat)) (ids k) = (k : Int) * ((n : Int) - 1) := by
    rw [← sumN_add]
    have := sumN_const (b := (n : Int) - 1) (L := ids k)
    rw [ids_len] at this
    rw [← this]
    refine sumN_congr fun c _ => ?_
    have a := zc_len n1 (trC_ok C (c := c))
    have b := trC_comps C (c := c)
    omega
  rw [sum_trC] at e
  omega
/-- ENOUGH: no partition separates afterwards -/
theorem rein_cross (C : Ctx es cs k n) (n1 : 1 ≤ n) (h : PartOk n P) : (k : Int) * ((P.length : Int) - 1) ≤ crs (es ++ rein n k es cs) P := by
  rw [crs_e h, List.filter_append, List.length_append, Int.natCast_add]
  have e1 : (((rein n k es cs).filter fun e => !inPe P e).length : Int) = sumN (fun c => (((zc n ((trC es cs c).map (edgeOf es))).filter fun e => !inPe P e).length : Nat)) (ids k) := flat_sum
  have e2 : sumN (fun c => ((((trC es cs c).map (edgeOf es)).filter fun e => !inPe P e).length : Nat)) (ids k) ≤ ((es.filter fun e => !inPe P e).length : Nat) := by
    have s := sum_cols (cs := cs) (P := fun x => !inPe P (edgeOf es x)) (L := ids es.length) k
    have t : sumN (fun c => ((((trC es cs c).map (edgeOf es)).filter fun e => !inPe P e).length : Nat)) (ids k) = sumN (fun c => (((ids es.length).filter fun x => hasC cs c x && !inPe P (edgeOf es x)).length : Nat)) (ids k) := sumN_congr fun c _ => by
      rw [filter_by]
      unfold trC
      rw [List.filter_filter]
      congr 2
      refine List.filter_congr fun x _ => Bool.and_comm ..
    rw [t, s]
    have u : ((ids es.length).filter fun x => hasL cs k x && !inPe P (edgeOf es x)).length ≤ ((ids es.length).filter fun x => !inPe P (edgeOf es x)).length := nodup_le ((ids_nodup _).filter _) fun x hx => by
      obtain ⟨x1, x2⟩ := List.mem_filter.mp hx
      rw [Bool.and_eq_true] at x2
      exact List.mem_filter.mpr ⟨x1, x2.2⟩
    have v : ((ids es.length).filter fun x => !inPe P (edgeOf es x)).length = (es.filter fun e => !inPe P e).length := by
      have e := eds_ids (es := es)
      unfold eds at e
      conv => rhs; rw [← e, filter_by]
    omega
  have e3 : (k : Int) * ((P.length : Int) - 1) ≤ sumN (fun c => ((((trC es cs c).map (edgeOf es)).filter fun e => !inPe P e).length : Nat) + (((zc n ((trC es cs c).map (edgeOf es))).filter fun e => !inPe P e).length : Nat)) (ids k) := by
    have := sumN_const (b := (P.length : Int) - 1) (L := ids k)
    rw [ids_len] at this
    rw [← this]
    refine sumN_mono fun c _ => ?_
    have ok := trC_ok C (c := c)
    have ok2 : EsOk n ((trC es cs c).map (edgeOf es) ++ zc n ((trC es cs c).map (edgeOf es))) := fun p hp => (List.mem_append.mp hp).elim (ok p) (zc_ok n1 ok p)
    have a := cross_comps h ok2
    rw [zc_comps n1 ok, crs_e h, List.filter_append, List.length_append] at a
    omega
  rw [sumN_add] at e3
  omega
end
end Ip

set_option maxHeartbeats 4000000
namespace Ip
open PySem
/-! ### texts of tuples of figures -/
def figs (s : Str) : List Int := s.cps.toList.filterMap fun c : Nat => if 48 ≤ c ∧ c ≤ 57 then some (((c - 48 : Nat) : Nat) : Int) else none
theorem figs_app (a b : Str) : figs (a ++ b) = figs a ++ figs b := by
  unfold figs
  rw [Str.cps_append, Array.toList_append, List.filterMap_append]
def small (s : Str) : Prop := ∀ c ∈ s.cps.toList, c < 128
theorem small_app {a b : Str} (ha : small a) (hb : small b) : small (a ++ b) := fun c hc => by
  rw [Str.cps_append, Array.toList_append] at hc
  exact (List.mem_append.mp hc).elim (ha c) (hb c)
theorem len_app (a b : Str) : (a ++ b).length = a.length + b.length := Str.length_append a b
theorem fig_one {i : Int} (h0 : 0 ≤ i) (h9 : i ≤ 9) : figs (toString i : String) = [i] ∧ small (toString i : String) ∧ ((toString i : String) : Str).length = 1 := by
  have : i = 0 ∨ i = 1 ∨ i = 2 ∨ i = 3 ∨ i = 4 ∨ i = 5 ∨ i = 6 ∨ i = 7 ∨ i = 8 ∨ i = 9 := by omega
  unfold small
  rcases this with rfl | rfl | rfl | rfl | rfl | rfl | rfl | rfl | rfl | rfl <;> decide +kernel
theorem all_ints_shown : ∀ S : List Int, PyData.shownAll (S.map .int) = S.map fun i => ((toString i : String) : Str)
  | [] => by rw [List.map_nil, PyData.shownAll]; rfl
  | i :: S => by rw [List.map_cons, PyData.shownAll, PyData.shown, all_ints_shown S]; rfl
theorem join_figs : ∀ {S : List Int}, (∀ i ∈ S, 0 ≤ i ∧ i ≤ 9) → figs (Str.join (", " : String) (S.map fun i => ((toString i : String) : Str))) = S ∧ small (Str.join (", " : String) (S.map fun i => ((toString i : String) : Str))) ∧ (Str.join (", " : String) (S.map fun i => ((toString i : String) : Str))).length ≤ 3 * S.length
  | [], _ => by
    unfold small
    decide +kernel
  | [i], h => by
    obtain ⟨a, b, c⟩ := fig_one (h i (by simp)).1 (h i (by simp)).2
    exact ⟨a, b, by show ((toString i : String) : Str).length ≤ 3; omega⟩
  | i :: j :: S, h => by
    obtain ⟨a, b, c⟩ := fig_one (h i (by simp)).1 (h i (by simp)).2
    obtain ⟨r1, r2, r3⟩ := join_figs (S := j :: S) fun x hx => h x (List.mem_cons_of_mem _ hx)
    have e : Str.join (", " : String) ((i :: j :: S).map fun i => ((toString i : String) : Str)) = ((toString i : String) : Str) ++ ((", " : String) : Str) ++ Str.join (", " : String) ((j :: S).map fun i => ((toString i : String) : Str)) := rfl
    have s0 : figs ((", " : String) : Str) = [] := by decide +kernel
    have s1 : small ((", " : String) : Str) := by unfold small; decide +kernel
    have s2 : ((", " : String) : Str).length = 2 := by decide +kernel
    rw [e]
    refine ⟨?_, small_app (small_app b s1) r2, ?_⟩
    · rw [figs_app, figs_app, a, s0, r1]
      rfl
    · rw [len_app, len_app, c, s2, List.length_cons]
      omega
theorem tup_figs {S : List Int} (h : ∀ i ∈ S, 0 ≤ i ∧ i ≤ 9) : figs (PyData.shown (tD S)) = S ∧ small (PyData.shown (tD S)) ∧ (PyData.shown (tD S)).length ≤ 3 * S.length + 3 := by
  obtain ⟨r1, r2, r3⟩ := join_figs h
  have e : PyData.shown (tD S) = (("(" : String) : Str) ++ Str.join (", " : String) (S.map fun i => ((toString i : String) : Str)) ++ ((if (S.map fun i => ((toString i : String) : Str)).length == 1 then ",)" else ")" : String) : Str) := by
    unfold tD
    rw [PyData.shown, all_ints_shown]
    rfl
  rw [e]
  have s0 : figs (("(" : String) : Str) = [] := by decide +kernel
  have s1 : small (("(" : String) : Str) := by unfold small; decide +kernel
  have s2 : (("(" : String) : Str).length = 1 := by decide +kernel
  have t : ∀ b : Bool, figs ((if b then ",)" else ")" : String) : Str) = [] ∧ small ((if b then ",)" else ")" : String) : Str) ∧ ((if b then ",)" else ")" : String) : Str).length ≤ 2 := by
    intro b
    unfold small
    cases b <;> decide +kernel
  obtain ⟨t1, t2, t3⟩ := t ((S.map fun i => ((toString i : String) : Str)).length == 1)
  refine ⟨?_, small_app (small_app s1 r2) t2, ?_⟩
  · rw [figs_app, figs_app, s0, r1, t1, List.append_nil]
    rfl
  · rw [len_app, len_app, s2]
    omega
/-- the first sign -/
def first (s : Str) : Option Nat := s.cps.toList.head?
theorem first_app {a b : Str} {c : Nat} (h : first a = some c) : first (a ++ b) = some c := by
  unfold first at *
  rw [Str.cps_append, Array.toList_append, List.head?_append, h]
  rfl
theorem tup_first {S : List Int} : first (PyData.shown (tD S)) = some 40 := by
  unfold tD
  rw [PyData.shown]
  exact first_app (first_app (by decide +kernel))
theorem text_first : ∀ {ts : List Str} {k : Nat} {acc : Str} {c : Nat}, first acc = some c → first (textFrom k acc ts) = some c
  | [], _, _, _, h => h
  | t :: ts, k, acc, c, h => by
    unfold textFrom
    exact text_first (first_app (first_app h))
theorem lst_first {xs : List D} : first (PyData.shown (.list xs)) = some 91 := by
  rw [PyData.shown]
  exact first_app (text_first (by decide +kernel))
theorem text_small : ∀ {ts : List Str} {k : Nat} {acc : Str}, small acc → (∀ t ∈ ts, small t ∧ t.length ≤ 5) → small (textFrom k acc ts) ∧ (textFrom k acc ts).length ≤ acc.length + 7 * ts.length
  | [], _, _, h, _ => ⟨h, Nat.le_refl _⟩
  | t :: ts, k, acc, h, ht => by
    unfold textFrom
    have sep : ∀ b : Prop, ∀ _ : Decidable b, small ((if b then ", " else "" : String) : Str) ∧ ((if b then ", " else "" : String) : Str).length ≤ 2 := by
      intro b hb
      unfold small
      by_cases q : b
      · rw [if_pos q]; decide +kernel
      · rw [if_neg q]; decide +kernel
    obtain ⟨s1, s2⟩ := sep (k > 0) inferInstance
    obtain ⟨t1, t2⟩ := ht t List.mem_cons_self
    obtain ⟨r1, r2⟩ := text_small (ts := ts) (k := k + 1) (small_app (small_app h s1) t1) fun x hx => ht x (List.mem_cons_of_mem _ hx)
    refine ⟨r1, ?_⟩
    rw [len_app, len_app] at r2
    rw [List.length_cons]
    omega
theorem lst_small {S : List Int} (h : ∀ i ∈ S, 0 ≤ i ∧ i ≤ 9) : small (PyData.shown (.list (S.map .int))) ∧ (PyData.shown (.list (S.map .int))).length ≤ 7 * S.length + 2 := by
  rw [PyData.shown, all_ints_shown]
  unfold listText
  have s1 : small (("[" : String) : Str) := by unfold small; decide +kernel
  have s2 : small (("]" : String) : Str) := by unfold small; decide +kernel
  have l1 : (("[" : String) : Str).length = 1 := by decide +kernel
  have l2 : (("]" : String) : Str).length = 1 := by decide +kernel
  obtain ⟨r1, r2⟩ := text_small (ts := S.map fun i => ((toString i : String) : Str)) (k := 0) s1 fun t ht => by
    obtain ⟨i, hi, rfl⟩ := List.mem_map.mp ht
    obtain ⟨_, b, c⟩ := fig_one (h i hi).1 (h i hi).2
    exact ⟨b, by omega⟩
  refine ⟨small_app r1 s2, ?_⟩
  rw [len_app, l2]
  rw [l1, List.length_map] at r2
  omega
theorem small_ok {s : Str} (h : small s) : SeqAt.shaped (.str s) = true := by
  show (PyData.strOk s && true) = true
  rw [Bool.and_true]
  unfold PyData.strOk
  rw [Array.all_eq_true']
  intro c hc
  exact decide_eq_true (Nat.lt_trans (h c (Array.mem_toList_iff.mpr hc)) (by decide))
end Ip

set_option maxHeartbeats 4000000
namespace Ip
open PySem PySem.Builtin PySem.Builtin.Str PyProof.Rows
/-! ### texts split at one sign -/
open TL in
theorem joinL_spl (s : Nat) : ∀ (l acc : List Nat), joinL [s] (spl [s] 0 acc l) = acc ++ l
  | [], acc => by rw [spl_nil, List.append_nil]; rfl
  | c :: r, acc => by
    by_cases h : c = s
    · subst h
      rw [spl_hit (by simp [pre])]
      have ih := joinL_spl c r []
      show joinL [c] (acc :: spl [c] 0 [] r) = _
      cases q : spl [c] 0 [] r with
      | nil =>
        rw [q] at ih
        have : r = [] := by simpa [joinL] using ih.symm
        subst this
        rw [spl_nil] at q
        cases q
      | cons p t =>
        rw [q] at ih
        show acc ++ ([c] ++ joinL [c] (p :: t)) = _
        rw [ih]
        rfl
    · rw [spl_miss (by simp [pre, h])]
      rw [joinL_spl s r (acc ++ [c]), List.append_assoc]
      rfl
open TL in
theorem spl_free (s : Nat) : ∀ (l acc : List Nat), s ∉ acc → ∀ p ∈ spl [s] 0 acc l, s ∉ p
  | [], acc, h, p, hp => by
    rw [spl_nil] at hp
    rw [List.mem_singleton.mp hp]
    exact h
  | c :: r, acc, h, p, hp => by
    by_cases e : c = s
    · subst e
      rw [spl_hit (by simp [pre])] at hp
      rcases List.mem_cons.mp hp with z | z
      · rw [z]; exact h
      · exact spl_free c r [] (by simp) p z
    · rw [spl_miss (by simp [pre, e])] at hp
      refine spl_free s r (acc ++ [c]) (fun z => ?_) p hp
      rcases List.mem_append.mp z with z | z
      · exact h z
      · exact e (List.mem_singleton.mp z).symm
open TL in
theorem spl_ne (s : Nat) : ∀ (l acc : List Nat), spl [s] 0 acc l ≠ []
  | [], acc => by rw [spl_nil]; simp
  | c :: r, acc => by
    by_cases e : c = s
    · subst e
      rw [spl_hit (by simp [pre])]
      simp
    · rw [spl_miss (by simp [pre, e])]
      exact spl_ne s r _
open TL in
theorem joinL_len {s : Nat} : ∀ {ps : List (List Nat)} {p : List Nat}, p ∈ ps → p.length ≤ (joinL [s] ps).length
  | [q], p, h => by rw [List.mem_singleton.mp h]; exact Nat.le_refl _
  | q :: q2 :: r, p, h => by
    show _ ≤ (q ++ ([s] ++ joinL [s] (q2 :: r))).length
    rw [List.length_append, List.length_append]
    rcases List.mem_cons.mp h with z | z
    · rw [z]; omega
    · have := joinL_len (s := s) z
      omega
open TL in
theorem joinL_mem {s c : Nat} : ∀ {ps : List (List Nat)} {p : List Nat}, p ∈ ps → c ∈ p → c ∈ joinL [s] ps
  | [q], p, h, hc => by rw [List.mem_singleton.mp h] at hc; exact hc
  | q :: q2 :: r, p, h, hc => by
    show _ ∈ (q ++ ([s] ++ joinL [s] (q2 :: r)))
    rcases List.mem_cons.mp h with z | z
    · rw [z] at hc; exact List.mem_append_left _ hc
    · exact List.mem_append_right _ (List.mem_append_right _ (joinL_mem (s := s) z hc))
section
open TL
variable {y : Str} {s : Nat}
theorem tj_split (ey : TL.tl y = [s]) (hk : y.cps.all (· < 256) = true) (x : Str) : Txt.join y (Txt.split x y) = x := by
  refine ext_tl ?_
  rw [join_eq, tl_join, split_spl x y (by rw [ey]; simp) (kind_ok hk), ey, joinL_spl, List.nil_append]
theorem split_ne (ey : TL.tl y = [s]) (hk : y.cps.all (· < 256) = true) (x : Str) : Txt.split x y ≠ [] := fun e => by
  have := split_spl x y (by rw [ey]; simp) (kind_ok hk)
  rw [e, ey] at this
  exact spl_ne s _ _ this.symm
theorem splitP_len (ey : TL.tl y = [s]) (hk : y.cps.all (· < 256) = true) {x p : Str} (hp : p ∈ Txt.split x y) : p.length ≤ x.length := by
  have h := split_spl x y (by rw [ey]; simp) (kind_ok hk)
  have hm : TL.tl p ∈ spl (TL.tl y) 0 [] (TL.tl x) := by rw [← h]; exact List.mem_map_of_mem hp
  rw [ey] at hm
  have := joinL_len (s := s) hm
  rw [joinL_spl, List.nil_append] at this
  rw [len_tl, len_tl]
  exact this
end
theorem splitP_small {y : Str} {s : Nat} (ey : TL.tl y = [s]) (hk : y.cps.all (· < 256) = true) {x p : Str} (hx : small x) (hp : p ∈ Txt.split x y) : small p := fun c hc => by
  have h := TL.split_spl x y (by rw [ey]; simp) (TL.kind_ok hk)
  have hm : TL.tl p ∈ TL.spl (TL.tl y) 0 [] (TL.tl x) := by rw [← h]; exact List.mem_map_of_mem hp
  rw [ey] at hm
  have := joinL_mem (s := s) (c := c) hm hc
  rw [joinL_spl, List.nil_append] at this
  exact hx c this
/-! ### figures -/
abbrev D10 : Str := "0123456789"
def figS (i : Nat) : Str := (toString (i : Int) : String)
def digM (t : Str) : Option Nat := if t.length = 1 then (occurrences D10 t 0 D10.length 1).head? else none
theorem digM_some {t : Str} {i : Nat} (h : digM t = some i) : i ≤ 9 ∧ t = figS i := by
  unfold digM at h
  split at h
  · rename_i hl
    obtain ⟨h1, h2⟩ := PySem.StrLaws.occ_spec D10 t 0 D10.length 1 i (List.mem_of_mem_head? h)
    rw [hl] at h1
    have e10 : D10.length = 10 := by decide +kernel
    rw [e10] at h1
    refine ⟨by omega, ?_⟩
    unfold subAt at h2
    rw [hl] at h2
    have e := eq_of_beq h2
    have : t = ⟨D10.cps.extract i (i + 1)⟩ := by rw [e]
    rw [this]
    have : i = 0 ∨ i = 1 ∨ i = 2 ∨ i = 3 ∨ i = 4 ∨ i = 5 ∨ i = 6 ∨ i = 7 ∨ i = 8 ∨ i = 9 := by omega
    rcases this with rfl | rfl | rfl | rfl | rfl | rfl | rfl | rfl | rfl | rfl <;> decide +kernel
  · cases h
theorem digM_fig {i : Nat} (h : i ≤ 9) : digM (figS i) = some i := by
  have : i = 0 ∨ i = 1 ∨ i = 2 ∨ i = 3 ∨ i = 4 ∨ i = 5 ∨ i = 6 ∨ i = 7 ∨ i = 8 ∨ i = 9 := by omega
  rcases this with rfl | rfl | rfl | rfl | rfl | rfl | rfl | rfl | rfl | rfl <;> decide +kernel
/-! ### lines -/
abbrev SP : Str := " "
abbrev NL : Str := "\n"
theorem tl_SP : TL.tl SP = [32] := by decide +kernel
theorem tl_NL : TL.tl NL = [10] := by decide +kernel
theorem k_SP : SP.cps.all (· < 256) = true := by decide +kernel
theorem k_NL : NL.cps.all (· < 256) = true := by decide +kernel
def nodS (n : Nat) : Str := Txt.join SP ["nodes", figS n]
def edgS (i j : Nat) : Str := Txt.join SP ["edge", figS i, figS j]
def lineN (l : Str) : Option Nat := match Txt.split l SP with
  | [a, t] => if a = "nodes" then digM t else none
  | _ => none
def lineE (l : Str) : Option (Nat × Nat) := match Txt.split l SP with
  | [a, t, u] => if a = "edge" then (match digM t, digM u with | some i, some j => some (i, j) | _, _ => none) else none
  | _ => none
theorem lineN_some {l : Str} {n : Nat} (h : lineN l = some n) : n ≤ 9 ∧ l = nodS n := by
  unfold lineN at h
  split at h
  · rename_i a t e
    split at h
    · rename_i ha
      obtain ⟨h1, h2⟩ := digM_some h
      refine ⟨h1, ?_⟩
      rw [← tj_split tl_SP k_SP l, e, ha, h2]
      rfl
    · cases h
  · cases h
theorem lineE_some {l : Str} {i j : Nat} (h : lineE l = some (i, j)) : i ≤ 9 ∧ j ≤ 9 ∧ l = edgS i j := by
  unfold lineE at h
  split at h
  · rename_i a t u e
    split at h
    · rename_i ha
      split at h
      · rename_i x y h1 h2
        cases h
        obtain ⟨p1, p2⟩ := digM_some h1
        obtain ⟨q1, q2⟩ := digM_some h2
        refine ⟨p1, q1, ?_⟩
        rw [← tj_split tl_SP k_SP l, e, ha, p2, q2]
        rfl
      · cases h
    · cases h
  · cases h
theorem fig_tl {i : Nat} (h : i ≤ 9) : TL.tl (figS i) = [48 + i] := by
  have : i = 0 ∨ i = 1 ∨ i = 2 ∨ i = 3 ∨ i = 4 ∨ i = 5 ∨ i = 6 ∨ i = 7 ∨ i = 8 ∨ i = 9 := by omega
  rcases this with rfl | rfl | rfl | rfl | rfl | rfl | rfl | rfl | rfl | rfl <;> decide +kernel
theorem nd_tl : TL.tl ("nodes" : String) = [110, 111, 100, 101, 115] := by decide +kernel
theorem ed_tl : TL.tl ("edge" : String) = [101, 100, 103, 101] := by decide +kernel
theorem lineN_nod {n : Nat} (h : n ≤ 9) : lineN (nodS n) = some n := by
  have e : Txt.split (nodS n) SP = (["nodes", figS n] : List Str) := TL.split_join tl_SP k_SP (by simp) fun p hp => by
    rcases List.mem_cons.mp hp with z | z
    · rw [z, nd_tl]; decide
    · rw [List.mem_singleton.mp z, fig_tl h]
      intro q
      have := List.mem_singleton.mp q
      omega
  unfold lineN
  rw [e]
  simp [digM_fig h]
theorem lineE_edg {i j : Nat} (hi : i ≤ 9) (hj : j ≤ 9) : lineE (edgS i j) = some (i, j) := by
  have e : Txt.split (edgS i j) SP = (["edge", figS i, figS j] : List Str) := TL.split_join tl_SP k_SP (by simp) fun p hp => by
    simp only [List.mem_cons, List.not_mem_nil, or_false] at hp
    rcases hp with z | z | z
    · rw [z, ed_tl]; decide
    · rw [z, fig_tl hi]
      intro q
      have := List.mem_singleton.mp q
      omega
    · rw [z, fig_tl hj]
      intro q
      have := List.mem_singleton.mp q
      omega
  unfold lineE
  rw [e]
  simp [digM_fig hi, digM_fig hj]
theorem nod_tl {n : Nat} (h : n ≤ 9) : TL.tl (nodS n) = [110, 111, 100, 101, 115, 32, 48 + n] := by
  unfold nodS
  rw [TL.join_eq, TL.tl_join, tl_SP]
  show TL.tl ("nodes" : String) ++ ([32] ++ TL.tl (figS n)) = _
  rw [nd_tl, fig_tl h]
  rfl
theorem edg_tl {i j : Nat} (hi : i ≤ 9) (hj : j ≤ 9) : TL.tl (edgS i j) = [101, 100, 103, 101, 32, 48 + i, 32, 48 + j] := by
  unfold edgS
  rw [TL.join_eq, TL.tl_join, tl_SP]
  show TL.tl ("edge" : String) ++ ([32] ++ (TL.tl (figS i) ++ ([32] ++ TL.tl (figS j)))) = _
  rw [ed_tl, fig_tl hi, fig_tl hj]
  rfl
theorem nod_nl {n : Nat} (h : n ≤ 9) : 10 ∉ TL.tl (nodS n) := by
  rw [nod_tl h]
  simp
  omega
theorem edg_nl {i j : Nat} (hi : i ≤ 9) (hj : j ≤ 9) : 10 ∉ TL.tl (edgS i j) := by
  rw [edg_tl hi hj]
  simp
  omega
theorem nod_len {n : Nat} (h : n ≤ 9) : (nodS n).length = 7 := by rw [TL.len_tl, nod_tl h]; rfl
theorem edg_len {i j : Nat} (hi : i ≤ 9) (hj : j ≤ 9) : (edgS i j).length = 8 := by rw [TL.len_tl, edg_tl hi hj]; rfl
/-- as the law writes them -/
theorem nod_app (n : Nat) : (("nodes " : String) : Str) ++ figS n = nodS n := by
  refine TL.ext_tl ?_
  unfold nodS
  rw [TL.tl_append, TL.join_eq, TL.tl_join, tl_SP]
  show _ = TL.tl ("nodes" : String) ++ ([32] ++ TL.tl (figS n))
  rw [← List.append_assoc]
  congr 1
theorem edg_app (i j : Nat) : (("edge " : String) : Str) ++ figS i ++ SP ++ figS j = edgS i j := by
  refine TL.ext_tl ?_
  unfold edgS
  rw [TL.tl_append, TL.tl_append, TL.tl_append, TL.join_eq, TL.tl_join, tl_SP]
  show _ = TL.tl ("edge" : String) ++ ([32] ++ (TL.tl (figS i) ++ ([32] ++ TL.tl (figS j))))
  have : TL.tl ("edge " : String) = TL.tl ("edge" : String) ++ [32] := by decide +kernel
  rw [this]
  simp only [List.append_assoc]
end Ip

set_option maxHeartbeats 4000000
namespace Ip
open PySem PySem.Builtin PySem.Builtin.Str PyProof.Rows
theorem cut_small {z : Str} (h : small z) (lo hi : Option Int) : small (L2.cutS z lo hi) := fun c hc => h c (List.mem_of_mem_drop (List.mem_of_mem_take hc))
open TL in
theorem joinL_of {s c : Nat} : ∀ {ps : List (List Nat)}, c ∈ joinL [s] ps → c = s ∨ ∃ p ∈ ps, c ∈ p
  | [], h => by cases h
  | [q], h => .inr ⟨q, List.mem_singleton.mpr rfl, h⟩
  | q :: q2 :: r, h => by
    have h : c ∈ q ++ ([s] ++ joinL [s] (q2 :: r)) := h
    rcases List.mem_append.mp h with z | z
    · exact .inr ⟨q, List.mem_cons_self, z⟩
    · rcases List.mem_append.mp z with z | z
      · exact .inl (List.mem_singleton.mp z)
      · rcases joinL_of z with z | ⟨p, h1, h2⟩
        · exact .inl z
        · exact .inr ⟨p, List.mem_cons_of_mem _ h1, h2⟩
theorem join_small {ls : List Str} (h : ∀ l ∈ ls, small l) : small (Txt.join NL ls) := fun c hc => by
  have hc : c ∈ TL.tl (Txt.join NL ls) := hc
  rw [TL.join_eq, TL.tl_join, tl_NL] at hc
  rcases joinL_of hc with z | ⟨p, h1, h2⟩
  · rw [z]; decide
  · obtain ⟨l, hl, rfl⟩ := List.mem_map.mp h1
    exact h l hl c h2
theorem sum_le {ls : List Str} {k : Nat} (h : ∀ l ∈ ls, l.length ≤ k) : (ls.map (·.length)).sum ≤ k * ls.length := by
  induction ls with
  | nil => simp
  | cons x r ih =>
    have h1 := h x List.mem_cons_self
    have h2 := ih fun l hl => h l (List.mem_cons_of_mem _ hl)
    rw [List.map_cons, List.sum_cons, List.length_cons, Nat.mul_succ]
    omega
theorem nl_len : NL.length = 1 := by decide +kernel
theorem join_len {ls : List Str} {k : Nat} (h : ∀ l ∈ ls, l.length ≤ k) : (Txt.join NL ls).length ≤ k * ls.length + ls.length := by
  have h1 := StrLaws.join_length_le NL ls
  have h2 := sum_le h
  rw [TL.join_eq]
  rw [nl_len] at h1
  omega
theorem strs_back : ∀ ls : List Str, strsOf (ls.map .str) = some ls
  | [] => rfl
  | x :: r => by
    show (strsOf (r.map .str)).map (x :: ·) = _
    rw [strs_back r]
    rfl
theorem d_join {ls : List Str} {k : Nat} (h : ∀ l ∈ ls, l.length ≤ k) (hl : k * ls.length + ls.length ≤ lim) : joinD NL (.list (ls.map .str)) = .ok (.str (Txt.join NL ls)) := by
  have h2 := sum_le h
  show (match strsOf (ls.map .str) with | some ys => if (ys.map (fun x : Str => x.length)).sum + ys.length * NL.length ≤ lim then Rs.ok (PyData.str (Txt.join NL ys)) else .bad | none => .bad) = _
  rw [strs_back]
  dsimp only
  rw [nl_len, if_pos (by omega)]
/-! ### a graph's lines -/
def lnsI (n : Int) (es : List (Int × Int)) : List Str := nodS n.toNat :: es.map fun p => edgS p.1.toNat p.2.toNat
structure LnOk (ls : List Str) : Prop where
  nl : ∀ l ∈ ls, 10 ∉ TL.tl l
  sm : ∀ l ∈ ls, small l
  ln : ∀ l ∈ ls, l.length ≤ 12
theorem small_tl {l : Str} {xs : List Nat} (h : TL.tl l = xs) (hx : ∀ c ∈ xs, c < 128) : small l := fun c hc => hx c (by rw [← h]; exact hc)
theorem lns_ok {n : Int} {es : List (Int × Int)} (hn : n ≤ 9) (he : ∀ p ∈ es, p.1 ≤ 9 ∧ p.2 ≤ 9) : LnOk (lnsI n es) := by
  have all : ∀ l ∈ lnsI n es, 10 ∉ TL.tl l ∧ small l ∧ l.length ≤ 12 := fun l hl => by
    rcases List.mem_cons.mp hl with z | z
    · subst z
      have hn : n.toNat ≤ 9 := by omega
      refine ⟨nod_nl hn, small_tl (nod_tl hn) fun c hc => ?_, by rw [nod_len hn]; decide⟩
      simp only [List.mem_cons, List.not_mem_nil, or_false] at hc
      omega
    · obtain ⟨p, hp, rfl⟩ := List.mem_map.mp z
      have h1 : p.1.toNat ≤ 9 := by have := he p hp; omega
      have h2 : p.2.toNat ≤ 9 := by have := he p hp; omega
      refine ⟨edg_nl h1 h2, small_tl (edg_tl h1 h2) fun c hc => ?_, by rw [edg_len h1 h2]; decide⟩
      simp only [List.mem_cons, List.not_mem_nil, or_false] at hc
      omega
  exact ⟨fun l hl => (all l hl).1, fun l hl => (all l hl).2.1, fun l hl => (all l hl).2.2⟩
theorem LnOk.app {a b : List Str} (ha : LnOk a) (hb : LnOk b) : LnOk (a ++ b) := by
  have : ∀ {P : Str → Prop}, (∀ l ∈ a, P l) → (∀ l ∈ b, P l) → ∀ l ∈ a ++ b, P l := fun h1 h2 l hl => (List.mem_append.mp hl).elim (h1 l) (h2 l)
  exact ⟨this ha.nl hb.nl, this ha.sm hb.sm, this ha.ln hb.ln⟩
theorem LnOk.sub {a b : List Str} (ha : LnOk a) (h : ∀ l ∈ b, l ∈ a) : LnOk b := ⟨fun l hl => ha.nl l (h l hl), fun l hl => ha.sm l (h l hl), fun l hl => ha.ln l (h l hl)⟩
theorem LnOk.split {ls : List Str} (h : LnOk ls) (hne : ls ≠ []) : Txt.split (Txt.join NL ls) NL = ls := TL.split_join tl_NL k_NL hne h.nl
def wrongE : List Str := ["", "edge 0", "edge 0 10", "edge 0 1 2", "edge  0 1", "nodes 2", "edge 0 x", "Edge 0 1"]
def wrongN : List Str := ["nodes", "nodes 10", "node 2", "", "nodes x", "nodes 2 2"]
theorem wrongE_no : ∀ w ∈ wrongE, lineE w = none := by decide +kernel
theorem wrongN_no : ∀ w ∈ wrongN, lineN w = none := by decide +kernel
theorem wrongE_ok : LnOk wrongE := ⟨by decide +kernel, by unfold small; decide +kernel, by decide +kernel⟩
theorem wrongN_ok : LnOk wrongN := ⟨by decide +kernel, by unfold small; decide +kernel, by decide +kernel⟩
/-- figures, as texts -/
theorem fmt_fig {i : Int} (h0 : 0 ≤ i) (h9 : i ≤ 9) : fmtD (.int i) = .ok (figS i.toNat) := by
  show (if i.natAbs < 2 ^ 64 then Rs.ok ((toString i : String) : Str) else .bad) = _
  rw [if_pos (by omega)]
  unfold figS
  rw [show ((i.toNat : Nat) : Int) = i by omega]
theorem str_fig {i : Int} (h0 : 0 ≤ i) (h9 : i ≤ 9) : blD .strI [.int i] = .ok (.str (figS i.toNat)) := by
  show (if i.natAbs < 2 ^ 64 then Rs.ok (PyData.str ((toString i : String) : Str)) else .bad) = _
  rw [if_pos (by omega)]
  unfold figS
  rw [show ((i.toNat : Nat) : Int) = i by omega]
theorem fig_len {i : Nat} (h : i ≤ 9) : (figS i).length = 1 := by rw [TL.len_tl, fig_tl h]; rfl
theorem add_str {a b : Str} (h : a.length + b.length ≤ lim) : binD .add (.str a) (.str b) = .ok (.str (a ++ b)) := if_pos h
theorem cat_str {a b : Str} (h : a.length + b.length ≤ lim) : catD a (.str b) = .ok (.str (a ++ b)) := if_pos h
theorem nod_appE (n : Nat) : (("nodes " : String) : Str) ++ (figS n ++ (("" : String) : Str)) = nodS n := by
  rw [← nod_app]
  refine TL.ext_tl ?_
  rw [TL.tl_append, TL.tl_append, TL.tl_append, show TL.tl ("" : String) = [] by decide +kernel, List.append_nil]
theorem edg_appE (i j : Nat) : (("edge " : String) : Str) ++ (figS i ++ (SP ++ (figS j ++ (("" : String) : Str)))) = edgS i j := by
  rw [← edg_app]
  refine TL.ext_tl ?_
  simp only [TL.tl_append, show TL.tl ("" : String) = [] by decide +kernel, List.append_nil, List.append_assoc]
end Ip

namespace Lw
open PySem PySem.Spec PyProof.Rows L2 Ip
def topS (i : Nat) : Stmt := PySem.Challenge.pw_sparsegraphs_k21_text.main.body.getD i (.Pass ⟨0, 0, 0, 0⟩)
def cg : Cg := ⟨["in_range", "is_edge", "is_graph", "check_graph", "format_graph", "_law_cell", "_law_row", "_law_graph", "parse_digit", "parse_line", "parse_graph", "_law_parse", "law"], ["GraphError", "InvalidGraph"], [("MAX_NODES", 7), ("MAX_EDGES", 15)], [("DIGITS", "0123456789")], false, true⟩
abbrev s_in_range : Stmt := topS 7
abbrev n_in_range : List Str := ["value", "low", "high"]
abbrev s_is_edge : Stmt := topS 8
abbrev n_is_edge : List Str := ["nodes", "value"]
abbrev s_is_graph : Stmt := topS 9
abbrev n_is_graph : List Str := ["value", "edge"]
abbrev s_check_graph : Stmt := topS 10
abbrev n_check_graph : List Str := ["graph"]
abbrev s_format_graph : Stmt := topS 13
abbrev n_format_graph : List Str := ["graph", "left", "right"]
abbrev s__law_cell : Stmt := topS 18
abbrev n__law_cell : List Str := ["script", "k"]
abbrev s__law_row : Stmt := topS 19
abbrev n__law_row : List Str := ["script", "at", "cell", "found", "time"]
abbrev s__law_graph : Stmt := topS 20
abbrev n__law_graph : List Str := ["script", "at", "most_nodes", "most_edges", "draws", "nodes", "edges", "time", "left", "right"]
abbrev s_parse_digit : Stmt := topS 14
abbrev n_parse_digit : List Str := ["token"]
abbrev s_parse_line : Stmt := topS 15
abbrev n_parse_line : List Str := ["line", "is_first", "tokens", "items"]
abbrev s_parse_graph : Stmt := topS 16
abbrev n_parse_graph : List Str := ["text", "rows", "graph", "number", "line", "row"]
abbrev s__law_parse : Stmt := topS 21
abbrev n__law_parse : List Str := ["text", "e"]
abbrev s_law : Stmt := topS 22
abbrev n_law : List Str := ["script", "draws", "graph", "lines_here", "text", "spot", "new", "changed", "found", "at", "wrong", "left", "right"]
abbrev sm_ParseError_init : Stmt := inClass (topS 2) 0
def ir_in_range : S := (.seq (.ret (.and (.isi .int (.var 0)) (.and (.not (.isi .bool (.var 0))) (.chain .le .le (.var 1) (.var 0) (.var 2))))) .skip)
theorem t_in_range : TFact { cg with px := false } "in_range" s_in_range ["value", "low", "high"] n_in_range 3 ir_in_range :=
  ⟨⟨rfl, rfl, rfl, by decide +kernel, rfl, by decide +kernel, by decide +kernel⟩, rfl, by decide +kernel, fun _ _ _ _ _ _ us hl => match us, hl with | [_, _, _], _ => rfl, [], 60, by kernel_rfl⟩
def ir_is_edge : S := (.seq (.ifS (.or (.not (.isi .tup (.var 1))) (.or (.cmp .ne (.bl .len (.cons (.var 1) .nil)) (.k (.int 2))) (.not (.call 0 (.cons (.idx (.var 1) (.k (.int 0))) (.cons (.k (.int 0)) (.cons (.bin .sub (.var 0) (.k (.int 2))) .nil))))))) (.seq (.ret (.k (.bool false))) .skip) .skip) (.seq (.ret (.call 0 (.cons (.idx (.var 1) (.k (.int 1))) (.cons (.bin .add (.idx (.var 1) (.k (.int 0))) (.k (.int 1))) (.cons (.bin .sub (.var 0) (.k (.int 1))) .nil))))) .skip))
theorem t_is_edge : TFact { cg with px := false } "is_edge" s_is_edge ["nodes", "value"] n_is_edge 2 ir_is_edge :=
  ⟨⟨rfl, rfl, rfl, by decide +kernel, rfl, by decide +kernel, by decide +kernel⟩, rfl, by decide +kernel, fun _ _ _ _ _ _ us hl => match us, hl with | [_, _], _ => rfl, [], 60, by kernel_rfl⟩
def ce_is_graph_0 : E := (.var 1)
def cc_is_graph_0 : E := (.not (.call 1 (.cons (.idx (.var 0) (.k (.int 0))) (.cons (.var 1) .nil))))
def ir_is_graph : S := (.seq (.ifS (.or (.not (.isi .tup (.var 0))) (.or (.cmp .ne (.bl .len (.cons (.var 0) .nil)) (.k (.int 2))) (.not (.call 0 (.cons (.idx (.var 0) (.k (.int 0))) (.cons (.k (.int 1)) (.cons (.k (.int 7)) .nil))))))) (.seq (.ret (.k (.bool false))) .skip) .skip) (.seq (.ifS (.or (.not (.isi .tup (.idx (.var 0) (.k (.int 1))))) (.cmp .gt (.bl .len (.cons (.idx (.var 0) (.k (.int 1))) .nil)) (.k (.int 15)))) (.seq (.ret (.k (.bool false))) .skip) .skip) (.seq (.ret (.not (.comp ce_is_graph_0 (.nm 1) (.idx (.var 0) (.k (.int 1))) cc_is_graph_0 [1]))) .skip)))
theorem t_is_graph : TFact cg "is_graph" s_is_graph ["value"] n_is_graph 1 ir_is_graph :=
  ⟨⟨rfl, rfl, rfl, by decide +kernel, rfl, by decide +kernel, by decide +kernel⟩, rfl, by decide +kernel, fun _ _ _ _ _ _ us hl => match us, hl with | [_], _ => rfl, [], 60, by kernel_rfl⟩
def ir_check_graph : S := (.seq (.ifS (.not (.call 2 (.cons (.var 0) .nil))) (.seq (.rai 1) .skip) .skip) .skip)
theorem t_check_graph : TFact cg "check_graph" s_check_graph ["graph"] n_check_graph 1 ir_check_graph :=
  ⟨⟨rfl, rfl, rfl, by decide +kernel, rfl, by decide +kernel, by decide +kernel⟩, rfl, by decide +kernel, fun _ _ _ _ _ _ us hl => match us, hl with | [_], _ => rfl, [], 60, by kernel_rfl⟩
def ce_format_graph_0 : E := (.fcat (.k (.str "edge ")) (.fcat (.var 1) (.fcat (.k (.str " ")) (.fcat (.var 2) (.k (.str ""))))))
def cc_format_graph_0 : E := (.k (.bool true))
def ir_format_graph : S := (.seq (.exp (.call 3 (.cons (.var 0) .nil))) (.seq (.ret (.jn "\n" (.bin .add (.mkL (.cons (.fcat (.k (.str "nodes ")) (.fcat (.idx (.var 0) (.k (.int 0))) (.k (.str "")))) .nil)) (.comp ce_format_graph_0 (.t2 (.nm 1) (.nm 2)) (.idx (.var 0) (.k (.int 1))) cc_format_graph_0 [1, 2])))) .skip))
theorem t_format_graph : TFact cg "format_graph" s_format_graph ["graph"] n_format_graph 1 ir_format_graph :=
  ⟨⟨rfl, rfl, rfl, by decide +kernel, rfl, by decide +kernel, by decide +kernel⟩, rfl, by decide +kernel, fun _ _ _ _ _ _ us hl => match us, hl with | [_], _ => rfl, [], 60, by kernel_rfl⟩
def ir__law_cell : S := (.seq (.ifS (.cmp .lt (.var 1) (.bl .len (.cons (.var 0) .nil))) (.seq (.ret (.idx (.var 0) (.var 1))) .skip) .skip) (.seq (.ret (.k (.int 0))) .skip))
theorem t__law_cell : TFact cg "_law_cell" s__law_cell ["script", "k"] n__law_cell 2 ir__law_cell :=
  ⟨⟨rfl, rfl, rfl, by decide +kernel, rfl, by decide +kernel, by decide +kernel⟩, rfl, by decide +kernel, fun _ _ _ _ _ _ us hl => match us, hl with | [_, _], _ => rfl, [], 60, by kernel_rfl⟩
def lb__law_row_0 : S := (.seq (.ifS (.cmp .lt (.call 5 (.cons (.var 0) (.cons (.var 1) .nil))) (.bin .pow (.k (.int 10)) (.k (.int 18)))) (.seq (.asg (.nm 2) (.bin .mod (.bin .add (.bin .add (.bin .add (.bin .mul (.var 2) (.k (.int 48271))) (.bin .mul (.k (.int 131)) (.var 4))) (.k (.int 7))) (.call 5 (.cons (.var 0) (.cons (.bin .mod (.bin .add (.bin .add (.var 1) (.k (.int 1))) (.var 4)) (.k (.int 20))) .nil)))) (.k (.int 2147483647)))) (.seq (.app 3 (.bin .mod (.bin .fdiv (.var 2) (.k (.int 11))) (.k (.int 1000)))) .skip)) (.seq (.app 3 (.bin .mod (.var 2) (.k (.int 1000)))) (.seq (.asg (.nm 2) (.bin .fdiv (.var 2) (.k (.int 1000)))) .skip))) .skip)
def ir__law_row : S := (.seq (.asg (.nm 2) (.call 5 (.cons (.var 0) (.cons (.var 1) .nil)))) (.seq (.own 3 (.mkL .nil)) (.seq (.forS (.nm 4) (.rng1 (.k (.int 60))) lb__law_row_0) (.seq (.seq (.frz 3) (.ret (.var 3))) .skip))))
theorem t__law_row : TFact cg "_law_row" s__law_row ["script", "at"] n__law_row 2 ir__law_row :=
  ⟨⟨rfl, rfl, rfl, by decide +kernel, rfl, by decide +kernel, by decide +kernel⟩, rfl, by decide +kernel, fun _ _ _ _ _ _ us hl => match us, hl with | [_, _], _ => rfl, ["found"], 60, by kernel_rfl⟩
def lb__law_graph_0 : S := (.seq (.asg (.nm 8) (.bin .mod (.idx (.var 4) (.bin .mod (.bin .add (.k (.int 2)) (.bin .mul (.k (.int 2)) (.var 7))) (.k (.int 60)))) (.var 5))) (.seq (.asg (.nm 9) (.bin .mod (.idx (.var 4) (.bin .mod (.bin .add (.k (.int 3)) (.bin .mul (.k (.int 2)) (.var 7))) (.k (.int 60)))) (.bin .sub (.var 5) (.k (.int 1))))) (.seq (.asg (.nm 9) (.bin .add (.var 9) (.bl .int1 (.cons (.cmp .ge (.var 9) (.var 8)) .nil)))) (.seq (.ifS (.and (.cmp .eq (.bin .mod (.idx (.var 4) (.k (.int 50))) (.k (.int 3))) (.k (.int 0))) (.and (.cmp .ne (.var 6) (.mkL .nil)) (.cmp .eq (.bin .mod (.idx (.var 4) (.bin .mod (.bin .add (.k (.int 30)) (.var 7)) (.k (.int 60)))) (.k (.int 3))) (.k (.int 0))))) (.seq (.app 6 (.idx (.var 6) (.k (.int 0)))) .skip) (.seq (.app 6 (.mkT (.cons (.bl .min2 (.cons (.var 8) (.cons (.var 9) .nil))) (.cons (.bl .max2 (.cons (.var 8) (.cons (.var 9) .nil))) .nil)))) .skip)) .skip))))
def ir__law_graph : S := (.seq (.asg (.nm 4) (.call 6 (.cons (.var 0) (.cons (.var 1) .nil)))) (.seq (.asg (.nm 5) (.bin .add (.k (.int 1)) (.bin .mod (.idx (.var 4) (.k (.int 0))) (.var 2)))) (.seq (.own 6 (.mkL .nil)) (.seq (.ifS (.cmp .gt (.var 5) (.k (.int 1))) (.seq (.forS (.nm 7) (.rng1 (.bin .mod (.idx (.var 4) (.k (.int 1))) (.bin .add (.var 3) (.k (.int 1))))) lb__law_graph_0) .skip) .skip) (.seq (.ret (.mkT (.cons (.var 5) (.cons (.bl .tuple (.cons (.var 6) .nil)) .nil)))) .skip)))))
theorem t__law_graph : TFact cg "_law_graph" s__law_graph ["script", "at", "most_nodes", "most_edges"] n__law_graph 4 ir__law_graph :=
  ⟨⟨rfl, rfl, rfl, by decide +kernel, rfl, by decide +kernel, by decide +kernel⟩, rfl, by decide +kernel, fun _ _ _ _ _ _ us hl => match us, hl with | [_, _, _, _], _ => rfl, ["edges"], 60, by kernel_rfl⟩
def ir_parse_digit : S := (.seq (.ret (.ife (.and (.cmp .eq (.bl .len (.cons (.var 0) .nil)) (.k (.int 1))) (.cmp .inn (.var 0) (.k (.str "0123456789")))) (.sidx "0123456789" (.var 0)) (.k .none))) .skip)
theorem t_parse_digit : TFact cg "parse_digit" s_parse_digit ["token"] n_parse_digit 1 ir_parse_digit :=
  ⟨⟨rfl, rfl, rfl, by decide +kernel, rfl, by decide +kernel, by decide +kernel⟩, rfl, by decide +kernel, fun _ _ _ _ _ _ us hl => match us, hl with | [_], _ => rfl, [], 60, by kernel_rfl⟩
def ir_parse_line : S := (.seq (.asg (.nm 2) (.spl (.var 0) " ")) (.seq (.ifS (.var 1) (.seq (.ret (.ife (.and (.cmp .eq (.bl .len (.cons (.var 2) .nil)) (.k (.int 2))) (.cmp .eq (.idx (.var 2) (.k (.int 0))) (.k (.str "nodes")))) (.call 8 (.cons (.idx (.var 2) (.k (.int 1))) .nil)) (.k .none))) .skip) .skip) (.seq (.ifS (.or (.cmp .ne (.bl .len (.cons (.var 2) .nil)) (.k (.int 3))) (.cmp .ne (.idx (.var 2) (.k (.int 0))) (.k (.str "edge")))) (.seq (.ret (.k .none)) .skip) .skip) (.seq (.asg (.nm 3) (.mkT (.cons (.call 8 (.cons (.idx (.var 2) (.k (.int 1))) .nil)) (.cons (.call 8 (.cons (.idx (.var 2) (.k (.int 2))) .nil)) .nil)))) (.seq (.ret (.ife (.cmp .inn (.k .none) (.var 3)) (.k .none) (.var 3))) .skip)))))
theorem t_parse_line : TFact cg "parse_line" s_parse_line ["line", "is_first"] n_parse_line 2 ir_parse_line :=
  ⟨⟨rfl, rfl, rfl, by decide +kernel, rfl, by decide +kernel, by decide +kernel⟩, rfl, by decide +kernel, fun _ _ _ _ _ _ us hl => match us, hl with | [_, _], _ => rfl, [], 60, by kernel_rfl⟩
def lb_parse_graph_0 : S := (.seq (.asg (.nm 5) (.call 9 (.cons (.var 4) (.cons (.cmp .eq (.var 3) (.k (.int 0))) .nil)))) (.seq (.ifS (.cmp .isN (.var 5) (.k .none)) (.seq (.raiP (.var 3)) .skip) .skip) (.seq (.app 1 (.var 5)) .skip)))
def ir_parse_graph : S := (.seq (.ifS (.not (.isi .str (.var 0))) (.seq (.raiP (.k .none)) .skip) .skip) (.seq (.own 1 (.mkL .nil)) (.seq (.forS (.t2 (.nm 3) (.nm 4)) (.enum (.spl (.var 0) "\n")) lb_parse_graph_0) (.seq (.asg (.nm 2) (.mkT (.cons (.idx (.var 1) (.k (.int 0))) (.cons (.bl .tuple (.cons (.slc (.var 1) (.k (.int 1)) .noP) .nil)) .nil)))) (.seq (.ifS (.not (.call 2 (.cons (.var 2) .nil))) (.seq (.raiP (.k .none)) .skip) .skip) (.seq (.ret (.var 2)) .skip))))))
theorem t_parse_graph : TFact cg "parse_graph" s_parse_graph ["text"] n_parse_graph 1 ir_parse_graph :=
  ⟨⟨rfl, rfl, rfl, by decide +kernel, rfl, by decide +kernel, by decide +kernel⟩, rfl, by decide +kernel, fun _ _ _ _ _ _ us hl => match us, hl with | [_], _ => rfl, ["rows"], 60, by kernel_rfl⟩
def ir__law_parse : S := (.seq (.tryP 1 (.seq (.ret (.call 10 (.cons (.var 0) .nil))) .skip)) .skip)
theorem t__law_parse : TFact cg "_law_parse" s__law_parse ["text"] n__law_parse 1 ir__law_parse :=
  ⟨⟨rfl, rfl, rfl, by decide +kernel, rfl, by decide +kernel, by decide +kernel⟩, rfl, by decide +kernel, fun _ _ _ _ _ _ us hl => match us, hl with | [_], _ => rfl, [], 60, by kernel_rfl⟩
def ce_law_0 : E := (.bin .add (.bin .add (.bin .add (.k (.str "edge ")) (.bl .strI (.cons (.var 11) .nil))) (.k (.str " "))) (.bl .strI (.cons (.var 12) .nil)))
def cc_law_0 : E := (.k (.bool true))
def tl_law_16 : S := .seq (.ret (.cmp .eq (.call 11 (.cons (.idx (.mkL (.cons (.k .none) (.cons (.k (.int 7)) (.cons (.var 3) (.cons (.var 2) .nil))))) (.bin .mod (.idx (.var 1) (.k (.int 6))) (.k (.int 4)))) .nil)) (.mkL (.cons (.k (.str "line")) (.cons (.k .none) .nil))))) .skip
def tl_law_15 : S := .seq (.ifS (.cmp .ne (.call 11 (.cons (.k (.str "nodes 2\nedge 1 0")) .nil)) (.mkL (.cons (.k (.str "line")) (.cons (.k .none) .nil)))) (.seq (.ret (.k (.bool false))) .skip) .skip) tl_law_16
def tl_law_14 : S := .seq (.ifS (.cmp .ne (.call 11 (.cons (.jn "\n" (.bin .add (.mkL (.cons (.var 10) .nil)) (.slc (.var 3) (.k (.int 1)) .noP))) .nil)) (.mkL (.cons (.k (.str "line")) (.cons (.k (.int 0)) .nil)))) (.seq (.ret (.k (.bool false))) .skip) .skip) tl_law_15
def tl_law_13 : S := .seq (.asg (.nm 10) (.idx (.mkL (.cons (.k (.str "nodes")) (.cons (.k (.str "nodes 10")) (.cons (.k (.str "node 2")) (.cons (.k (.str "")) (.cons (.k (.str "nodes x")) (.cons (.k (.str "nodes 2 2")) .nil))))))) (.bin .mod (.idx (.var 1) (.k (.int 5))) (.k (.int 6))))) tl_law_14
def tl_law_12 : S := .seq (.ifS (.cmp .ne (.call 11 (.cons (.jn "\n" (.bin .add (.bin .add (.slc (.var 3) .noP (.var 9)) (.mkL (.cons (.var 10) .nil))) (.slc (.var 3) (.var 9) .noP))) .nil)) (.mkL (.cons (.k (.str "line")) (.cons (.var 9) .nil)))) (.seq (.ret (.k (.bool false))) .skip) .skip) tl_law_13
def tl_law_11 : S := .seq (.asg (.nm 10) (.idx (.mkL (.cons (.k (.str "")) (.cons (.k (.str "edge 0")) (.cons (.k (.str "edge 0 10")) (.cons (.k (.str "edge 0 1 2")) (.cons (.k (.str "edge  0 1")) (.cons (.k (.str "nodes 2")) (.cons (.k (.str "edge 0 x")) (.cons (.k (.str "Edge 0 1")) .nil))))))))) (.bin .mod (.idx (.var 1) (.k (.int 4))) (.k (.int 8))))) tl_law_12
def tl_law_10 : S := .seq (.asg (.nm 9) (.bin .add (.k (.int 1)) (.bin .mod (.idx (.var 1) (.k (.int 3))) (.bl .len (.cons (.var 3) .nil))))) tl_law_11
def tl_law_9 : S := .seq (.ifS (.or (.cmp .eq (.idx (.var 8) (.k (.int 0))) (.k (.str "other"))) (.and (.cmp .ne (.idx (.var 8) (.k (.int 0))) (.k (.str "line"))) (.cmp .ne (.call 4 (.cons (.var 8) .nil)) (.var 7)))) (.seq (.ret (.k (.bool false))) .skip) .skip) tl_law_10
def tl_law_8 : S := .seq (.asg (.nm 8) (.call 11 (.cons (.var 7) .nil))) tl_law_9
def tl_law_7 : S := .seq (.asg (.nm 7) (.idx (.mkL (.cons (.bin .add (.slc (.var 4) .noP (.var 5)) (.slc (.var 4) (.bin .add (.var 5) (.k (.int 1))) .noP)) (.cons (.bin .add (.bin .add (.slc (.var 4) .noP (.var 5)) (.var 6)) (.slc (.var 4) (.var 5) .noP)) (.cons (.bin .add (.var 4) (.k (.str "\n"))) (.cons (.bin .add (.k (.str " ")) (.var 4)) .nil))))) (.bin .mod (.idx (.var 1) (.k (.int 2))) (.k (.int 4))))) tl_law_8
def tl_law_6 : S := .seq (.asg (.nm 6) (.idx (.mkL (.cons (.k (.str "0")) (.cons (.k (.str " ")) (.cons (.k (.str "1")) (.cons (.k (.str "\n")) (.cons (.k (.str "x")) (.cons (.k (.str " 2")) .nil))))))) (.bin .mod (.idx (.var 1) (.k (.int 1))) (.k (.int 6))))) tl_law_7
def tl_law_5 : S := .seq (.asg (.nm 5) (.bin .mod (.bin .mul (.idx (.var 1) (.k (.int 0))) (.k (.int 5))) (.bin .add (.bl .len (.cons (.var 4) .nil)) (.k (.int 1))))) tl_law_6
def tl_law_4 : S := .seq (.ifS (.or (.cmp .ne (.call 4 (.cons (.var 2) .nil)) (.var 4)) (.cmp .ne (.call 11 (.cons (.var 4) .nil)) (.var 2))) (.seq (.ret (.k (.bool false))) .skip) .skip) tl_law_5
def tl_law_3 : S := .seq (.asg (.nm 4) (.jn "\n" (.var 3))) tl_law_4
def tl_law_2 : S := .seq (.asg (.nm 3) (.bin .add (.mkL (.cons (.bin .add (.k (.str "nodes ")) (.bl .strI (.cons (.idx (.var 2) (.k (.int 0))) .nil))) .nil)) (.comp ce_law_0 (.t2 (.nm 11) (.nm 12)) (.idx (.var 2) (.k (.int 1))) cc_law_0 [11, 12]))) tl_law_3
def tl_law_1 : S := .seq (.asg (.nm 2) (.call 7 (.cons (.var 0) (.cons (.k (.int 2)) (.cons (.k (.int 7)) (.cons (.k (.int 9)) .nil)))))) tl_law_2
def ir_law : S := .seq (.asg (.nm 1) (.call 6 (.cons (.var 0) (.cons (.k (.int 4)) .nil)))) tl_law_1
theorem t_law : TFact cg "law" s_law ["script"] n_law 1 ir_law :=
  ⟨⟨rfl, rfl, rfl, by decide +kernel, rfl, by decide +kernel, by decide +kernel⟩, rfl, by decide +kernel, fun _ _ _ _ _ _ us hl => match us, hl with | [_], _ => rfl, [], 60, by kernel_rfl⟩
def ds : List Df := [.ir n_in_range 3 ir_in_range, .ir n_is_edge 2 ir_is_edge, .ir n_is_graph 1 ir_is_graph, .ir n_check_graph 1 ir_check_graph, .ir n_format_graph 1 ir_format_graph, .ir n__law_cell 2 ir__law_cell, .ir n__law_row 2 ir__law_row, .ir n__law_graph 4 ir__law_graph, .ir n_parse_digit 1 ir_parse_digit, .ir n_parse_line 2 ir_parse_line, .ir n_parse_graph 1 ir_parse_graph, .ir n__law_parse 1 ir__law_parse, .ir n_law 1 ir_law]
end Lw
namespace Lw
open PySem PySem.Spec PyProof.Rows L2 Ip
section
variable {P : Program} {w : World} {K : PySem.W.Frag} {mg : Str → Option Value} {base h : Heap}
theorem scPE : FnScope ["self", "line"] ["self", "line"] (defScope sm_ParseError_init) := ⟨rfl, rfl, rfl, by decide +kernel, rfl, by decide +kernel, by decide +kernel⟩
theorem ok_pe {f C G : Addr} {fd : FuncData} (F : Fun K "__init__" "ParseError.__init__" sm_ParseError_init f fd) (hg : mg "GraphError" = some (.ref G)) (T : BaseF K G) (O : OexC K C) (hn : PySem.W.findIn K (.ref C) "line" = some none) : FnOk P w K mg base (L2.CX P w) 1 f fd ["self", "line"] (spPE C) := by
  refine F.okX scPE (fun vs H Q E h => ?_) (fun cdv A outer s H vs Q E hr h => ?_)
  · obtain ⟨a, v, rfl, _⟩ := h
    rfl
  · obtain ⟨a, v, rfl, ha, q⟩ := h
    refine ⟨_, pss_cons (ps_expr (pe_baseinit (by rfl) hg T (pa_cons (pv 0) (pa_cons pe_str pa_nil)) (by rfl))) (pss_one (ps_ost (pv 0) (pv 1))), ?_⟩
    exact ⟨_, rfl, a, C, _, rfl, (by decide), O, ha, _, rfl, _, rfl, a, C, rfl, O, hn, .inl ⟨ha, fun dx h1 h2 => q dx h1 h2⟩⟩
/-- the class ParseError -/
structure PFact (K : PySem.W.Frag) (C G : Addr) : Prop where
  a : PySem.W.nsIn K mainGlobals "ParseError" = some (some (.ref C))
  ag : PySem.W.nsIn K mainGlobals "GraphError" = some (some (.ref G))
  ok : pxB K C G (cg.cls.map (adr K)) = true
  cls : ∃ nm q N bs bm sn sub ab col dd k0 k1 k2 k3 k5, K.lookup C = some (excClassObj nm q C N bs bm true sn sub ab col dd k0 k1 k2 k3 k5 "ValueError.__new__") ∧ PySem.HandSPX.refsVE bm = true
  m : MFact K C "__init__" "ParseError.__init__" sm_ParseError_init
theorem px_of {C G : Addr} (X : K.In h) (Gl : h.Ns mainGlobals mg) (B : PFact K C G) (base : Heap) : PxF P w K mg base (caOf (cg.cls.map (adr K)) C 999) (caOf (cg.cls.map (adr K)) C) cg.cls.length 2 := by
  have R := pxr_of X Gl B.ok
  have O : OexC K C := ⟨B.cls, R.sa, R.exC, R.tyC, R.kC⟩
  obtain ⟨f, fd, hm, F⟩ := B.m
  exact px_mk R O hm (by rw [List.length_map]) (by decide) (ok_pe F R.gG R.bs O R.no) (F.binds fun _ _ _ _ _ _ us hl => match us, hl with | [_, _], _ => rfl)
end

end Lw

namespace Lw
open PySem Ip
/-! ### mirrors -/
def inR (lo hi : Int) : D → Bool
  | .int i => decide (lo ≤ i) && decide (i ≤ hi)
  | _ => false
def plain : D → Bool
  | .dict _ => false
  | _ => true
theorem call_of {i j : Nat} {N : List Str} {n : Nat} {s : S} {a : List D} (hd : ds[i]? = some (.ir N n s)) (hj : i < j) (ha : a.length = n) : FF ds j i a = fnRes (exec (FF ds i) nB s (startG N a)) := by
  rw [FF_eq hd hj]
  show (if a.length = n then _ else _) = _
  rw [if_pos ha]
theorem m_in_range {j : Nat} (hj : 0 < j) {v : D} {lo hi : Int} (hv : plain v = true) : FF ds j 0 [v, .int lo, .int hi] = .ok (.bool (inR lo hi v)) := by
  rw [call_of (i := 0) rfl hj rfl]
  cases v <;> simp [ir_in_range, startG, isiR, isiD, fnRes, inR, plain] at hv ⊢
  rename_i i
  by_cases h : lo ≤ i <;> simp [h]
/-- no script inside, so deep -/
def pl : Nat → D → Bool
  | n + 1, .tuple xs => xs.all (pl n)
  | n + 1, .list xs => xs.all (pl n)
  | _, .dict _ => false
  | _, _ => true
theorem pl_plain {n : Nat} {d : D} (h : pl n d = true) : plain d = true := by
  cases n <;> cases d <;> simp_all [pl, plain]
def isE (n : Int) : D → Bool
  | .tuple [a, b] => match a with
    | .int i => decide (0 ≤ i) && decide (i ≤ n - 2) && inR (i + 1) (n - 1) b
    | _ => false
  | _ => false
theorem ne2 {xs : List D} (h : ∀ a b, xs ≠ [a, b]) : ((xs.length : Int) == 2) = false := by
  rcases xs with _ | ⟨a, _ | ⟨b, _ | ⟨c, r⟩⟩⟩
  · rfl
  · rfl
  · exact absurd rfl (h a b)
  · simp only [List.length_cons]
    rw [beq_eq_false_iff_ne]
    omega
theorem isE_len {n : Int} {xs : List D} (h : ∀ a b, xs ≠ [a, b]) : isE n (.tuple xs) = false := by
  unfold isE
  split
  · rename_i e; cases e; exact absurd rfl (h _ _)
  · rfl
theorem m_is_edge {j : Nat} (hj : 1 < j) {v : D} {n : Int} (hv : pl 1 v = true) : FF ds j 1 [.int n, v] = .ok (.bool (isE n v)) := by
  rw [call_of (i := 1) rfl hj rfl]
  cases v with
  | tuple xs =>
    by_cases h : ∃ a b, xs = [a, b]
    · obtain ⟨a, b, rfl⟩ := h
      have ha : plain a = true := pl_plain (n := 0) (by simp [pl] at hv; exact hv.1)
      have hb : plain b = true := pl_plain (n := 0) (by simp [pl] at hv; exact hv.2)
      have e1 := m_in_range (j := 1) (by decide) (lo := 0) (hi := n - 2) ha
      cases q : inR 0 (n - 2) a with
      | false =>
        rw [q] at e1
        have q2 : isE n (.tuple [a, b]) = false := by
          cases a <;> simp_all [inR, isE]
          intros; omega
        simp [ir_is_edge, startG, isiR, isiD, fnRes, e1, q2]
      | true =>
        rw [q] at e1
        obtain ⟨i, rfl⟩ : ∃ i, a = .int i := by
          cases a <;> simp_all [inR]
        have q2 : isE n (.tuple [.int i, b]) = inR (i + 1) (n - 1) b := by
          simp [inR] at q
          simp [isE, q.1, q.2]
        simp [ir_is_edge, startG, isiR, isiD, fnRes, e1, q2, m_in_range (j := 1) (by decide) (lo := i + 1) (hi := n - 1) hb]
    · have h' : ∀ a b, xs ≠ [a, b] := fun a b e => h ⟨a, b, e⟩
      rw [isE_len h']
      simp [ir_is_edge, startG, isiR, isiD, fnRes, ne2 h']
  | dict _ => cases hv
  | _ => simp [ir_is_edge, startG, isiR, isiD, fnRes, isE]
def isG : D → Bool
  | .tuple [a, b] => match a, b with
    | .int n, .tuple es => decide (1 ≤ n) && decide (n ≤ 7) && decide (es.length ≤ 15) && es.all (isE n)
    | _, _ => false
  | _ => false
theorem isG_len {xs : List D} (h : ∀ a b, xs ≠ [a, b]) : isG (.tuple xs) = false := by
  unfold isG
  split
  · rename_i e; cases e; exact absurd rfl (h _ _)
  · rfl
theorem keepF {p : D → Bool} : ∀ xs : List D, (xs.filterMap fun x => if p x then none else some x).isEmpty = xs.all p
  | [] => rfl
  | x :: r => by
    cases q : p x with
    | true => rw [List.filterMap_cons_none (by simp [q]), keepF r, List.all_cons, q, Bool.true_and]
    | false => rw [List.filterMap_cons_some (b := x) (by simp [q]), List.all_cons, q]; rfl
theorem pl_mem {n : Nat} {xs : List D} (h : pl (n + 1) (.tuple xs) = true) {x : D} (hx : x ∈ xs) : pl n x = true := List.all_eq_true.mp h x hx
theorem m_is_graph {j : Nat} (hj : 2 < j) {v : D} (hv : pl 3 v = true) : FF ds j 2 [v] = .ok (.bool (isG v)) := by
  rw [call_of (i := 2) rfl hj rfl]
  cases v with
  | tuple xs =>
    by_cases h : ∃ a b, xs = [a, b]
    · obtain ⟨a, b, rfl⟩ := h
      have ha : plain a = true := pl_plain (pl_mem hv (by simp))
      have hb : pl 2 b = true := pl_mem hv (by simp)
      have e1 := m_in_range (j := 2) (by decide) (lo := 1) (hi := 7) ha
      cases q : inR 1 7 a with
      | false =>
        rw [q] at e1
        have q2 : isG (.tuple [a, b]) = false := by
          cases a <;> cases b <;> simp_all [inR, isG]
          intros; omega
        simp [ir_is_graph, startG, isiR, isiD, fnRes, e1, q2]
      | true =>
        rw [q] at e1
        obtain ⟨n, rfl⟩ : ∃ i, a = .int i := by
          cases a <;> simp_all [inR]
        cases b with
        | tuple es =>
          by_cases hl : es.length ≤ 15
          · have hl2 : ¬ ((15 : Int) < es.length) := by omega
            have q2 : isG (.tuple [.int n, .tuple es]) = es.all (isE n) := by
              simp [inR] at q
              simp [isG, q.1, q.2, hl]
            have e2 : compL (compB (FF ds 2) (.nm 1) cc_is_graph_0 ce_is_graph_0 [1] [some (.v (.tuple [.int n, .tuple es])), none]) es = .ok (es.filterMap fun x => if isE n x then none else some x) := by
              refine compL_map fun x hx => ?_
              have hx1 : pl 1 x = true := pl_mem hb hx
              simp [compB, cc_is_graph_0, ce_is_graph_0, wipeG, bindT, m_is_edge (j := 2) (by decide) (n := n) hx1]
              cases isE n x <;> simp
            simp [ir_is_graph, startG, isiR, isiD, fnRes, e1, q2, hl2, e2, keepF]
          · have hl2 : ((15 : Int) < es.length) := by omega
            have q2 : isG (.tuple [.int n, .tuple es]) = false := by
              simp [isG, hl]
            simp [ir_is_graph, startG, isiR, isiD, fnRes, e1, q2, hl2]
        | dict _ => cases hb
        | _ => simp [ir_is_graph, startG, isiR, isiD, fnRes, e1, isG]
    · have h' : ∀ a b, xs ≠ [a, b] := fun a b e => h ⟨a, b, e⟩
      rw [isG_len h']
      simp [ir_is_graph, startG, isiR, isiD, fnRes, ne2 h']
  | dict _ => cases hv
  | _ => simp [ir_is_graph, startG, isiR, isiD, fnRes, isG]
theorem m_check_graph {j : Nat} (hj : 3 < j) {v : D} (hv : pl 3 v = true) : FF ds j 3 [v] = if isG v then .ok .none else .ex 1 := by
  rw [call_of (i := 3) rfl hj rfl]
  have e := m_is_graph (j := 3) (by decide) hv
  cases q : isG v <;> simp [ir_check_graph, startG, fnRes, e, q]
theorem loop_all {f : D → Ga → Out} (p : D → Bool) (Pv : Ga → Prop) : ∀ {xs : List D} {g : Ga}, (∀ x ∈ xs, ∀ g, Pv g → (p x = true → ∃ g', f x g = .nx g' ∧ Pv g') ∧ (p x = false → ∃ g', f x g = .rt (.bool false) g')) → Pv g →
    (xs.all p = true ∧ ∃ g', loopL f xs g = .nx g' ∧ Pv g') ∨ (xs.all p = false ∧ ∃ g', loopL f xs g = .rt (.bool false) g')
  | [], g, _, h => .inl ⟨rfl, g, rfl, h⟩
  | x :: r, g, hs, h => by
    cases q : p x with
    | false =>
      obtain ⟨g', e⟩ := (hs x List.mem_cons_self g h).2 q
      exact .inr ⟨by rw [List.all_cons, q]; rfl, g', by unfold loopL; rw [e]⟩
    | true =>
      obtain ⟨g', e, h'⟩ := (hs x List.mem_cons_self g h).1 q
      have el : loopL f (x :: r) g = loopL f r g' := by
        rw [loopL, e]
      rw [el, List.all_cons, q, Bool.true_and]
      exact loop_all p Pv (fun y hy => hs y (List.mem_cons_of_mem _ hy)) h'
/-! ### the draws -/
def cellI (ns : List Int) (k : Int) : Int := ns.getD k.toNat 0
theorem m_law_cell {j : Nat} (hj : 5 < j) {ns : List Int} {k : Int} (hk : 0 ≤ k) : FF ds j 5 [scrD ns, .int k] = .ok (.int (cellI ns k)) := by
  rw [call_of (i := 5) rfl hj rfl]
  by_cases h : k < ns.length
  · have hl : k.toNat < ns.length := by omega
    have e : idxD (scrD ns) (.int k) = .ok (.int (cellI ns k)) := by
      have := d_ixS (ns := ns) (j := k.toNat) (k := ns.getD k.toNat 0) (by rw [List.getD_eq_getElem?_getD, List.getElem?_eq_getElem hl]; rfl)
      rw [show ((k.toNat : Nat) : Int) = k by omega] at this
      exact this
    simp [ir__law_cell, startG, fnRes, h, e]
  · have hl : ns.length ≤ k.toNat := by omega
    have e : cellI ns k = 0 := by unfold cellI; rw [List.getD_eq_getElem?_getD, List.getElem?_eq_none hl]; rfl
    simp [ir__law_cell, startG, fnRes, h, e]
theorem p18 : binD .pow (.int 10) (.int 18) = .ok (.int 1000000000000000000) := by rfl
def rowOk (l : List Int) : Prop := l.length = 60 ∧ ∀ x ∈ l, 0 ≤ x ∧ x < 1000
theorem m_law_row {j : Nat} (hj : 6 < j) {ns : List Int} {a : Int} (ha : 0 ≤ a) : ∃ l : List Int, rowOk l ∧ FF ds j 6 [scrD ns, .int a] = .ok (.list (l.map .int)) := by
  rw [call_of (i := 6) rfl hj rfl]
  have e1 := m_law_cell (j := 6) (by decide) (ns := ns) ha
  obtain ⟨g', hl, c, l, o, hg, h1, h2⟩ := loopL_inv (f := forB (FF ds 6) nB (.nm 4) lb__law_row_0) (fun i g => ∃ (c : Int) (l : List Int) (o : Option D), g = [some (.v (scrD ns)), some (.v (.int a)), some (.v (.int c)), some (.l none (l.map .int)), st o] ∧ l.length = i ∧ ∀ x ∈ l, 0 ≤ x ∧ x < 1000) (xs := rngL 0 60) (n := 0)
    (g := [some (.v (scrD ns)), some (.v (.int a)), some (.v (.int (cellI ns a))), some (.l none []), none]) ⟨_, [], none, rfl, rfl, fun x hx => by cases hx⟩ fun i x g hx hp => by
      obtain ⟨c, l, o, rfl, h1, h2⟩ := hp
      have hi : i < 60 := by
        have := (List.getElem?_eq_some_iff.mp hx).1
        simpa [rngL] using this
      have ex := rngL_get hx
      subst ex
      have e2 := m_law_cell (j := 6) (by decide) (ns := ns) (k := (a + 1 + (0 + (i : Nat))) % 20) (by omega)
      have hlen : l.length < lim := by unfold lim; omega
      by_cases hc : cellI ns a < 1000000000000000000
      · refine ⟨_, .inl ?_, (c * 48271 + 131 * (0 + (i : Nat)) + 7 + cellI ns ((a + 1 + (0 + (i : Nat))) % 20)) % 2147483647, l ++ [(c * 48271 + 131 * (0 + (i : Nat)) + 7 + cellI ns ((a + 1 + (0 + (i : Nat))) % 20)) % 2147483647 / 11 % 1000], some (.int (0 + (i : Nat))), rfl, by rw [List.length_append, h1]; rfl, fun x hx => ?_⟩
        · simp only [Int.zero_add] at e2 ⊢
          have hs : st (some (PyData.int (i : Nat))) = some (.v (.int (i : Nat))) := rfl
          simp [forB, lb__law_row_0, bindT, e1, e2, p18, hc, d_mul, d_mul', d_mod, d_fdiv, appO, hlen, hs]
        · rcases List.mem_append.mp hx with h | h
          · exact h2 x h
          · rw [List.mem_singleton] at h
            omega
      · refine ⟨_, .inl ?_, c / 1000, l ++ [c % 1000], some (.int (0 + (i : Nat))), rfl, by rw [List.length_append, h1]; rfl, fun x hx => ?_⟩
        · simp only [Int.zero_add] at e2 ⊢
          have hs : st (some (PyData.int (i : Nat))) = some (.v (.int (i : Nat))) := rfl
          simp [forB, lb__law_row_0, bindT, e1, e2, p18, hc, d_mul, d_mul', d_mod, d_fdiv, appO, hlen, hs]
        · rcases List.mem_append.mp hx with h | h
          · exact h2 x h
          · rw [List.mem_singleton] at h
            omega
  subst hg
  refine ⟨l, ⟨by simpa [rngL] using h1, h2⟩, ?_⟩
  simp [ir__law_row, startG, fnRes, e1, ownO, d_rng1, hl, frzO]

/-! ### the graph drawn -/
structure GrOk (M E : Nat) (n : Int) (es : List (Int × Int)) : Prop where
  n1 : 1 ≤ n
  nM : n ≤ M
  len : es.length ≤ E
  e : ∀ p ∈ es, 0 ≤ p.1 ∧ p.1 < p.2 ∧ p.2 < n
theorem row_at {l : List Int} (h : rowOk l) {i : Int} (h0 : 0 ≤ i) (h1 : i < 60) : ∃ x, idxD (.list (l.map .int)) (.int i) = .ok (.int x) ∧ 0 ≤ x ∧ x < 1000 := by
  have hl : i.toNat < l.length := by rw [h.1]; omega
  refine ⟨l.getD i.toNat 0, d_ixI h0 (by rw [h.1]; omega), ?_⟩
  have : l.getD i.toNat 0 = l[i.toNat] := by rw [List.getD_eq_getElem?_getD, List.getElem?_eq_getElem hl]; rfl
  rw [this]
  exact h.2 _ (List.getElem_mem hl)
theorem m_law_graph {j : Nat} (hj : 7 < j) {ns : List Int} {a : Int} (ha : 0 ≤ a) {M E : Nat} (hM : 1 ≤ M) (hM2 : M ≤ 100) (hE : E ≤ 100) : ∃ n es, GrOk M E n es ∧ FF ds j 7 [scrD ns, .int a, .int (M : Nat), .int (E : Nat)] = .ok (grD n es) := by
  rw [call_of (i := 7) rfl hj rfl]
  obtain ⟨l, hr, e1⟩ := m_law_row (j := 7) (by decide) (ns := ns) ha
  obtain ⟨d0, e2, h01, h02⟩ := row_at hr (i := 0) (by decide) (by decide)
  obtain ⟨d1, e3, h11, h12⟩ := row_at hr (i := 1) (by decide) (by decide)
  obtain ⟨d50, e4, _, _⟩ := row_at hr (i := 50) (by decide) (by decide)
  have hMp : (0 : Int) < (M : Nat) := by omega
  have hEp : (0 : Int) < (E : Nat) + 1 := by omega
  have hm1 := Int.emod_nonneg d0 (show ((M : Nat) : Int) ≠ 0 by omega)
  have hm2 := Int.emod_lt_of_pos d0 hMp
  have he1 := Int.emod_nonneg d1 (show ((E : Nat) : Int) + 1 ≠ 0 by omega)
  have he2 := Int.emod_lt_of_pos d1 hEp
  have em := d_mod (i := d0) hMp
  have ee := d_mod (i := d1) hEp
  generalize hn : 1 + d0 % ((M : Nat) : Int) = n at *
  by_cases h1 : 1 < n
  · obtain ⟨g', hl, es, o7, o8, o9, hg, hc, hp⟩ := loopL_inv (f := forB (FF ds 7) nB (.nm 7) lb__law_graph_0) (fun i g => ∃ (es : List (Int × Int)) (o7 o8 o9 : Option D), g = [some (.v (scrD ns)), some (.v (.int a)), some (.v (.int (M : Nat))), some (.v (.int (E : Nat))), some (.v (.list (l.map .int))), some (.v (.int n)), some (.l none (es.map eD)), st o7, st o8, st o9] ∧ es.length = i ∧ ∀ p ∈ es, 0 ≤ p.1 ∧ p.1 < p.2 ∧ p.2 < n)
      (xs := rngL 0 (d1 % ((E : Nat) + 1))) (n := 0) (g := [some (.v (scrD ns)), some (.v (.int a)), some (.v (.int (M : Nat))), some (.v (.int (E : Nat))), some (.v (.list (l.map .int))), some (.v (.int n)), some (.l none []), none, none, none]) ⟨[], none, none, none, rfl, rfl, fun x hx => by cases hx⟩ fun i x g hx hq => by
        obtain ⟨es, o7, o8, o9, rfl, hc, hp⟩ := hq
        have ex := rngL_get hx
        have hi : i < 1000 := by
          have := (List.getElem?_eq_some_iff.mp hx).1
          rw [rngL, List.length_map, List.length_range] at this
          omega
        subst ex
        rw [Int.zero_add]
        obtain ⟨x1, f1, _, _⟩ := row_at hr (i := (2 + 2 * (i : Nat)) % 60) (by omega) (by omega)
        obtain ⟨x2, f2, _, _⟩ := row_at hr (i := (3 + 2 * (i : Nat)) % 60) (by omega) (by omega)
        obtain ⟨x3, f3, _, _⟩ := row_at hr (i := (30 + (i : Nat)) % 60) (by omega) (by omega)
        have q1 := Int.emod_nonneg x1 (show n ≠ 0 by omega)
        have q2 := Int.emod_lt_of_pos x1 (show 0 < n by omega)
        have q3 := Int.emod_nonneg x2 (show n - 1 ≠ 0 by omega)
        have q4 := Int.emod_lt_of_pos x2 (show 0 < n - 1 by omega)
        have hlen : es.length < lim := by unfold lim; omega
        have hne : cmpD .ne (.list (es.map eD)) (.list []) = .ok (!es.isEmpty) := by
          rw [c_ne (n := 3) (m := 3) (a := .list (es.map eD)) (b := .list []) (show (es.map eD).all (shp 2) = true from shp_eDs es) rfl (by decide) (by decide), eqv_nil]
          cases es <;> rfl
        have hn0 : 0 < n := by omega
        have hn1 : 0 < n - 1 := by omega
        have mL := d_mod (i := x1) hn0
        have mR := d_mod (i := x2) hn1
        generalize hL : x1 % n = L at *
        generalize hR : x2 % (n - 1) = R0 at *
        by_cases hcp : d50 % 3 = 0 ∧ es ≠ [] ∧ x3 % 3 = 0
        · obtain ⟨c1, c2, c3⟩ := hcp
          obtain ⟨p0, es', rfl⟩ : ∃ p r, es = p :: r := by
            cases es with
            | nil => exact absurd rfl c2
            | cons p r => exact ⟨p, r, rfl⟩
          refine ⟨_, .inl ?_, (p0 :: es') ++ [p0], some (.int (i : Nat)), some (.int L), some (.int (R0 + if L ≤ R0 then 1 else 0)), rfl, by rw [List.length_append, hc]; rfl, fun p h => ?_⟩
          · have hi0 : idxD (.list (eD p0 :: es'.map eD)) (.int 0) = .ok (eD p0) := d_ixL (j := 0) rfl
            have hlen' : es'.length + 1 < lim := hlen
            simp at hne
            simp [forB, lb__law_graph_0, bindT, d_mul', d_mod, f1, f2, f3, e4, mL, mR, c1, c3, hne, hi0, appO, hlen']
          · rcases List.mem_append.mp h with h | h
            · exact hp p h
            · rw [List.mem_singleton] at h
              rw [h]
              exact hp p0 List.mem_cons_self
        · refine ⟨_, .inl ?_, es ++ [(if (R0 + if L ≤ R0 then 1 else 0) < L then (R0 + if L ≤ R0 then 1 else 0) else L, if (R0 + if L ≤ R0 then 1 else 0) > L then (R0 + if L ≤ R0 then 1 else 0) else L)], some (.int (i : Nat)), some (.int L), some (.int (R0 + if L ≤ R0 then 1 else 0)), rfl, by rw [List.length_append, hc]; rfl, fun p h => ?_⟩
          · have hcond : ∀ g : Ga, True := fun _ => trivial
            by_cases c1 : d50 % 3 = 0
            · by_cases c2 : es = []
              · subst c2
                simp at hne
                simp [forB, lb__law_graph_0, bindT, d_mul', d_mod, f1, f2, f3, e4, mL, mR, c1, hne, appO, (show 0 < lim by decide), eD]
              · have c3 : ¬ x3 % 3 = 0 := fun c3 => hcp ⟨c1, c2, c3⟩
                have c2' : es.isEmpty = false := by cases es <;> simp_all
                rw [c2'] at hne
                simp [forB, lb__law_graph_0, bindT, d_mul', d_mod, f1, f2, f3, e4, mL, mR, c1, c3, hne, appO, hlen, eD]
            · simp [forB, lb__law_graph_0, bindT, d_mul', d_mod, f1, f2, f3, e4, mL, mR, c1, hne, appO, hlen, eD]
          · rcases List.mem_append.mp h with h | h
            · exact hp p h
            · rw [List.mem_singleton] at h
              subst h
              dsimp only
              split <;> split <;> split <;> omega
    subst hg
    refine ⟨n, es, ⟨by omega, by omega, ?_, hp⟩, ?_⟩
    · have : (rngL 0 (d1 % ((E : Nat) + 1))).length = (d1 % ((E : Nat) + 1)).toNat := by rw [rngL, List.length_map, List.length_range]; simp
      omega
    · simp [ir__law_graph, startG, fnRes, e1, e2, e3, em, ee, hn, h1, ownO, d_rng1 (show -1000000 ≤ d1 % ((E : Nat) + 1) by omega) (show d1 % ((E : Nat) + 1) ≤ 1000000 by omega), hl, grD]
  · refine ⟨n, [], ⟨by omega, by omega, Nat.zero_le _, fun p h => by cases h⟩, ?_⟩
    simp [ir__law_graph, startG, fnRes, e1, e2, e3, em, ee, hn, h1, ownO, grD]

/-! ### sets of nodes -/
def ndOk (n : Int) : D → Bool
  | .tuple xs => !xs.isEmpty && xs.all (inR 0 (n - 1)) && (match intsOf xs with | some ks => asc ks | none => false)
  | _ => false
theorem all_ints {lo hi : Int} : ∀ {xs : List D}, xs.all (inR lo hi) = true → ∃ ks : List Int, xs = ks.map .int ∧ ∀ k ∈ ks, lo ≤ k ∧ k ≤ hi
  | [], _ => ⟨[], rfl, fun k h => by cases h⟩
  | x :: r, h => by
    rw [List.all_cons, Bool.and_eq_true] at h
    obtain ⟨ks, rfl, hk⟩ := all_ints h.2
    cases x with
    | int i =>
      have q := h.1
      simp [inR] at q
      refine ⟨i :: ks, rfl, fun k hm => ?_⟩
      rcases List.mem_cons.mp hm with e | e
      · rw [e]; exact q
      · exact hk k e
    | _ => cases h.1
theorem pl_eDs {n : Nat} (es : List (Int × Int)) : (es.map eD).all (pl (n + 1)) = true := by
  rw [List.all_map, List.all_eq_true]
  intro p _
  show ([PyData.int p.1, PyData.int p.2].all (pl n)) = true
  cases n <;> rfl
theorem pl_grD (n : Int) (es : List (Int × Int)) : pl 3 (grD n es) = true := by
  show ([PyData.int n, PyData.tuple (es.map eD)].all (pl 2)) = true
  simp only [List.all_cons, List.all_nil, Bool.and_true]
  exact pl_eDs (n := 0) es
theorem isG_grD {n : Int} {es : List (Int × Int)} (h : GrOk 7 15 n es) : isG (grD n es) = true := by
  show (decide (1 ≤ n) && decide (n ≤ 7) && decide ((es.map eD).length ≤ 15) && (es.map eD).all (isE n)) = true
  have h1 := h.n1
  have h2 := h.nM
  rw [decide_eq_true h1, decide_eq_true (show n ≤ 7 by omega), decide_eq_true (by rw [List.length_map]; exact h.len), List.all_map, Bool.true_and, Bool.true_and, Bool.true_and, List.all_eq_true]
  intro p hp
  obtain ⟨a, b, c⟩ := h.e p hp
  show (decide (0 ≤ p.1) && decide (p.1 ≤ n - 2) && (decide (p.1 + 1 ≤ p.2) && decide (p.2 ≤ n - 1))) = true
  rw [decide_eq_true a, decide_eq_true (by omega), decide_eq_true (by omega), decide_eq_true (by omega)]
  rfl
def cntR (es : List (Int × Int)) : D → Rs D
  | .tuple xs => (match intsOf xs with
    | some ks => .ok (.int (insd es ks))
    | none => .bad)
  | _ => .bad
theorem x_raiP {F : Fn} {B : FnB} {g : Ga} (e : E) : exec F B (.raiP e) g = ((run F e).v g).out g fun d => raiPO d g := rfl
theorem x_tryP {F : Fn} {B : FnB} {g : Ga} (ie : Nat) (b : S) : exec F B (.tryP ie b) g = tryPO ie (exec F B b g) := rfl
def optD : Option Nat → D
  | some i => .int i
  | none => .none
theorem d_len_str {t : Str} (h : t.length ≤ lim) : blD .len [.str t] = .ok (.int t.length) := if_pos h
theorem eq_str {a b : Str} (ha : small a) (hb : small b) : cmpD .eq (.str a) (.str b) = .ok (a == b) := by
  show (if SeqAt.shaped (.str a) && SeqAt.shaped (.str b) then Rs.ok (PyData.eqv (.str a) (.str b)) else .bad) = _
  rw [small_ok ha, small_ok hb, PyData.eqv]
  rfl
theorem ne_str {a b : Str} (ha : small a) (hb : small b) : cmpD .ne (.str a) (.str b) = .ok (!(a == b)) := by
  show (if SeqAt.shaped (.str a) && SeqAt.shaped (.str b) then Rs.ok (!PyData.eqv (.str a) (.str b)) else .bad) = _
  rw [small_ok ha, small_ok hb, PyData.eqv]
  rfl
theorem sm_nodes : small ("nodes" : String) := by unfold small; decide +kernel
theorem sm_edge : small ("edge" : String) := by unfold small; decide +kernel
theorem m_parse_digit {j : Nat} (hj : 8 < j) {t : Str} (ht : t.length ≤ lim) : FF ds j 8 [.str t] = .ok (optD (digM t)) := by
  rw [call_of (i := 8) rfl hj rfl]
  have h1 := d_len_str ht
  unfold digM
  by_cases hl : t.length = 1
  · rw [if_pos hl]
    rw [hl] at h1
    cases ho : PySem.Builtin.Str.occurrences D10 t 0 D10.length 1 with
    | nil =>
      have h2 : cmpD .inn (.str t) (.str D10) = .ok false := by
        show Rs.ok (!(PySem.Builtin.Str.occurrences D10 t 0 D10.length 1).isEmpty) = _
        rw [ho]
        rfl
      simp [ir_parse_digit, startG, fnRes, h1, h2, optD]
    | cons i r =>
      have h2 : cmpD .inn (.str t) (.str D10) = .ok true := by
        show Rs.ok (!(PySem.Builtin.Str.occurrences D10 t 0 D10.length 1).isEmpty) = _
        rw [ho]
        rfl
      have h3 : sidxD D10 (.str t) = .ok (.int (i : Nat)) := by
        show (match PySem.Builtin.Str.occurrences D10 t 0 D10.length 1 with | i :: _ => Rs.ok (PyData.int (i : Nat)) | [] => .bad) = _
        rw [ho]
      simp [ir_parse_digit, startG, fnRes, h1, h2, h3, optD]
  · rw [if_neg hl]
    have h2 : cmpD .eq (.int t.length) (.int 1) = .ok false := by
      rw [c_eq (n := 0) (m := 0) rfl rfl (by decide) (by decide)]
      have : ¬ ((t.length : Int) = 1) := by omega
      simp [PyData.eqv, this]
    simp [ir_parse_digit, startG, fnRes, h1, h2, optD]
def optE : Option (Nat × Nat) → D
  | some p => .tuple [.int p.1, .int p.2]
  | none => .none
theorem d_spl {s sep : Str} (h1 : (sep.length == 0) = false) (h2 : s.length + 2 ≤ lim) : splD sep (.str s) = .ok (.list ((Txt.split s sep).map .str)) := if_pos ⟨h1, h2⟩
theorem fig_str {i : Nat} (h : i ≤ 9) : (toString ((i : Nat) : Int) : String) = figS i := rfl
theorem sp_len (c : Str) : (SP.length == 0) = false := by decide +kernel
theorem split1 {a : Str} : ∀ {xs : List Str}, xs = [a] → (xs.map PyData.str) = [.str a] := fun h => by rw [h]; rfl
theorem idx_cons0 {x : D} {xs : List D} : idxD (.list (x :: xs)) (.int 0) = .ok x := d_ixL (j := 0) rfl
theorem idx_cons1 {x y : D} {xs : List D} : idxD (.list (x :: y :: xs)) (.int 1) = .ok y := d_ixL (j := 1) rfl
theorem idx_cons2 {x y z : D} {xs : List D} : idxD (.list (x :: y :: z :: xs)) (.int 2) = .ok z := d_ixL (j := 2) rfl
theorem m_line1 {j : Nat} (hj : 9 < j) {l : Str} (hl : l.length + 2 ≤ lim) (hsm : small l) : FF ds j 9 [.str l, .bool true] = .ok (optD (lineN l)) := by
  rw [call_of (i := 9) rfl hj rfl]
  have h1 := d_spl (s := l) (sep := SP) (by decide +kernel) hl
  have hp : ∀ p ∈ Txt.split l SP, p.length ≤ lim := fun p hp => Nat.le_trans (splitP_len tl_SP k_SP hp) (by omega)
  unfold lineN
  have hq : ∀ p ∈ Txt.split l SP, small p := fun p hp => splitP_small tl_SP k_SP hsm hp
  generalize hs : Txt.split l SP = xs at *
  have no : ∀ {ys : List Str}, ¬ ys.length = 2 → (((ys.map PyData.str).length : Int) == 2) = false := fun {ys} h => by
    rw [List.length_map]
    simp
    omega
  match xs, hp, hq with
  | [], _, _ => simp [ir_parse_line, startG, fnRes, h1, optD]
  | [a], _, _ => simp [ir_parse_line, startG, fnRes, h1, optD]
  | [a, t], hp, hq =>
    have e := m_parse_digit (j := 9) (by decide) (hp t (by simp))
    by_cases ha : a = "nodes"
    · subst ha
      have e2 : cmpD .eq (.str ("nodes" : String)) (.str ("nodes" : String)) = .ok true := by rw [eq_str sm_nodes sm_nodes]; rfl
      simp [ir_parse_line, startG, fnRes, h1, idx_cons0, idx_cons1, e, e2]
    · have e2 : cmpD .eq (.str a) (.str "nodes") = .ok false := by rw [eq_str (hq a (by simp)) sm_nodes]; simp [ha]
      simp [ir_parse_line, startG, fnRes, h1, idx_cons0, idx_cons1, e2, optD, ha]
  | a :: b :: c :: r, _, _ =>
    have e3 : ¬ ((r.length : Int) + 1 + 1 + 1 = 2) := by omega
    simp [ir_parse_line, startG, fnRes, h1, optD, e3]
theorem m_line2 {j : Nat} (hj : 9 < j) {l : Str} (hl : l.length + 2 ≤ lim) (hsm : small l) : FF ds j 9 [.str l, .bool false] = .ok (optE (lineE l)) := by
  rw [call_of (i := 9) rfl hj rfl]
  have h1 := d_spl (s := l) (sep := SP) (by decide +kernel) hl
  have hp : ∀ p ∈ Txt.split l SP, p.length ≤ lim := fun p hp => Nat.le_trans (splitP_len tl_SP k_SP hp) (by omega)
  unfold lineE
  have hq : ∀ p ∈ Txt.split l SP, small p := fun p hp => splitP_small tl_SP k_SP hsm hp
  generalize hs : Txt.split l SP = xs at *
  match xs, hp, hq with
  | [], _, _ => simp [ir_parse_line, startG, fnRes, h1, optE]
  | [a], _, _ => simp [ir_parse_line, startG, fnRes, h1, optE]
  | [a, b], _, _ => simp [ir_parse_line, startG, fnRes, h1, optE]
  | [a, t, u], hp, hq =>
    have e := m_parse_digit (j := 9) (by decide) (hp t (by simp))
    have e' := m_parse_digit (j := 9) (by decide) (hp u (by simp))
    by_cases ha : a = "edge"
    · subst ha
      have e2 : cmpD .ne (.str ("edge" : String)) (.str ("edge" : String)) = .ok false := by rw [ne_str sm_edge sm_edge]; rfl
      have inn : ∀ x y : Option Nat, cmpD .inn .none (.tuple [optD x, optD y]) = .ok (x.isNone || y.isNone) := fun x y => by
        cases x <;> cases y <;> rfl
      have e4 := inn (digM t) (digM u)
      simp [ir_parse_line, startG, fnRes, h1, idx_cons0, idx_cons1, idx_cons2, e, e', e2, e4]
      cases digM t <;> cases digM u <;> simp [optE, optD]
    · have e2 : cmpD .ne (.str a) (.str "edge") = .ok true := by rw [ne_str (hq a (by simp)) sm_edge]; simp [ha]
      simp [ir_parse_line, startG, fnRes, h1, idx_cons0, idx_cons1, e2, optE, ha]
  | a :: b :: c :: d :: r, _, _ =>
    have e3 : ¬ ((r.length : Int) + 1 + 1 + 1 + 1 = 3) := by omega
    simp [ir_parse_line, startG, fnRes, h1, optE, e3]

def eN (p : Nat × Nat) : D := .tuple [.int (p.1 : Nat), .int (p.2 : Nat)]
def rowM (b : Bool) (l : Str) : Option D := if b then (lineN l).map fun n => .int (n : Nat) else (lineE l).map eN
theorem m_line {j : Nat} (hj : 9 < j) {l : Str} (hl : l.length + 2 ≤ lim) (hsm : small l) (b : Bool) : FF ds j 9 [.str l, .bool b] = .ok ((rowM b l).getD .none) := by
  cases b with
  | true =>
    rw [m_line1 hj hl hsm]
    unfold rowM
    cases lineN l <;> rfl
  | false =>
    rw [m_line2 hj hl hsm]
    unfold rowM
    cases lineE l <;> rfl
def rowsM : Nat → List Str → List D → Sum Nat (List D)
  | _, [], acc => .inr acc
  | i, l :: r, acc => match rowM (i == 0) l with
    | none => .inl i
    | some d => rowsM (i + 1) r (acc ++ [d])
def enF : Nat → List D → List D
  | _, [] => []
  | i, x :: r => .tuple [.int (i : Nat), x] :: enF (i + 1) r
theorem enF_eq : ∀ (xs : List D) (i : Nat), ((List.range' i xs.length).zip xs).map (fun p => PyData.tuple [.int (p.1 : Nat), p.2]) = enF i xs
  | [], _ => rfl
  | x :: r, i => by
    have := enF_eq r (i + 1)
    rw [List.length_cons, List.range'_succ, List.zip_cons_cons, List.map_cons, this]
    rfl
theorem enumL_eq (xs : List D) : enumL xs = enF 0 xs := by
  unfold enumL
  rw [List.range_eq_range']
  exact enF_eq xs 0
def isV : Option Sl → Bool
  | none => true
  | some (.v _) => true
  | _ => false
theorem isV_lent {o : Option Sl} (h : isV o = true) : lent (some o) = false := by
  cases o with
  | none => rfl
  | some s => cases s <;> first | rfl | cases h
theorem isN_false {d : D} (h : d ≠ .none) : cmpD .isN d .none = .ok false := by
  cases d <;> first | rfl | exact absurd rfl h
theorem rowM_ne {b : Bool} {l : Str} {d : D} (h : rowM b l = some d) : d ≠ .none := by
  intro e
  subst e
  unfold rowM at h
  cases b with
  | true => cases q : lineN l <;> rw [if_pos rfl, q] at h <;> cases h
  | false => cases q : lineE l <;> rw [if_neg Bool.false_ne_true, q] at h <;> cases h
theorem loop_rows {t : Str} : ∀ (ls : List Str) (i : Nat) (acc : List D) (o3 o4 o5 : Option Sl), (∀ l ∈ ls, l.length + 2 ≤ lim ∧ small l) → acc.length + ls.length < lim → isV o3 = true → isV o4 = true → isV o5 = true →
    match rowsM i ls acc with
    | .inl k => ∃ g, loopL (forB (FF ds 10) nB (.t2 (.nm 3) (.nm 4)) lb_parse_graph_0) (enF i (ls.map .str)) [some (.v (.str t)), some (.l none acc), none, o3, o4, o5] = .ex (1001 + k) g
    | .inr a => ∃ p3 p4 p5, loopL (forB (FF ds 10) nB (.t2 (.nm 3) (.nm 4)) lb_parse_graph_0) (enF i (ls.map .str)) [some (.v (.str t)), some (.l none acc), none, o3, o4, o5] = .nx [some (.v (.str t)), some (.l none a), none, p3, p4, p5]
  | [], i, acc, o3, o4, o5, _, _, h3, h4, h5 => ⟨o3, o4, o5, rfl⟩
  | l :: r, i, acc, o3, o4, o5, hl, hn, h3, h4, h5 => by
    have e := m_line (j := 10) (by decide) (hl l (by simp)).1 (hl l (by simp)).2 (i == 0)
    have l3 := isV_lent h3
    have l4 := isV_lent h4
    have l5 := isV_lent h5
    have hn' : acc.length < lim := by rw [List.length_cons] at hn; omega
    have ei : (((i : Nat) : Int) == 0) = (i == 0) := by
      by_cases q : i = 0
      · subst q; rfl
      · have h1 : (i == 0) = false := by simpa using q
        rw [h1]
        have : ¬ ((i : Int) = 0) := by omega
        exact decide_eq_false this
    have hb : bindT (.t2 (.nm 3) (.nm 4)) (.tuple [.int (i : Nat), .str l]) [some (.v (.str t)), some (.l none acc), none, o3, o4, o5] = some [some (.v (.str t)), some (.l none acc), none, some (.v (.int (i : Nat))), some (.v (.str l)), o5] := by
      simp [bindT, l3, l4]
    unfold rowsM
    cases hr : rowM (i == 0) l with
    | none =>
      rw [hr] at e
      refine ⟨[some (.v (.str t)), some (.l none acc), none, some (.v (.int (i : Nat))), some (.v (.str l)), some (.v .none)], ?_⟩
      show loopL _ (.tuple [.int (i : Nat), .str l] :: enF (i + 1) (r.map .str)) _ = _
      have hx : forB (FF ds 10) nB (.t2 (.nm 3) (.nm 4)) lb_parse_graph_0 (.tuple [.int (i : Nat), .str l]) [some (.v (.str t)), some (.l none acc), none, o3, o4, o5] = .ex (1001 + i) [some (.v (.str t)), some (.l none acc), none, some (.v (.int (i : Nat))), some (.v (.str l)), some (.v .none)] := by
        have i1 : cmpD .isN .none .none = .ok true := rfl
        have i2 : raiPO (.int (i : Nat)) [some (.v (.str t)), some (.l none acc), none, some (.v (.int (i : Nat))), some (.v (.str l)), some (.v .none)] = .ex (1001 + i) [some (.v (.str t)), some (.l none acc), none, some (.v (.int (i : Nat))), some (.v (.str l)), some (.v .none)] := by
          show (if (0 : Int) ≤ (i : Nat) then Out.ex (1001 + ((i : Nat) : Int).toNat) _ else .bad) = _
          rw [if_pos (by omega), Int.toNat_natCast]
        unfold forB
        rw [hb]
        simp [lb_parse_graph_0, ei, e, store, bindT, l5, i1, i2, x_raiP]
      unfold loopL
      rw [hx]
    | some d =>
      rw [hr] at e
      have hx : forB (FF ds 10) nB (.t2 (.nm 3) (.nm 4)) lb_parse_graph_0 (.tuple [.int (i : Nat), .str l]) [some (.v (.str t)), some (.l none acc), none, o3, o4, o5] = .nx [some (.v (.str t)), some (.l none (acc ++ [d])), none, some (.v (.int (i : Nat))), some (.v (.str l)), some (.v d)] := by
        have i1 := isN_false (rowM_ne hr)
        unfold forB
        rw [hb]
        simp [lb_parse_graph_0, ei, e, store, bindT, l5, i1, isLst, appO, hn']
      have ih := loop_rows (t := t) r (i + 1) (acc ++ [d]) (some (.v (.int (i : Nat)))) (some (.v (.str l))) (some (.v d)) (fun x hx => hl x (List.mem_cons_of_mem _ hx)) (by rw [List.length_append, List.length_cons, List.length_nil]; rw [List.length_cons] at hn; omega) rfl rfl rfl
      have el : loopL (forB (FF ds 10) nB (.t2 (.nm 3) (.nm 4)) lb_parse_graph_0) (enF i ((l :: r).map .str)) [some (.v (.str t)), some (.l none acc), none, o3, o4, o5] = loopL (forB (FF ds 10) nB (.t2 (.nm 3) (.nm 4)) lb_parse_graph_0) (enF (i + 1) (r.map .str)) [some (.v (.str t)), some (.l none (acc ++ [d])), none, some (.v (.int (i : Nat))), some (.v (.str l)), some (.v d)] := by
        show loopL _ (.tuple [.int (i : Nat), .str l] :: enF (i + 1) (r.map .str)) _ = _
        conv => lhs; unfold loopL
        rw [hx]
      simp only [el]
      exact ih
def parseM (t : Str) : Rs D := match rowsM 0 (Txt.split t NL) [] with
  | .inl k => .ex (1001 + k)
  | .inr (d :: r) => if isG (.tuple [d, .tuple r]) then .ok (.tuple [d, .tuple r]) else .ex 1000
  | .inr [] => .bad
theorem rowsM_all {P : D → Prop} (hp : ∀ b l d, rowM b l = some d → P d) : ∀ {ls : List Str} {i : Nat} {acc a : List D}, (∀ d ∈ acc, P d) → rowsM i ls acc = .inr a → ∀ d ∈ a, P d
  | [], _, _, _, h, e => by
    cases e
    exact h
  | l :: r, i, acc, a, h, e => by
    unfold rowsM at e
    cases hr : rowM (i == 0) l with
    | none => rw [hr] at e; cases e
    | some d =>
      rw [hr] at e
      exact rowsM_all hp (fun x hx => by
        rcases List.mem_append.mp hx with z | z
        · exact h x z
        · rw [List.mem_singleton.mp z]; exact hp _ _ _ hr) e
theorem rowsM_len : ∀ {ls : List Str} {i : Nat} {acc a : List D}, rowsM i ls acc = .inr a → a.length = acc.length + ls.length
  | [], _, _, _, e => by
    cases e
    rfl
  | l :: r, i, acc, a, e => by
    unfold rowsM at e
    cases hr : rowM (i == 0) l with
    | none => rw [hr] at e; cases e
    | some d =>
      rw [hr] at e
      rw [rowsM_len e, List.length_append, List.length_cons, List.length_cons, List.length_nil]
      omega
theorem rowM_pl {b : Bool} {l : Str} {d : D} (h : rowM b l = some d) : pl 1 d = true ∧ pl 2 d = true := by
  unfold rowM at h
  cases b with
  | true => cases q : lineN l <;> rw [if_pos rfl, q] at h <;> cases h; exact ⟨rfl, rfl⟩
  | false => cases q : lineE l <;> rw [if_neg Bool.false_ne_true, q] at h <;> cases h; exact ⟨rfl, rfl⟩
theorem split_len_le {t : Str} : (Txt.split t NL).length ≤ t.length + 1 := by
  have h := TL.split_spl t NL (by rw [tl_NL]; simp) (TL.kind_ok k_NL)
  have key : ∀ (l acc : List Nat), (TL.spl [10] 0 acc l).length ≤ l.length + 1 := by
    intro l
    induction l with
    | nil => intro acc; rw [TL.spl_nil]; simp
    | cons c r ih =>
      intro acc
      by_cases e : c = 10
      · subst e
        rw [TL.spl_hit (by simp [TL.pre])]
        have := ih []
        simp at this ⊢
        omega
      · rw [TL.spl_miss (by simp [TL.pre, e])]
        have := ih (acc ++ [c])
        simp at this ⊢
        omega
  have := congrArg List.length h
  rw [List.length_map, tl_NL] at this
  rw [this, TL.len_tl]
  exact key _ _
theorem m_parse_graph {j : Nat} (hj : 10 < j) {t : Str} (ht : t.length + 2 < lim) (hs : small t) : FF ds j 10 [.str t] = parseM t := by
  rw [call_of (i := 10) rfl hj rfl]
  have h1 := d_spl (s := t) (sep := NL) (by decide +kernel) (by omega)
  have hp : ∀ l ∈ Txt.split t NL, l.length + 2 ≤ lim ∧ small l := fun l hl => ⟨by have := splitP_len tl_NL k_NL hl; omega, splitP_small tl_NL k_NL hs hl⟩
  have hlen := split_len_le (t := t)
  have hne := split_ne tl_NL k_NL t
  have key := loop_rows (t := t) (Txt.split t NL) 0 [] none none none hp (by show 0 + _ < _; omega) rfl rfl rfl
  have en : enumD (.list ((Txt.split t NL).map .str)) = .ok (enF 0 ((Txt.split t NL).map .str)) := by
    show Rs.ok (enumL _) = _
    rw [enumL_eq]
  have z : isiR .str (.str t) = .ok (.bool true) := rfl
  unfold parseM
  cases hr : rowsM 0 (Txt.split t NL) [] with
  | inl k =>
    rw [hr] at key
    obtain ⟨g, hg⟩ := key
    simp [ir_parse_graph, startG, fnRes, h1, en, z, ownO, lent, hg]
  | inr a =>
    rw [hr] at key
    obtain ⟨o3, o4, o5, hg⟩ := key
    have hal := rowsM_len hr
    have hpl := rowsM_all (P := fun d => pl 1 d = true ∧ pl 2 d = true) (fun b l d h => rowM_pl h) (fun d hd => by cases hd) hr
    cases a with
    | nil =>
      have : (Txt.split t NL).length = 0 := by simpa using hal.symm
      exact absurd (List.length_eq_zero_iff.mp this) hne
    | cons d r =>
      have eg := m_is_graph (j := 10) (by decide) (v := .tuple [d, .tuple r]) (by
        show ([d, .tuple r].all (pl 2)) = true
        rw [List.all_cons, List.all_cons, List.all_nil, (hpl d List.mem_cons_self).2]
        show (true && (r.all (pl 1) && true)) = true
        rw [List.all_eq_true.mpr fun x hx => (hpl x (List.mem_cons_of_mem _ hx)).1]
        rfl)
      have i0 := idx_cons0 (x := d) (xs := r)
      have c1 : slcD (.list (d :: r)) (some 1) none = .ok (.list r) := by
        show Rs.ok (PyData.list (cutL (d :: r) (some 1) none)) = _
        congr 2
        simp [cutL, HT.sIx]
      have p1 : part (.k (.int 1)) (.ok (.int 1)) = .ok (some 1) := rfl
      have p2 : ∀ x, part .noP x = .ok none := fun x => rfl
      cases hG : isG (.tuple [d, .tuple r]) with
      | true =>
        rw [hG] at eg
        simp [ir_parse_graph, startG, fnRes, h1, en, z, ownO, lent, hg, i0, c1, p1, p2, store, bindT, eg, hG]
      | false =>
        rw [hG] at eg
        simp [ir_parse_graph, startG, fnRes, h1, en, z, ownO, lent, hg, i0, c1, p1, p2, store, bindT, eg, hG, x_raiP, raiPO]
theorem m_parse_non {j : Nat} (hj : 10 < j) {d : D} (h : isiR .str d = .ok (.bool false)) : FF ds j 10 [d] = .ex 1000 := by
  rw [call_of (i := 10) rfl hj rfl]
  simp [ir_parse_graph, startG, fnRes, h, x_raiP, raiPO]

theorem GrOk.big7 {M E : Nat} {n : Int} {es : List (Int × Int)} (h : GrOk M E n es) (hM : M ≤ 7) (hE : E ≤ 15) : GrOk 7 15 n es := ⟨h.n1, by have := h.nM; omega, by have := h.len; omega, h.e⟩
theorem GrOk.lns {n : Int} {es : List (Int × Int)} (g : GrOk 7 15 n es) : LnOk (lnsI n es) := lns_ok (by have := g.nM; omega) fun p hp => by have := g.e p hp; have := g.nM; omega
theorem m_law_parse {j : Nat} (hj : 11 < j) {d v : D} (h : FF ds 11 10 [d] = .ok v) : FF ds j 11 [d] = .ok v := by
  rw [call_of (i := 11) rfl hj rfl]
  simp [ir__law_parse, startG, fnRes, x_tryP, h, tryPO]
theorem m_law_parseX {j : Nat} (hj : 11 < j) {d : D} {c : Nat} (h : FF ds 11 10 [d] = .ex c) (hc : 1000 ≤ c) : FF ds j 11 [d] = .ok (.list [.str "line", lineD c]) := by
  rw [call_of (i := 11) rfl hj rfl]
  simp [ir__law_parse, startG, fnRes, x_tryP, h, tryPO, hc]
theorem m_format {j : Nat} (hj : 4 < j) {n : Int} {es : List (Int × Int)} (g : GrOk 7 15 n es) : FF ds j 4 [grD n es] = .ok (.str (Txt.join NL (lnsI n es))) := by
  rw [call_of (i := 4) rfl hj rfl]
  have h1 := g.n1
  have h2 := g.nM
  have h3 := g.len
  have e1 := m_check_graph (j := 4) (by decide) (v := grD n es) (pl_grD n es)
  rw [isG_grD g, if_pos rfl] at e1
  have hg0 : idxD (grD n es) (.int 0) = .ok (.int n) := d_i0
  have hg1 : idxD (grD n es) (.int 1) = .ok (.tuple (es.map eD)) := d_i1
  have l1 : (("" : String) : Str).length = 0 := by decide +kernel
  have l2 : (("nodes " : String) : Str).length = 6 := by decide +kernel
  have l3 : (("edge " : String) : Str).length = 5 := by decide +kernel
  have l4 : SP.length = 1 := by decide +kernel
  have la : ∀ a b : Str, (a ++ b).length = a.length + b.length := Str.length_append
  have lk : lim = 100000 := rfl
  have fs : ∀ x : Str, x.length ≤ lim → fmtD (.str x) = .ok x := fun x hx => if_pos hx
  have f1 := fs ("nodes " : String) (by omega)
  have f2 := fs ("edge " : String) (by omega)
  have f3 := fs (" " : String) (by rw [show ((" " : String) : Str).length = 1 from l4]; omega)
  have f4 := fmt_fig (i := n) (by omega) (by omega)
  have lf := fig_len (i := n.toNat) (by omega)
  have c1 := cat_str (a := figS n.toNat) (b := ("" : String)) (by omega)
  have c2 := cat_str (a := ("nodes " : String)) (b := figS n.toNat ++ (("" : String) : Str)) (by rw [la]; omega)
  rw [nod_appE] at c2
  have e2 : compL (compB (FF ds 4) (.t2 (.nm 1) (.nm 2)) cc_format_graph_0 ce_format_graph_0 [1, 2] [some (.v (grD n es)), none, none]) (es.map eD) = .ok (es.map fun p => PyData.str (edgS p.1.toNat p.2.toNat)) := by
    refine compL_some fun p hp => ?_
    obtain ⟨q1, q2, q3⟩ := g.e p hp
    have a1 := fmt_fig (i := p.1) (by omega) (by omega)
    have a2 := fmt_fig (i := p.2) (by omega) (by omega)
    have b1 := fig_len (i := p.1.toNat) (by omega)
    have b2 := fig_len (i := p.2.toNat) (by omega)
    have k1 := cat_str (a := figS p.2.toNat) (b := ("" : String)) (by omega)
    have k2 := cat_str (a := (" " : String)) (b := figS p.2.toNat ++ (("" : String) : Str)) (by rw [la, show ((" " : String) : Str).length = 1 from l4]; omega)
    have k3 := cat_str (a := figS p.1.toNat) (b := ((" " : String) : Str) ++ (figS p.2.toNat ++ (("" : String) : Str))) (by rw [la, la, show ((" " : String) : Str).length = 1 from l4]; omega)
    have k4 := cat_str (a := ("edge " : String)) (b := figS p.1.toNat ++ (((" " : String) : Str) ++ (figS p.2.toNat ++ (("" : String) : Str)))) (by rw [la, la, la, show ((" " : String) : Str).length = 1 from l4]; omega)
    rw [show (("edge " : String) : Str) ++ (figS p.1.toNat ++ (((" " : String) : Str) ++ (figS p.2.toNat ++ (("" : String) : Str)))) = edgS p.1.toNat p.2.toNat from edg_appE _ _] at k4
    simp only [compB, cc_format_graph_0, ce_format_graph_0, wipeG, bindT, eD]
    simp [f2, f3, a1, a2, noEx, k1, k2, k3, k4]
  have e3 : binD .add (.list [.str (nodS n.toNat)]) (.list (es.map fun p => PyData.str (edgS p.1.toNat p.2.toNat))) = .ok (.list ((lnsI n es).map .str)) := by
    show (if [PyData.str (nodS n.toNat)].length + (es.map fun p => PyData.str (edgS p.1.toNat p.2.toNat)).length ≤ lim then Rs.ok (PyData.list ([PyData.str (nodS n.toNat)] ++ (es.map fun p => PyData.str (edgS p.1.toNat p.2.toNat)))) else .bad) = _
    rw [if_pos (by rw [List.length_map]; show 1 + es.length ≤ lim; omega)]
    congr 2
    unfold lnsI
    rw [List.map_cons, List.map_map]
    rfl
  have e4 := d_join (ls := lnsI n es) (k := 12) g.lns.ln (by unfold lnsI; rw [List.length_cons, List.length_map]; omega)
  simp [ir_format_graph, startG, fnRes, e1, hg0, hg1, e2, f1, f4, noEx, c1, c2, e3, e4]
/-! ### rows and lines -/
theorem rows_edges : ∀ {es : List (Int × Int)} {i : Nat} {acc : List D} {rest : List Str}, (∀ p ∈ es, 0 ≤ p.1 ∧ p.1 ≤ 9 ∧ 0 ≤ p.2 ∧ p.2 ≤ 9) → rowsM (i + 1) ((es.map fun p => edgS p.1.toNat p.2.toNat) ++ rest) acc = rowsM (i + 1 + es.length) rest (acc ++ es.map eD)
  | [], _, _, _, _ => by simp
  | p :: es, i, acc, rest, h => by
    obtain ⟨h1, h2, h3, h4⟩ := h p List.mem_cons_self
    have hr : rowM (i + 1 == 0) (edgS p.1.toNat p.2.toNat) = some (eD p) := by
      unfold rowM
      rw [show (i + 1 == 0) = false from rfl, if_neg Bool.false_ne_true, lineE_edg (by omega) (by omega)]
      show some (PyData.tuple [.int (p.1.toNat : Nat), .int (p.2.toNat : Nat)]) = _
      rw [show ((p.1.toNat : Nat) : Int) = p.1 by omega, show ((p.2.toNat : Nat) : Int) = p.2 by omega]
      rfl
    rw [List.map_cons, List.cons_append]
    conv => lhs; unfold rowsM
    rw [hr]
    show rowsM (i + 1 + 1) _ (acc ++ [eD p]) = _
    rw [rows_edges fun q hq => h q (List.mem_cons_of_mem _ hq), List.length_cons, List.map_cons]
    congr 1
    · omega
    · simp
theorem rows_first {n : Int} {rest : List Str} (h0 : 0 ≤ n) (h9 : n ≤ 9) : rowsM 0 (nodS n.toNat :: rest) [] = rowsM 1 rest [.int n] := by
  have hr : rowM (0 == 0) (nodS n.toNat) = some (.int n) := by
    unfold rowM
    rw [show (0 == 0) = true from rfl, if_pos rfl, lineN_nod (by omega)]
    show some (PyData.int (n.toNat : Nat)) = _
    rw [show ((n.toNat : Nat) : Int) = n by omega]
  conv => lhs; unfold rowsM
  rw [hr]
  rfl
theorem parse_join {ls : List Str} (h : LnOk ls) (hne : ls ≠ []) : parseM (Txt.join NL ls) = (match rowsM 0 ls [] with
  | .inl k => .ex (1001 + k)
  | .inr (d :: r) => if isG (.tuple [d, .tuple r]) then .ok (.tuple [d, .tuple r]) else .ex 1000
  | .inr [] => .bad) := by
  unfold parseM
  rw [h.split hne]
  all_goals (rcases rowsM 0 ls [] with k | a <;> first | rfl | (cases a <;> rfl))
section
variable {n : Int} {es : List (Int × Int)}
theorem GrOk.figs (g : GrOk 7 15 n es) : ∀ p ∈ es, 0 ≤ p.1 ∧ p.1 ≤ 9 ∧ 0 ≤ p.2 ∧ p.2 ≤ 9 := fun p hp => by have := g.e p hp; have := g.nM; omega
theorem parse_text (g : GrOk 7 15 n es) : parseM (Txt.join NL (lnsI n es)) = .ok (grD n es) := by
  have h1 := g.n1
  have h2 := g.nM
  have e := rows_edges (i := 0) (acc := [.int n]) (rest := []) g.figs
  rw [List.append_nil] at e
  rw [parse_join g.lns (by unfold lnsI; simp)]
  unfold lnsI
  rw [rows_first (by omega) (by omega), e]
  show (if isG (grD n es) then Rs.ok (grD n es) else _) = _
  rw [isG_grD g, if_pos rfl]
theorem parse_wrongE (g : GrOk 7 15 n es) {w : Str} (hw : w ∈ wrongE) {m : Nat} (hm : m ≤ es.length) : parseM (Txt.join NL ((lnsI n es).take (m + 1) ++ [w] ++ (lnsI n es).drop (m + 1))) = .ex (1001 + (m + 1)) := by
  have h1 := g.n1
  have h2 := g.nM
  have hok : LnOk ((lnsI n es).take (m + 1) ++ [w] ++ (lnsI n es).drop (m + 1)) := ((g.lns.sub fun l hl => List.mem_of_mem_take hl).app (wrongE_ok.sub fun l hl => by rw [List.mem_singleton.mp hl]; exact hw)).app (g.lns.sub fun l hl => List.mem_of_mem_drop hl)
  rw [parse_join hok (by simp)]
  have e : (lnsI n es).take (m + 1) ++ [w] ++ (lnsI n es).drop (m + 1) = nodS n.toNat :: (((es.take m).map fun p => edgS p.1.toNat p.2.toNat) ++ (w :: (lnsI n es).drop (m + 1))) := by
    unfold lnsI
    simp [List.map_take]
  have e2 := rows_edges (es := es.take m) (i := 0) (acc := [.int n]) (rest := w :: (lnsI n es).drop (m + 1)) fun p hp => g.figs p (List.mem_of_mem_take hp)
  have hr : rowM (0 + 1 + (es.take m).length == 0) w = none := by
    unfold rowM
    rw [show (0 + 1 + (es.take m).length == 0) = false by simp, if_neg Bool.false_ne_true, wrongE_no w hw]
    rfl
  have e3 : rowsM (0 + 1 + (es.take m).length) (w :: (lnsI n es).drop (m + 1)) ([.int n] ++ (es.take m).map eD) = .inl (0 + 1 + (es.take m).length) := by
    unfold rowsM
    rw [hr]
  rw [e, rows_first (by omega) (by omega), e2, e3, List.length_take]
  dsimp only
  congr 1
  omega
theorem parse_wrongN (g : GrOk 7 15 n es) {w : Str} (hw : w ∈ wrongN) : parseM (Txt.join NL ([w] ++ (lnsI n es).tail)) = .ex 1001 := by
  have hok : LnOk ([w] ++ (lnsI n es).tail) := (wrongN_ok.sub fun l hl => by rw [List.mem_singleton.mp hl]; exact hw).app (g.lns.sub fun l hl => List.mem_of_mem_tail hl)
  rw [parse_join hok (by simp)]
  have hr : rowM (0 == 0) w = none := by
    unfold rowM
    rw [show (0 == 0) = true from rfl, if_pos rfl, wrongN_no w hw]
    rfl
  have e3 : rowsM 0 ([w] ++ (lnsI n es).tail) [] = .inl 0 := by
    show rowsM 0 (w :: (lnsI n es).tail) [] = _
    unfold rowsM
    rw [hr]
  rw [e3]
end
def toI (p : Nat × Nat) : Int × Int := ((p.1 : Nat), (p.2 : Nat))
theorem rows_inv1 : ∀ {ls : List Str} {i : Nat} {acc a : List D}, rowsM (i + 1) ls acc = .inr a → ∃ ps : List (Nat × Nat), ls = ps.map (fun p => edgS p.1 p.2) ∧ a = acc ++ (ps.map toI).map eD
  | [], _, _, _, h => by
    cases h
    exact ⟨[], rfl, by simp⟩
  | l :: r, i, acc, a, h => by
    unfold rowsM at h
    cases hr : rowM (i + 1 == 0) l with
    | none => rw [hr] at h; cases h
    | some d =>
      rw [hr] at h
      unfold rowM at hr
      rw [show (i + 1 == 0) = false from rfl, if_neg Bool.false_ne_true] at hr
      cases hl : lineE l with
      | none => rw [hl] at hr; cases hr
      | some p =>
        rw [hl] at hr
        cases hr
        obtain ⟨_, _, e⟩ := lineE_some (i := p.1) (j := p.2) hl
        obtain ⟨ps, e1, e2⟩ := rows_inv1 h
        refine ⟨p :: ps, by rw [List.map_cons, ← e, e1], ?_⟩
        rw [e2]
        simp [toI, eN, eD]
theorem rows_inv {ls : List Str} {a : List D} (hne : ls ≠ []) (h : rowsM 0 ls [] = .inr a) : ∃ (n : Nat) (ps : List (Nat × Nat)), ls = lnsI n (ps.map toI) ∧ a = .int (n : Nat) :: (ps.map toI).map eD := by
  cases ls with
  | nil => exact absurd rfl hne
  | cons l r =>
    unfold rowsM at h
    cases hr : rowM (0 == 0) l with
    | none => rw [hr] at h; cases h
    | some d =>
      rw [hr] at h
      unfold rowM at hr
      rw [show (0 == 0) = true from rfl, if_pos rfl] at hr
      cases hl : lineN l with
      | none => rw [hl] at hr; cases hr
      | some n =>
        rw [hl] at hr
        cases hr
        obtain ⟨_, e⟩ := lineN_some hl
        obtain ⟨ps, e1, e2⟩ := rows_inv1 h
        refine ⟨n, ps, ?_, e2⟩
        unfold lnsI
        rw [e1, e, List.map_map, Int.toNat_natCast]
        rfl
theorem isG_inv {n : Int} {es : List (Int × Int)} (h : isG (grD n es) = true) : GrOk 7 15 n es := by
  have h : (decide (1 ≤ n) && decide (n ≤ 7) && decide ((es.map eD).length ≤ 15) && (es.map eD).all (isE n)) = true := h
  rw [Bool.and_eq_true, Bool.and_eq_true, Bool.and_eq_true, List.length_map, List.all_map, List.all_eq_true] at h
  obtain ⟨⟨⟨a, b⟩, c⟩, d⟩ := h
  refine ⟨of_decide_eq_true a, of_decide_eq_true b, of_decide_eq_true c, fun p hp => ?_⟩
  have q : (decide (0 ≤ p.1) && decide (p.1 ≤ n - 2) && (decide (p.1 + 1 ≤ p.2) && decide (p.2 ≤ n - 1))) = true := d p hp
  simp only [Bool.and_eq_true, decide_eq_true_eq] at q
  omega
/-- whatever text: its own text, or an error with a line -/
theorem parse_any (c : Str) : (∃ k, 1000 ≤ k ∧ parseM c = .ex k) ∨ ∃ n es, GrOk 7 15 n es ∧ parseM c = .ok (grD n es) ∧ Txt.join NL (lnsI n es) = c := by
  have hj := tj_split tl_NL k_NL c
  have hne := split_ne tl_NL k_NL c
  unfold parseM
  cases hr : rowsM 0 (Txt.split c NL) [] with
  | inl k => exact .inl ⟨1001 + k, by omega, rfl⟩
  | inr a =>
    obtain ⟨n, ps, e1, e2⟩ := rows_inv hne hr
    subst e2
    dsimp only
    cases hG : isG (grD n (ps.map toI)) with
    | true =>
      refine .inr ⟨n, ps.map toI, isG_inv hG, ?_, by rw [← e1]; exact hj⟩
      show (if isG (grD n (ps.map toI)) = true then Rs.ok (grD n (ps.map toI)) else _) = _
      rw [hG, if_pos rfl]
    | false =>
      refine .inl ⟨1000, by omega, ?_⟩
      show (if isG (grD n (ps.map toI)) = true then Rs.ok (grD n (ps.map toI)) else _) = _
      rw [hG, if_neg Bool.false_ne_true]

theorem pick {ws : List Str} {k : Int} (hk : 0 < k) (hl : (ws.length : Int) = k) (x : Int) : ∃ w ∈ ws, idxD (.list (ws.map .str)) (.int (x % k)) = .ok (.str w) := by
  have h0 := Int.emod_nonneg x (show k ≠ 0 by omega)
  have h1 := Int.emod_lt_of_pos x hk
  have hi : (x % k).toNat < ws.length := by omega
  refine ⟨ws[(x % k).toNat], List.getElem_mem hi, ?_⟩
  have := d_ixL (xs := ws.map PyData.str) (j := (x % k).toNat) (d := .str ws[(x % k).toNat]) (by rw [List.getElem?_map, List.getElem?_eq_getElem hi]; rfl)
  rw [show (((x % k).toNat : Nat) : Int) = x % k by omega] at this
  exact this
def newW : List Str := ["0", " ", "1", "\n", "x", " 2"]
theorem newW_ok : ∀ w ∈ newW, small w ∧ w.length ≤ 2 := by unfold small; decide +kernel
theorem shd_list {xs : List D} (h : ∀ x ∈ xs, x.canLay0 = true ∧ x.depth ≤ 20) : SeqAt.shaped (.list xs) = true := by
  unfold SeqAt.shaped
  have h1 := lay_all fun x hx => (h x hx).1
  have h2 := dep_all fun x hx => (h x hx).2
  rw [Bool.and_eq_true]
  refine ⟨by rw [PyData.canLay0]; exact h1, decide_eq_true ?_⟩
  rw [PyData.depth]
  omega
theorem flat_str {s : Str} (h : small s) : (PyData.str s).canLay0 = true ∧ (PyData.str s).depth ≤ 20 := by
  have := small_ok h
  unfold SeqAt.shaped at this
  rw [Bool.and_eq_true] at this
  exact ⟨this.1, by rw [PyData.depth]; omega⟩
theorem flat_int (i : Int) : (PyData.int i).canLay0 = true ∧ (PyData.int i).depth ≤ 20 := ⟨rfl, by rw [PyData.depth]; omega⟩
theorem flat_none : (PyData.none).canLay0 = true ∧ (PyData.none).depth ≤ 20 := ⟨rfl, by rw [PyData.depth]; omega⟩
theorem sm_line : small ("line" : String) := by unfold small; decide +kernel
theorem sm_other : small ("other" : String) := by unfold small; decide +kernel
theorem ne_lineI (i : Int) : cmpD .ne (.list [.str ("line" : String), .int i]) (.list [.str ("line" : String), .int i]) = .ok false := by
  have s : SeqAt.shaped (.list [.str ("line" : String), .int i]) = true := shd_list fun x hx => by
    simp only [List.mem_cons, List.not_mem_nil, or_false] at hx
    rcases hx with rfl | rfl
    · exact flat_str sm_line
    · exact flat_int i
  show (if SeqAt.shaped (.list [.str ("line" : String), .int i]) && SeqAt.shaped (.list [.str ("line" : String), .int i]) then Rs.ok (!PyData.eqv (.list [.str ("line" : String), .int i]) (.list [.str ("line" : String), .int i])) else .bad) = _
  rw [s]
  simp [PyData.eqv, PyData.eqvAll]
theorem ne_lineN : cmpD .ne (.list [.str ("line" : String), .none]) (.list [.str ("line" : String), .none]) = .ok false := by kernel_rfl
theorem eq_lineN : cmpD .eq (.list [.str ("line" : String), .none]) (.list [.str ("line" : String), .none]) = .ok true := by kernel_rfl
theorem ne_gr {n : Int} {es : List (Int × Int)} : cmpD .ne (grD n es) (grD n es) = .ok false := by
  have a : shp 3 (grD n es) = true := by
    show ([PyData.int n, .tuple (es.map eD)].all (shp 2)) = true
    have : (es.map eD).all (shp 1) = true := shp_eDs (n := 0) es
    simp only [List.all_cons, List.all_nil, Bool.and_true]
    exact this
  rw [c_ne a a (by decide) (by decide), eqv_refl a]
  rfl
theorem line1000 : lineD 1000 = .none := rfl
theorem line_at (m : Nat) : lineD (1001 + m) = .int (m : Nat) := by
  unfold lineD
  rw [if_neg (by omega)]
  congr 1
  omega

theorem pickD {ws : List D} {k : Int} (hk : 0 < k) (hl : (ws.length : Int) = k) (x : Int) : ∃ w ∈ ws, idxD (.list ws) (.int (x % k)) = .ok w := by
  have h0 := Int.emod_nonneg x (show k ≠ 0 by omega)
  have h1 := Int.emod_lt_of_pos x hk
  have hi : (x % k).toNat < ws.length := by omega
  refine ⟨ws[(x % k).toNat], List.getElem_mem hi, ?_⟩
  have := d_ixL (xs := ws) (j := (x % k).toNat) (d := ws[(x % k).toNat]) (by rw [List.getElem?_eq_getElem hi])
  rw [show (((x % k).toNat : Nat) : Int) = x % k by omega] at this
  exact this
theorem m_lp_ok {c : Str} (hl : c.length + 2 < lim) (hs : small c) {v : D} (h : parseM c = .ok v) : FF ds 12 11 [.str c] = .ok v := m_law_parse (by decide) ((m_parse_graph (by decide) hl hs).trans h)
theorem m_lp_ex {c : Str} (hl : c.length + 2 < lim) (hs : small c) {k : Nat} (h : parseM c = .ex k) (hk : 1000 ≤ k) : FF ds 12 11 [.str c] = .ok (.list [.str ("line" : String), lineD k]) := m_law_parseX (by decide) ((m_parse_graph (by decide) hl hs).trans h) hk
theorem law_true : ∀ ns : List Int, ns.length ≤ 63 → FF ds (12 + 1) 12 [scrD ns] = .ok (.bool true) := by
  intro ns hlen
  rw [call_of (i := 12) rfl (by decide) rfl]
  obtain ⟨dr, hr, e1⟩ := m_law_row (j := 12) (by decide) (ns := ns) (a := 4) (by decide)
  obtain ⟨n, es, g0, e2⟩ := m_law_graph (j := 12) (by decide) (ns := ns) (a := 2) (by decide) (M := 7) (E := 9) (by decide) (by decide) (by decide)
  have e2 : FF ds 12 7 [scrD ns, .int 2, .int 7, .int 9] = .ok (grD n es) := e2
  have g := g0.big7 (by decide) (by decide)
  have h1 := g.n1
  have h2 := g.nM
  have h3 := g0.len
  have lk : lim = 100000 := rfl
  have hg0 : idxD (grD n es) (.int 0) = .ok (.int n) := d_i0
  have hg1 : idxD (grD n es) (.int 1) = .ok (.tuple (es.map eD)) := d_i1
  have l2 : (("nodes " : String) : Str).length = 6 := by decide +kernel
  have l3 : (("edge " : String) : Str).length = 5 := by decide +kernel
  have l4 : ((" " : String) : Str).length = 1 := by decide +kernel
  have l5 : (("\n" : String) : Str).length = 1 := by decide +kernel
  have la : ∀ a b : Str, (a ++ b).length = a.length + b.length := Str.length_append
  -- the lines
  have a1 := str_fig (i := n) (by omega) (by omega)
  have a2 := add_str (a := ("nodes " : String)) (b := figS n.toNat) (by rw [fig_len (by omega)]; omega)
  rw [nod_app] at a2
  have a3 : compL (compB (FF ds 12) (.t2 (.nm 11) (.nm 12)) cc_law_0 ce_law_0 [11, 12] [some (.v (scrD ns)), some (.v (.list (dr.map .int))), some (.v (grD n es)), none, none, none, none, none, none, none, none, none, none]) (es.map eD) = .ok (es.map fun p => PyData.str (edgS p.1.toNat p.2.toNat)) := by
    refine compL_some fun p hp => ?_
    obtain ⟨q1, q2, q3⟩ := g.e p hp
    have c1 := str_fig (i := p.1) (by omega) (by omega)
    have c2 := str_fig (i := p.2) (by omega) (by omega)
    have b1 := fig_len (i := p.1.toNat) (by omega)
    have b2 := fig_len (i := p.2.toNat) (by omega)
    have k1 := add_str (a := ("edge " : String)) (b := figS p.1.toNat) (by omega)
    have k2 := add_str (a := (("edge " : String) : Str) ++ figS p.1.toNat) (b := (" " : String)) (by rw [la]; omega)
    have k3 := add_str (a := (("edge " : String) : Str) ++ figS p.1.toNat ++ ((" " : String) : Str)) (b := figS p.2.toNat) (by rw [la, la]; omega)
    rw [show (("edge " : String) : Str) ++ figS p.1.toNat ++ ((" " : String) : Str) ++ figS p.2.toNat = edgS p.1.toNat p.2.toNat from edg_app _ _] at k3
    simp only [compB, cc_law_0, ce_law_0, wipeG, bindT, eD]
    simp [c1, c2, k1, k2, k3]
  have a4 : binD .add (.list [.str (nodS n.toNat)]) (.list (es.map fun p => PyData.str (edgS p.1.toNat p.2.toNat))) = .ok (.list ((lnsI n es).map .str)) := by
    show (if [PyData.str (nodS n.toNat)].length + (es.map fun p => PyData.str (edgS p.1.toNat p.2.toNat)).length ≤ lim then Rs.ok (PyData.list ([PyData.str (nodS n.toNat)] ++ (es.map fun p => PyData.str (edgS p.1.toNat p.2.toNat)))) else .bad) = _
    rw [if_pos (by rw [List.length_map]; show 1 + es.length ≤ lim; omega)]
    congr 2
    unfold lnsI
    rw [List.map_cons, List.map_map]
    rfl
  have hll : (lnsI n es).length = es.length + 1 := by unfold lnsI; rw [List.length_cons, List.length_map]
  have a5 := d_join (ls := lnsI n es) (k := 12) g.lns.ln (by omega)
  -- the text
  have f1 := m_format (j := 12) (by decide) g
  have tl := join_len g.lns.ln
  have ts := join_small g.lns.sm
  have f2 := m_lp_ok (c := Txt.join NL (lnsI n es)) (by omega) ts (parse_text g)
  have f3 : cmpD .ne (.str (Txt.join NL (lnsI n es))) (.str (Txt.join NL (lnsI n es))) = .ok false := by rw [ne_str ts ts]; simp
  have f4 := ne_gr (n := n) (es := es)
  -- a wrong line
  obtain ⟨d0, r0, _, _⟩ := row_at hr (i := 0) (by decide) (by decide)
  obtain ⟨d1, r1, _, _⟩ := row_at hr (i := 1) (by decide) (by decide)
  obtain ⟨d2, r2, _, _⟩ := row_at hr (i := 2) (by decide) (by decide)
  obtain ⟨d3, r3, _, _⟩ := row_at hr (i := 3) (by decide) (by decide)
  obtain ⟨d4, r4, _, _⟩ := row_at hr (i := 4) (by decide) (by decide)
  obtain ⟨d5, r5, _, _⟩ := row_at hr (i := 5) (by decide) (by decide)
  obtain ⟨d6, r6, _, _⟩ := row_at hr (i := 6) (by decide) (by decide)
  have hm0 := Int.emod_nonneg d3 (show (es.length : Int) + 1 ≠ 0 by omega)
  have hm1 := Int.emod_lt_of_pos d3 (show (0 : Int) < (es.length : Int) + 1 by omega)
  obtain ⟨m, hm⟩ : ∃ m : Nat, d3 % ((es.length : Int) + 1) = m := ⟨(d3 % ((es.length : Int) + 1)).toNat, by omega⟩
  have hml : m ≤ es.length := by omega
  have w0 : binD .mod (.int d3) (.int ((lnsI n es).length)) = .ok (.int (m : Nat)) := by
    rw [hll, d_mod (by omega)]
    show Rs.ok (PyData.int (d3 % (((es.length + 1 : Nat) : Int)))) = _
    rw [show ((es.length + 1 : Nat) : Int) = (es.length : Int) + 1 by omega, hm]
  obtain ⟨w, hw, w1⟩ := pick (ws := wrongE) (k := 8) (by decide) rfl d4
  have w1 : idxD (.list [.str ("" : String), .str ("edge 0" : String), .str ("edge 0 10" : String), .str ("edge 0 1 2" : String), .str ("edge  0 1" : String), .str ("nodes 2" : String), .str ("edge 0 x" : String), .str ("Edge 0 1" : String)]) (.int (d4 % 8)) = .ok (.str w) := w1
  have sx : ∀ z : Nat, HT.sIx z 0 (some (1 + (m : Nat) : Int)) = min (m + 1) z := fun z => by
    rw [show (1 + (m : Nat) : Int) = ((m + 1 : Nat) : Int) by omega, HT.sIx_nat]
  have sx2 : ∀ z y : Nat, HT.sIx z y (some (1 + (m : Nat) : Int)) = min (m + 1) z := fun z y => by
    rw [show (1 + (m : Nat) : Int) = ((m + 1 : Nat) : Int) by omega, HT.sIx_nat]
  have w2 : slcD (.list ((lnsI n es).map .str)) none (some (1 + (m : Nat) : Int)) = .ok (.list (((lnsI n es).take (m + 1)).map .str)) := by
    show Rs.ok (PyData.list (cutL _ _ _)) = _
    unfold cutL
    rw [sx2, HT.sIx_none, List.length_map, List.drop_zero, Nat.sub_zero, List.map_take]
    congr 3
    omega
  have w3 : slcD (.list ((lnsI n es).map .str)) (some (1 + (m : Nat) : Int)) none = .ok (.list (((lnsI n es).drop (m + 1)).map .str)) := by
    show Rs.ok (PyData.list (cutL _ _ _)) = _
    unfold cutL
    rw [sx, HT.sIx_none, List.length_map, List.map_drop, show min (m + 1) (lnsI n es).length = m + 1 by omega]
    congr 2
    exact List.take_of_length_le (by rw [List.length_drop, List.length_map]; exact Nat.le_refl _)
  have w4 : binD .add (.list (((lnsI n es).take (m + 1)).map .str)) (.list [.str w]) = .ok (.list (((lnsI n es).take (m + 1) ++ [w]).map .str)) := by
    show (if _ then Rs.ok (PyData.list _) else .bad) = _
    rw [if_pos (by rw [List.length_map, List.length_take]; show _ + 1 ≤ _; omega)]
    simp
  have w5 : binD .add (.list (((lnsI n es).take (m + 1) ++ [w]).map .str)) (.list (((lnsI n es).drop (m + 1)).map .str)) = .ok (.list (((lnsI n es).take (m + 1) ++ [w] ++ (lnsI n es).drop (m + 1)).map .str)) := by
    show (if _ then Rs.ok (PyData.list _) else .bad) = _
    rw [if_pos (by rw [List.length_map, List.length_map, List.length_append, List.length_take, List.length_drop]; show _ + 1 + _ ≤ _; omega)]
    simp
  have hok : LnOk ((lnsI n es).take (m + 1) ++ [w] ++ (lnsI n es).drop (m + 1)) := ((g.lns.sub fun l hl => List.mem_of_mem_take hl).app (wrongE_ok.sub fun l hl => by rw [List.mem_singleton.mp hl]; exact hw)).app (g.lns.sub fun l hl => List.mem_of_mem_drop hl)
  have hln : ((lnsI n es).take (m + 1) ++ [w] ++ (lnsI n es).drop (m + 1)).length ≤ 20 := by rw [List.length_append, List.length_append, List.length_take, List.length_drop]; show _ + 1 + _ ≤ _; omega
  have w6 := d_join (ls := (lnsI n es).take (m + 1) ++ [w] ++ (lnsI n es).drop (m + 1)) (k := 12) hok.ln (by omega)
  have wl := join_len hok.ln
  have w7 := m_lp_ex (c := Txt.join NL ((lnsI n es).take (m + 1) ++ [w] ++ (lnsI n es).drop (m + 1))) (by omega) (join_small hok.sm) (parse_wrongE g hw hml) (by omega)
  rw [line_at, show (((m + 1 : Nat) : Nat) : Int) = 1 + (m : Nat) by omega] at w7
  have w8 := ne_lineI (1 + (m : Nat))
  -- a wrong first line
  obtain ⟨v, hv, v1⟩ := pick (ws := wrongN) (k := 6) (by decide) rfl d5
  have v1 : idxD (.list [.str ("nodes" : String), .str ("nodes 10" : String), .str ("node 2" : String), .str ("" : String), .str ("nodes x" : String), .str ("nodes 2 2" : String)]) (.int (d5 % 6)) = .ok (.str v) := v1
  have v2 : slcD (.list ((lnsI n es).map .str)) (some 1) none = .ok (.list ((lnsI n es).tail.map .str)) := by
    show Rs.ok (PyData.list (cutL _ _ _)) = _
    unfold cutL lnsI
    simp [HT.sIx]
    exact List.take_of_length_le (by rw [List.length_map]; exact Nat.le_refl _)
  have v3 : binD .add (.list [.str v]) (.list ((lnsI n es).tail.map .str)) = .ok (.list (([v] ++ (lnsI n es).tail).map .str)) := by
    show (if _ then Rs.ok (PyData.list _) else .bad) = _
    rw [if_pos (by rw [List.length_map, List.length_tail]; show 1 + _ ≤ _; omega)]
    simp
  have hok2 : LnOk ([v] ++ (lnsI n es).tail) := (wrongN_ok.sub fun l hl => by rw [List.mem_singleton.mp hl]; exact hv).app (g.lns.sub fun l hl => List.mem_of_mem_tail hl)
  have hln2 : ([v] ++ (lnsI n es).tail).length ≤ 20 := by rw [List.length_append, List.length_tail]; show 1 + _ ≤ _; omega
  have v4 := d_join (ls := [v] ++ (lnsI n es).tail) (k := 12) hok2.ln (by omega)
  have vl := join_len hok2.ln
  have v5 := m_lp_ex (c := Txt.join NL ([v] ++ (lnsI n es).tail)) (by omega) (join_small hok2.sm) (parse_wrongN g hv) (by omega)
  rw [show lineD 1001 = .int 0 from rfl] at v5
  have v6 := ne_lineI 0
  -- a text that is no graph; no text
  have u1 := m_lp_ex (c := ("nodes 2\nedge 1 0" : String)) (by decide +kernel) (by unfold small; decide +kernel) (k := 1000) (by kernel_rfl) (by omega)
  rw [line1000] at u1
  obtain ⟨u, hu, u2⟩ := pickD (ws := [.none, .int 7, .list ((lnsI n es).map .str), grD n es]) (k := 4) (by decide) rfl d6
  have u3 : isiR .str u = .ok (.bool false) := by
    simp only [List.mem_cons, List.not_mem_nil, or_false] at hu
    rcases hu with rfl | rfl | rfl | rfl <;> rfl
  have u4 := m_law_parseX (j := 12) (by decide) (m_parse_non (j := 11) (by decide) u3) (by omega)
  rw [line1000] at u4
  -- the text changed
  generalize hT : Txt.join NL (lnsI n es) = T at *
  have s0 := d_len_str (t := T) (by omega)
  have s1 : binD .mul (.int d0) (.int 5) = .ok (.int (d0 * 5)) := d_mul (by decide)
  have s2 : binD .mod (.int (d0 * 5)) (.int ((T.length : Int) + 1)) = .ok (.int (d0 * 5 % ((T.length : Int) + 1))) := d_mod (by omega)
  generalize d0 * 5 % ((T.length : Int) + 1) = sp at *
  obtain ⟨y, hy, y1⟩ := pick (ws := newW) (k := 6) (by decide) rfl d1
  have y1 : idxD (.list [.str ("0" : String), .str (" " : String), .str ("1" : String), .str ("\n" : String), .str ("x" : String), .str (" 2" : String)]) (.int (d1 % 6)) = .ok (.str y) := y1
  obtain ⟨ys, yl⟩ := newW_ok y hy
  have cl := fun lo hi => L2.cutS_length T lo hi
  have z1 : slcD (.str T) none (some sp) = .ok (.str (L2.cutS T none (some sp))) := if_pos (by omega)
  have z2 : slcD (.str T) (some (sp + 1)) none = .ok (.str (L2.cutS T (some (sp + 1)) none)) := if_pos (by omega)
  have z3 : slcD (.str T) (some sp) none = .ok (.str (L2.cutS T (some sp) none)) := if_pos (by omega)
  have c1 := cl none (some sp)
  have c2 := cl (some (sp + 1)) none
  have c3 := cl (some sp) none
  have z4 := add_str (a := L2.cutS T none (some sp)) (b := L2.cutS T (some (sp + 1)) none) (by omega)
  have z5 := add_str (a := L2.cutS T none (some sp)) (b := y) (by omega)
  have z6 := add_str (a := L2.cutS T none (some sp) ++ y) (b := L2.cutS T (some sp) none) (by rw [la]; omega)
  have z7 := add_str (a := T) (b := ("\n" : String)) (by omega)
  have z8 := add_str (a := (" " : String)) (b := T) (by omega)
  obtain ⟨c, hc, z9⟩ := pick (ws := [L2.cutS T none (some sp) ++ L2.cutS T (some (sp + 1)) none, L2.cutS T none (some sp) ++ y ++ L2.cutS T (some sp) none, T ++ (("\n" : String) : Str), ((" " : String) : Str) ++ T]) (k := 4) (by decide) rfl d2
  have hcs : small c ∧ c.length ≤ 1000 := by
    simp only [List.mem_cons, List.not_mem_nil, or_false] at hc
    rcases hc with rfl | rfl | rfl | rfl
    · exact ⟨small_app (cut_small ts _ _) (cut_small ts _ _), by rw [la]; omega⟩
    · exact ⟨small_app (small_app (cut_small ts _ _) ys) (cut_small ts _ _), by rw [la, la]; omega⟩
    · exact ⟨small_app ts (by unfold small; decide +kernel), by rw [la]; omega⟩
    · exact ⟨small_app (by unfold small; decide +kernel) ts, by rw [la]; omega⟩
  rw [List.map_cons, List.map_cons, List.map_cons, List.map_cons, List.map_nil] at z9
  have o1 : cmpD .eq (.str ("line" : String)) (.str ("other" : String)) = .ok false := by kernel_rfl
  have o2 : cmpD .ne (.str ("line" : String)) (.str ("line" : String)) = .ok false := by kernel_rfl
  have md : ∀ (x : Int) (k : Int), 0 < k → binD .mod (.int x) (.int k) = .ok (.int (x % k)) := fun x k h => d_mod h
  have m4 := md d2 4 (by decide)
  have m8 := md d4 8 (by decide)
  have m6 := md d1 6 (by decide)
  have m5 := md d5 6 (by decide)
  have m46 := md d6 4 (by decide)
  have pn : ∀ x, part .noP x = .ok none := fun x => rfl
  have pv : ∀ (e : E) (i : Int), part (.var 0) (.ok (.int i)) = .ok (some i) := fun e i => rfl
  have ps5 : ∀ i : Int, part (.var 5) (.ok (.int i)) = .ok (some i) := fun i => rfl
  have ps9 : ∀ i : Int, part (.var 9) (.ok (.int i)) = .ok (some i) := fun i => rfl
  have psA : ∀ i : Int, part (.bin .add (.var 5) (.k (.int 1))) (.ok (.int i)) = .ok (some i) := fun i => rfl
  have ps1 : part (.k (.int 1)) (.ok (.int 1)) = .ok (some 1) := rfl
  generalize hL : (lnsI n es).map PyData.str = L at *
  have hLl : L.length = (lnsI n es).length := by rw [← hL, List.length_map]
  rw [← hLl] at w0
  generalize ((lnsI n es).take (m + 1) ++ [w] ++ (lnsI n es).drop (m + 1)).map PyData.str = LD at *
  generalize ((lnsI n es).take (m + 1) ++ [w]).map PyData.str = LB at *
  generalize ((lnsI n es).take (m + 1)).map PyData.str = LA at *
  generalize ((lnsI n es).drop (m + 1)).map PyData.str = LC at *
  generalize ([v] ++ (lnsI n es).tail).map PyData.str = LF at *
  generalize (lnsI n es).tail.map PyData.str = LE at *
  generalize Txt.join NL ((lnsI n es).take (m + 1) ++ [w] ++ (lnsI n es).drop (m + 1)) = J1 at *
  generalize Txt.join NL ([v] ++ (lnsI n es).tail) = J2 at *
  rcases parse_any c with ⟨k, hk, hp⟩ | ⟨n', es', g', hp, ht⟩
  · have q1 := m_lp_ex (by omega) hcs.1 hp hk
    have q2 := idx_cons0 (x := PyData.str ("line" : String)) (xs := [lineD k])
    simp [ir_law, tl_law_1, tl_law_2, tl_law_3, tl_law_4, tl_law_5, tl_law_6, tl_law_7, tl_law_8, tl_law_9, tl_law_10, tl_law_11, tl_law_12, tl_law_13, tl_law_14, tl_law_15, tl_law_16, startG, fnRes, store, bindT, lent, e1, e2, hg0, hg1, a1, a2, a3, a4, a5, f1, f2, f3, f4, r0, r1, r2, r3, r4, r5, r6, w0, w1, w2, w3, w4, w5, w6, w7, w8, v1, v2, v3, v4, v5, v6, u1, u2, u4, ne_lineN, eq_lineN, s0, s1, s2, y1, z1, z2, z3, z4, z5, z6, z7, z8, z9, m4, m8, m6, m5, m46, pn, ps5, ps9, psA, ps1, q1, q2, o1, o2]
  · have q1 := m_lp_ok (by omega) hcs.1 hp
    have q2 : idxD (grD n' es') (.int 0) = .ok (.int n') := d_i0
    have q3 := m_format (j := 12) (by decide) g'
    rw [ht] at q3
    have q4 : cmpD .ne (.str c) (.str c) = .ok false := by rw [ne_str hcs.1 hcs.1]; simp
    have q5 : cmpD .eq (.int n') (.str ("other" : String)) = .ok false := by kernel_rfl
    have q6 : cmpD .ne (.int n') (.str ("line" : String)) = .ok true := by kernel_rfl
    simp [ir_law, tl_law_1, tl_law_2, tl_law_3, tl_law_4, tl_law_5, tl_law_6, tl_law_7, tl_law_8, tl_law_9, tl_law_10, tl_law_11, tl_law_12, tl_law_13, tl_law_14, tl_law_15, tl_law_16, startG, fnRes, store, bindT, lent, e1, e2, hg0, hg1, a1, a2, a3, a4, a5, f1, f2, f3, f4, r0, r1, r2, r3, r4, r5, r6, w0, w1, w2, w3, w4, w5, w6, w7, w8, v1, v2, v3, v4, v5, v6, u1, u2, u4, ne_lineN, eq_lineN, s0, s1, s2, y1, z1, z2, z3, z4, z5, z6, z7, z8, z9, m4, m8, m6, m5, m46, pn, ps5, ps9, psA, ps1, q1, q2, q3, q4, q5, q6]

end Lw

namespace Lw
open PySem PySem.Spec PyProof.Rows L2 Ip
theorem fin {P : Program} {w : World} {K : PySem.W.Frag} {h : Heap} {mg : Str → Option Value} {fa : Addr} {CP GP : Addr} (X : K.In h) (G : h.Ns mainGlobals mg) (hfa : mg "law" = some (.ref fa)) (hm : modB K cg (cg.cls.map (adr K)) = true)
    (BP : PFact K CP GP)
    (d0 : DFact K "in_range" s_in_range) (d1 : DFact K "is_edge" s_is_edge) (d2 : DFact K "is_graph" s_is_graph) (d3 : DFact K "check_graph" s_check_graph) (d4 : DFact K "format_graph" s_format_graph) (d5 : DFact K "_law_cell" s__law_cell) (d6 : DFact K "_law_row" s__law_row) (d7 : DFact K "_law_graph" s__law_graph) (d8 : DFact K "parse_digit" s_parse_digit) (d9 : DFact K "parse_line" s_parse_line) (d10 : DFact K "parse_graph" s_parse_graph) (d11 : DFact K "_law_parse" s__law_parse) (d12 : DFact K "law" s_law) :
    ∃ fd : FuncData, (∀ (s : Shared) (v : Value), BindsTo s fd ⟨[v], []⟩ [("script", v)]) ∧ ∀ base : Heap, K.In base → base.Ns mainGlobals mg → FnOk P w K mg base (L2.CX P w) 13 fa fd ["script"] (spLaw K) :=
  fin_mk (k := 12) (ds := ds) (C := CP) true (by rfl) X G hfa hm (fun base _ => px_of X G BP base) d12 t_law rfl rfl (fun base =>
    .cons (def_of false (by rfl) X G d0 t_in_range) <|
    .cons (def_of false (by rfl) X G d1 t_is_edge) <|
    .cons (def_of true (by rfl) X G d2 t_is_graph) <|
    .cons (def_of true (by rfl) X G d3 t_check_graph) <|
    .cons (def_of true (by rfl) X G d4 t_format_graph) <|
    .cons (def_of true (by rfl) X G d5 t__law_cell) <|
    .cons (def_of true (by rfl) X G d6 t__law_row) <|
    .cons (def_of true (by rfl) X G d7 t__law_graph) <|
    .cons (def_of true (by rfl) X G d8 t_parse_digit) <|
    .cons (def_of true (by rfl) X G d9 t_parse_line) <|
    .cons (def_of true (by rfl) X G d10 t_parse_graph) <|
    .cons (def_of true (by rfl) X G d11 t__law_parse) <|
    .cons (def_of true (by rfl) X G d12 t_law) <|
    .nil) law_true
end Lw
open PySem PySem.W PyProof.Rows
set_option maxHeartbeats 0 in
theorem PySem.Challenge.cw_sparsegraphs_k21_text_holds : PySem.Challenge.rw_sparsegraphs_k21_text.Holds := by
  w_on; o_law; k_head; (case hw => w_witness2)
  k_fill
  refine L2.walk_of (l := PySem.Challenge.rw_sparsegraphs_k21_text) (n := 63) (k := 13) (x := "script") (CX := fun w => L2.CX PySem.Challenge.rw_sparsegraphs_k21_text.prog w) (sp := fun w => Ip.spLaw _) rfl (by decide) rfl ⟨rfl, by decide, by decide⟩ (fun w h Y => PySem.W.kIn_of Y) ?F (fun _ _ a ns hl _ hS => ⟨a, ns, rfl, hS, hl, fun _ => rfl⟩) (fun _ _ _ _ _ h => by obtain ⟨_, _, _, _, _, _, _, _, _, _, _, _, z⟩ := h; exact z)
  case F =>
    intro w mg fa h KX G hmg
    refine' Lw.fin KX G hmg ?hm ?BP ?d0 ?d1 ?d2 ?d3 ?d4 ?d5 ?d6 ?d7 ?d8 ?d9 ?d10 ?d11 ?d12
    (case hm => kernel_rfl)
    (case BP => refine' Lw.PFact.mk ?a ?ag ?ok ?cls ?m; (case a => k_is); (case ag => k_is); (case ok => kernel_rfl); (case cls => refine' Ip.oex_of ?l; (case l => k_is)); (case m => refine' Ip.mfact ?a ?i ?l ?c ?k; (case a => k_is); (case i => k_is); (case l => k_is); (case c => k_is); (case k => k_is)))
    (case d0 => refine' Ip.dfact ?a ?l ?c ?k; (case a => k_is); (case l => k_is); (case c => k_is); (case k => k_is))
    (case d1 => refine' Ip.dfact ?a ?l ?c ?k; (case a => k_is); (case l => k_is); (case c => k_is); (case k => k_is))
    (case d2 => refine' Ip.dfact ?a ?l ?c ?k; (case a => k_is); (case l => k_is); (case c => k_is); (case k => k_is))
    (case d3 => refine' Ip.dfact ?a ?l ?c ?k; (case a => k_is); (case l => k_is); (case c => k_is); (case k => k_is))
    (case d4 => refine' Ip.dfact ?a ?l ?c ?k; (case a => k_is); (case l => k_is); (case c => k_is); (case k => k_is))
    (case d5 => refine' Ip.dfact ?a ?l ?c ?k; (case a => k_is); (case l => k_is); (case c => k_is); (case k => k_is))
    (case d6 => refine' Ip.dfact ?a ?l ?c ?k; (case a => k_is); (case l => k_is); (case c => k_is); (case k => k_is))
    (case d7 => refine' Ip.dfact ?a ?l ?c ?k; (case a => k_is); (case l => k_is); (case c => k_is); (case k => k_is))
    (case d8 => refine' Ip.dfact ?a ?l ?c ?k; (case a => k_is); (case l => k_is); (case c => k_is); (case k => k_is))
    (case d9 => refine' Ip.dfact ?a ?l ?c ?k; (case a => k_is); (case l => k_is); (case c => k_is); (case k => k_is))
    (case d10 => refine' Ip.dfact ?a ?l ?c ?k; (case a => k_is); (case l => k_is); (case c => k_is); (case k => k_is))
    (case d11 => refine' Ip.dfact ?a ?l ?c ?k; (case a => k_is); (case l => k_is); (case c => k_is); (case k => k_is))
    (case d12 => refine' Ip.dfact ?a ?l ?c ?k; (case a => k_is); (case l => k_is); (case c => k_is); (case k => k_is))
