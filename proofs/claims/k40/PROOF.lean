import PyProof.Rows.All
import PyProof.ReprRoads
import HandS.ForMost
import KE.LtData
import HandS.ForExc
import HandS.Text
import HandS.Deep
import HandS.Walk
import HandS.IsInst
import HandS.TupAny
import HandS.TupMul
import HandS.Wide
import HandS.Exc
import KE.SortData
import KE.DataMinMax
import KE.KTupSum
import HandS.Strs
import HandS.HotCalls
import PyProof.EqAt
import HandS.TupSets
import HandS.SetFor
import KE.KeyNested
import PyProof.SumAny
import HandS.SortKw
import HandS.SortInts
import HandS.More
import HandS.Iter
import HandS.Style
import HandS.WideBits
import KE.OsSort
import HandS.Rev
import PyProof.MaxThree
import HandS.ExcOwn
import HandS.Comp
import HandS.ExcCtx
import HandS.ExcInit
import HandS.ExcIs
import HandS.HeadWalk
import HandS.TryOnly
import KE.GoesMore
import HandS.Zip
import HandS.Conv
import PyProof.CallFns
import KE.KExcIs
import HandS.EndBits
import PySem.Challenge.RW_barredtables_k40_kinds_and_edges_by_anyb
set_option Elab.async false
set_option linter.all false
set_option maxRecDepth 100000
set_option maxHeartbeats 8000000
/-! Br1: pure data, mutable cells, a small language, and what its terms come to. -/
namespace Br
open PySem

/-- pure data -/
inductive D where
  | non | bl (b : Bool) | int (i : Int) | str (s : Str)
  | tup (xs : List D) | lst (xs : List D) | kst (xs : List D) | dct | fn (k : Nat)
  /-- the exception that is handled: its class, its fields -/
  | xc (c : Nat) (fs : List Int)
deriving Inhabited

/-- a value: data, or the n-th mutable cell -/
inductive Vl where
  | d (x : D) | r (n : Nat)
deriving Inhabited

inductive Cell where
  | lst (xs : List D)
  | lsr (ns : List Nat)
  | dic (kvs : List (L2.Key × D))
  | ins (c : Nat) (fs : List (Str × Vl))
  | dead
deriving Inhabited
def Cell.live : Cell → Bool
  | .dead => false
  | _ => true

abbrev Store := List Cell
abbrev Env := List (Option Vl)

inductive Res (α : Type) where
  | ok (a : α) (st : Store)
  | exc (c : Nat) (fs : List D) (st : Store)
  | bad
def Res.bind {α β : Type} (r : Res α) (f : α → Store → Res β) : Res β :=
  match r with
  | .ok a st => f a st
  | .exc c fs st => .exc c fs st
  | .bad => .bad
@[simp] theorem Res.bind_ok {α β : Type} (a : α) (st : Store) (f : α → Store → Res β) : (Res.ok a st).bind f = f a st := rfl
@[simp] theorem Res.bind_exc {α β : Type} (c : Nat) (fs : List D) (st : Store) (f : α → Store → Res β) : (Res.exc c fs st : Res α).bind f = .exc c fs st := rfl
@[simp] theorem Res.bind_bad {α β : Type} (f : α → Store → Res β) : (Res.bad : Res α).bind f = .bad := rfl
theorem Res.bind_assoc {α β γ : Type} (r : Res α) (f : α → Store → Res β) (g : β → Store → Res γ) : (r.bind f).bind g = r.bind fun a st => (f a st).bind g := by
  cases r <;> rfl
/-- no exception may leave -/
def Res.quiet {α : Type} (r : Res α) : Res α :=
  match r with
  | .ok a st => .ok a st
  | _ => .bad
@[simp] theorem Res.quiet_ok {α : Type} (a : α) (st : Store) : (Res.ok a st).quiet = .ok a st := rfl
@[simp] theorem Res.quiet_exc {α : Type} (c : Nat) (fs : List D) (st : Store) : (Res.exc c fs st : Res α).quiet = .bad := rfl
@[simp] theorem Res.quiet_bad {α : Type} : (Res.bad : Res α).quiet = .bad := rfl

inductive Bop where | add | sub | mul | fdiv | mod | pow | shl | shr | band | bor
deriving DecidableEq
inductive Cop where | eq | ne | lt | le | gt | ge | isin | notin
deriving DecidableEq
inductive Ty where | int | bool | tuple | list | str | dict
deriving DecidableEq
/-- built-ins of one argument -/
inductive B1 where | len | int | all | any | sum | tuple | list | sorted | min | max | str | setlen | sumcat | range | keys
deriving DecidableEq
inductive B2 where | min | max | range
deriving DecidableEq
/-- methods of built-in kinds that read: xs.count(x), xs.index(x), s.split(x), s.join(x) -/
inductive M1 where | count | index | split | join | bitlen
deriving DecidableEq
/-- what makes a new list of one argument -/
inductive L1 where | sorted | sortset | sumcat | range | sortpairs
deriving DecidableEq

mutual
inductive E where
  | var (i : Nat)
  | con (x : D)
  | glb (x : Str) (v : D)
  | op (o : Bop) (a b : E)
  | cmp (o : Cop) (a b : E)
  | cmp2 (o p : Cop) (a b c : E)
  | isN (a : E)
  | notN (a : E)
  | neg (a : E)
  | not (a : E)
  | and (a b : E)
  | or (a b : E)
  | ite (c a b : E)
  | tup (es : Es)
  | lst (o : Bool) (es : Es)
  | idx (a i : E)
  | sl (a : E) (lo hi : Eo)
  | rev (a : E)
  | b1 (f : B1) (a : E)
  | cpy (a : E)
  | b2 (f : B2) (a b : E)
  | isi (a : E) (t : Ty)
  | call (k : Nat) (es : Es)
  | callo (k : Nat) (es : Es)
  | pick (ks : List Nat) (i : E) (es : Es)
  | dct0
  | frz (a : E)
  | comp (o : Bool) (e : E) (t : Tg) (it : It) (c : Eo) (own : List Nat)
  | stuck
  | fnv (k : Nat)
  | calle (f : E) (es : Es)
  | l1 (o : Bool) (f : L1) (a : E)
  | m1 (f : M1) (a b : E)
  | popi (a i : E)
  | trange (a : E)
  | trange2 (a b : E)
  | compr (e : E) (t : Tg) (it : It) (own : List Nat)
  | idxr (a i : E)
  /-- isinstance(e, the y-th class) of the handled exception; isinstance(e, ValueError) -/
  | isx (a : E) (y : Nat)
  | isv (a : E)
  /-- e.many, e.most -/
  | fld (a : E) (b : Bool)
  /-- a call, cells handed over as data -/
  | callz (k : Nat) (es : Es)
  /-- a + b, the list is the caller's own -/
  | opo (a b : E)
  /-- len(set(a)), a tuple of ints -/
  | lens (a : E)
  /-- tuple(reversed(a)), a a tuple -/
  | revt (a : E)
  /-- o.join(a), str(a) of a small number -/
  | join (o a : E)
  | strI (a : E)
  /-- repr(a) -/
  | rep (a : E)
  /-- a.bit_length() -/
  | bits (a : E)
  /-- {k: e, ..}: a dict of the def's own; the keys are written -/
  | dnw (ks : List L2.Key) (es : Es)
  /-- sorted(d), a dict with whole numbers as keys -/
  | sortd (o : Bool) (a : E)
  /-- d.get(k, x) -/
  | dget (d k x : E)
  /-- {'a': 1, ..}.get(k, x), all written -/
  | dgetK (kvs : List (Str × Int)) (k x : E)
  /-- a in X, a not in X; X[a]: X a written dict of the module -/
  | gin (neg : Bool) (a : E) (x : Str) (kvs : List (Str × Int))
  | gix (x : Str) (kvs : List (Str × Int)) (a : E)
  /-- a is True, a is not False .. -/
  | isB (neg : Bool) (a : E) (b : Bool)
  /-- a.split(b): a new list of texts -/
  | splt (o : Bool) (a b : E)
  /-- min(a, b, c, d) -/
  | minN (es : Es)
  /-- list(d), whole numbers as keys; d == {} -/
  | lsd (o : Bool) (a : E)
  | emp (a : E)
  /-- o.f of an instance of the c-th class; C(..), made by the k-th def; o.m(..), the k-th def (w: the list is the caller's own) -/
  | fldI (c : Nat) (a : E) (f : Str)
  | new (c k : Nat) (es : Es)
  | meth (w : Bool) (c : Nat) (m : Str) (k : Nat) (a : E) (es : Es)
inductive Es where
  | nil | cons (e : E) (es : Es)
inductive Eo where
  | none | some (e : E)
inductive Tg where
  | name (i : Nat) | names (is : List Nat)
inductive It where
  | seq (e : E)
  | range1 (e : E)
  | range2 (a b : E)
  | enum (e : E)
  | zip (a b : E)
  | rev (e : E)
  | seqr (e : E)
  /-- the keys of a dict that is not looked at again -/
  | keys (e : E)
end
/-- statements -/
inductive Hk where
  | kind (k : Nat)
  | great (k : Nat) (w : Str)
  | great0 (k : Nat) (w : Str)
  | no (k : Nat) (w : Str)
mutual
inductive S where
  | set (i : Nat) (e : E)
  | setT (is : List Nat) (e : E)
  | setP (is : List Nat) (es : Es)
  | aug (i : Nat) (e : E)
  | seti (a i v : E)
  | app (a v : E)
  | ext (a v : E)
  | ex (e : E)
  | ite (c : E) (a b : Ss)
  | for (t : Tg) (it : It) (b : Ss)
  | whl (c : E) (b : Ss)
  | ret (e : E)
  | retN
  | rais (c : Nat) (es : Es)
  | pass
  | stuck
  | ins (a i v : E)
  /-- d[k] = v, a dict -/
  | dset (d k v : E)
  /-- o.f = v, an instance of the c-th class -/
  | setf (c : Nat) (a : E) (f : Str) (v : E)
  /-- try: b except the first of n classes as the i-th name: hs -/
  | tryk (n : Nat) (b : Ss) (i : Nat) (hs : Ss)
inductive Ss where
  | nil | cons (s : S) (r : Ss) | frz (i : Nat) (r : Ss)
end

/-! ### data -/
mutual
def toPy : D → PyData
  | .non => .none
  | .bl b => .bool b
  | .int i => .int i
  | .str s => .str s
  | .tup xs => .tuple (toPys xs)
  | .lst xs => .list (toPys xs)
  | .kst xs => .list (toPys xs)
  | .dct => .dict []
  | .fn _ => .none
  | .xc _ _ => .none
def toPys : List D → List PyData
  | [] => []
  | x :: r => toPy x :: toPys r
end
mutual
/-- none, truths, whole numbers, texts, tuples and lists of these -/
def plain : D → Bool
  | .tup xs => plains xs
  | .lst xs => plains xs
  | .kst xs => plains xs
  | .dct => false
  | .fn _ => false
  | .xc _ _ => false
  | _ => true
def plains : List D → Bool
  | [] => true
  | x :: r => plain x && plains r
end
def flat : D → Bool
  | .non | .bl _ | .int _ | .str _ => true
  | _ => false
def eqD (x y : D) : Bool := PyData.eqv (toPy x) (toPy y)
/-- x == y: where one of them is not deep -/
def eqO (x y : D) : Option Bool :=
  if plain x && plain y && (decide ((toPy x).depth ≤ 150) || decide ((toPy y).depth ≤ 150)) then some (eqD x y) else none
def inO (x : D) (ys : List D) : Option Bool :=
  if plain x && plains ys && (decide ((toPy x).depth ≤ 150) || decide (PyData.depthAll (toPys ys) ≤ 150)) then some (ys.any fun y => eqD y x) else none
def isiD : D → Ty → Option Bool
  | .non, _ => some false
  | .bl _, t => some (t == .int || t == .bool)
  | .int _, t => some (t == .int)
  | .str _, t => some (t == .str)
  | .tup _, t => some (t == .tuple)
  | .lst _, t => some (t == .list)
  | .kst _, t => some (t == .list)
  | .dct, t => some (t == .dict)
  | .fn _, _ => none
  | .xc _ _, _ => none
def small64 (i : Int) : Bool := decide (-(2 ^ 64) < i) && decide (i < 2 ^ 64)
/-- a text, k times -/
def repS (s : Str) (k : Nat) : Str := ⟨(List.replicate k s.cps).foldl (· ++ ·) #[]⟩
def opD : Bop → D → D → Option D
  | .add, .int i, .int j => some (.int (i + j))
  | .add, .tup xs, .tup ys => if xs.length + ys.length ≤ sizeLine then some (.tup (xs ++ ys)) else none
  | .add, .lst xs, .lst ys => if xs.length + ys.length ≤ sizeLine then some (.lst (xs ++ ys)) else none
  | .add, .str a, .str b => if (PySem.PyData.strOk (a ++ b) && decide ((a ++ b).length ≤ sizeLine)) = true then some (.str (a ++ b)) else none
  | .sub, .int i, .int j => some (.int (i - j))
  | .mul, .int i, .int j => if small64 i || small64 j then some (.int (i * j)) else none
  | .mul, .lst xs, .int k => if 0 ≤ k ∧ k ≤ 1000 ∧ xs.length ≤ 1000 then some (.lst (List.replicate k.toNat xs).flatten) else none
  | .mul, .tup xs, .int k => if -1000 ≤ k ∧ k ≤ 1000 ∧ xs.length ≤ 1000 then some (.tup (List.replicate k.toNat xs).flatten) else none
  | .mul, .str s, .int k => if (decide (2 ≤ k ∧ k ≤ 1000 ∧ 1 ≤ s.length ∧ s.length ≤ 1000 ∧ (repS s k.toNat).length ≤ sizeLine) && PySem.PyData.strOk (repS s k.toNat)) = true then some (.str (repS s k.toNat)) else none
  | .fdiv, .int i, .int j => if 0 < j ∧ j.natAbs.log2 < 9000 then some (.int (i / j)) else none
  | .mod, .int i, .int j => if 0 < j then some (.int (i % j)) else none
  | .pow, .int i, .int j => if 0 ≤ j ∧ j ≤ 1000000 ∧ i.natAbs < 2 ^ 64 then some (.int (i ^ j.toNat)) else none
  | .shl, .int i, .int j => if 0 ≤ j ∧ j ≤ 1000000 ∧ i.natAbs < 2 ^ 64 then some (.int (i * 2 ^ j.toNat)) else none
  | .shr, .int i, .int j => if 0 ≤ j then some (.int (i / 2 ^ j.toNat)) else none
  | .band, .int i, .int j => some (.int (Builtin.bitAnd i j))
  | .bor, .int i, .int j => some (.int (Builtin.bitOr i j))
  | _, _, _ => none
/-- x < y, for data that are alike place by place -/
def ltX (x y : D) : Bool := PySem.W.dataLt (toPy x) (toPy y)
/-- tuples by their order -/
def ordO (f : D → D → Bool) (x y : D) : Option Bool := if PySem.W.alike (toPy x) (toPy y) && plain x && plain y && decide ((toPy x).depth ≤ 20) then some (f x y) else none
def cmpD : Cop → D → D → Option Bool
  | .eq, x, y => eqO x y
  | .ne, x, y => (eqO x y).map (!·)
  | .lt, .int i, .int j => some (decide (i < j))
  | .le, .int i, .int j => some (decide (i ≤ j))
  | .gt, .int i, .int j => some (decide (j < i))
  | .ge, .int i, .int j => some (decide (j ≤ i))
  | .lt, .tup xs, .tup ys => ordO ltX (.tup xs) (.tup ys)
  | .le, .tup xs, .tup ys => ordO (fun x y => !ltX y x) (.tup xs) (.tup ys)
  | .gt, .tup xs, .tup ys => ordO (fun x y => ltX y x) (.tup xs) (.tup ys)
  | .ge, .tup xs, .tup ys => ordO (fun x y => !ltX x y) (.tup xs) (.tup ys)
  | .isin, x, .lst ys => inO x ys
  | .isin, x, .kst ys => inO x ys
  | .isin, x, .tup ys => inO x ys
  | .notin, x, .lst ys => (inO x ys).map (!·)
  | .notin, x, .kst ys => (inO x ys).map (!·)
  | .notin, x, .tup ys => (inO x ys).map (!·)
  | _, _, _ => none
def dBls : List D → Option (List Bool)
  | [] => some []
  | .bl b :: r => (dBls r).map (b :: ·)
  | _ :: _ => none
def dInts : List D → Option (List Int)
  | [] => some []
  | .int i :: r => (dInts r).map (i :: ·)
  | _ :: _ => none
def maxI : List Int → Option D
  | [] => none
  | n :: r => some (.int (r.foldl max n))
def minI : List Int → Option D
  | [] => none
  | n :: r => some (.int (r.foldl min n))
def b1D : B1 → D → Option D
  | .len, .tup xs => some (.int xs.length)
  | .len, .lst xs => some (.int xs.length)
  | .len, .kst xs => some (.int xs.length)
  | .len, .str s => if s.length ≤ sizeLine then some (.int s.length) else none
  | .int, .int i => some (.int i)
  | .int, .bl b => some (.int (if b then 1 else 0))
  | .int, .str s => if s.length ≤ 640 then (PySem.intText? s).map .int else none
  | .all, .lst xs => (dBls xs).map fun bs => .bl (bs.all id)
  | .any, .lst xs => (dBls xs).map fun bs => .bl (bs.any id)
  | .sum, .lst xs => (dInts xs).map fun ns => .int ns.sum
  | .sum, .tup xs => (dInts xs).map fun ns => .int ns.sum
  | .max, .lst xs => (dInts xs).bind maxI
  | .max, .tup xs => (dInts xs).bind maxI
  | .min, .lst xs => (dInts xs).bind minI
  | .min, .tup xs => (dInts xs).bind minI
  | .tuple, .lst xs => some (.tup xs)
  | .tuple, .kst xs => some (.tup xs)
  | .tuple, .tup xs => some (.tup xs)
  | .list, .lst xs => some (.lst xs)
  | .list, .kst xs => some (.lst xs)
  | .list, .tup xs => some (.lst xs)
  | _, _ => none
def b2D : B2 → D → D → Option D
  | .min, .int i, .int j => some (.int (if j < i then j else i))
  | .max, .int i, .int j => some (.int (if j > i then j else i))
  | _, _, _ => none
/-- xs[i] -/
def txtD (s : Str) : Option D := if (PySem.PyData.strOk s && decide (s.length ≤ sizeLine)) = true then some (.str s) else none
def idxD : D → Int → Option D
  | .str s, i => if s.length ≤ sizeLine then (L2.atI s.cps.toList i).bind fun c => txtD ⟨#[c]⟩ else none
  | .tup xs, i => L2.atI xs i
  | .lst xs, i => L2.atI xs i
  | .kst xs, i => L2.atI xs i
  | _, _ => none
def cut {α : Type} (xs : List α) (lo hi : Option Int) : List α := (xs.drop (HT.sIx xs.length 0 lo)).take (HT.sIx xs.length xs.length hi - HT.sIx xs.length 0 lo)
def slD : D → Option Int → Option Int → Option D
  | .str s, lo, hi => if s.length ≤ sizeLine then txtD (L2.cutS s lo hi) else none
  | .tup xs, lo, hi => some (.tup (cut xs lo hi))
  | .lst xs, lo, hi => some (.lst (cut xs lo hi))
  | .kst xs, lo, hi => some (.lst (cut xs lo hi))
  | _, _, _ => none
def revS (s : Str) : Str := ⟨s.cps.toList.reverse.toArray⟩
def revD : D → Option D
  | .str s => if s.length ≤ sizeLine then txtD (revS s) else none
  | .tup xs => some (.tup xs.reverse)
  | .lst xs => some (.lst xs.reverse)
  | .kst xs => some (.lst xs.reverse)
  | _ => none

def flatD (x : D) : Bool := plain x && decide ((toPy x).depth ≤ 20)
/-- tuples that are not empty -/
def tupN : D → Bool
  | .tup (_ :: _) => true
  | _ => false
def notTN : D → Bool
  | .int _ | .str _ | .lst _ | .bl _ => true
  | _ => false
/-- can be put in order -/
def sorOk (xs : List D) : Bool := (xs.all fun x => xs.all fun y => PySem.W.alike (toPy x) (toPy y)) && xs.all flatD && (xs.all tupN || xs.all notTN) && decide (xs.length ≤ 100000)
def sortD (xs : List D) : List D := xs.mergeSort fun a b => !ltX b a
/-- x == y, data laid flat -/
def sameD (x : D) (ys : List D) : Bool := flatD x && ys.all flatD
mutual
/-- whole numbers, tuples of such -/
def numD : D → Bool
  | .int _ => true
  | .tup xs => numsD xs
  | _ => false
def numsD : List D → Bool
  | [] => true
  | x :: r => numD x && numsD r
end
/-- without what equals an earlier one -/
def nubD : List D → List D
  | [] => []
  | x :: r => x :: (nubD r).filter fun y => !eqD y x
def catD : List D → Option (List D)
  | [] => some []
  | .lst xs :: r => (catD r).map (xs ++ ·)
  | _ => none
/-- numbers alone, few enough -/
def isIntD : D → Bool
  | .int _ => true
  | _ => false
def setOk (xs : List D) : Bool := sorOk xs && xs.all numD && ((xs.all tupN && decide (xs.length ≤ 4) && xs.all fun x => decide ((toPy x).depth ≤ 8)) || (xs.all isIntD && decide (xs.length < 60)))
/-- texts alone -/
def strsD : List D → Option (List Str)
  | [] => some []
  | .str s :: r => (strsD r).map (s :: ·)
  | _ :: _ => none
def okTxt (s : Str) : Bool := PySem.PyData.strOk s && decide (s.length ≤ sizeLine)
def joinD (s : Str) : D → Option D
  | .lst xs => (strsD xs).bind fun ys => if (decide ((ys.map (·.length)).sum + ys.length * s.length ≤ 1000000) && okTxt (Txt.join s ys)) = true then some (.str (Txt.join s ys)) else none
  | _ => none
def reprOk (d : D) : Bool := plain d && (toPy d).showable && decide ((toPy d).depth ≤ 60) && okTxt (toPy d).shown
def isDct : D → Bool
  | .dct => true
  | _ => false
def reprD (d : D) : Option D := if isDct d = true then some (.str "{}") else if reprOk d = true then some (.str (toPy d).shown) else none
def strID : D → Option D
  | .int i => if (decide (i.natAbs < 1000) && okTxt (toString i)) = true then some (.str (toString i)) else none
  | _ => none
def revtD : D → Option D
  | .tup xs => some (.tup xs.reverse)
  | _ => none
/-- pairs, triples of whole numbers -/
def isTupI : D → Bool
  | .tup xs => !xs.isEmpty && xs.all isIntD
  | _ => false
def lensD : D → Option D
  | .lst xs => if (xs.all isTupI && decide (xs.length < 60)) = true then some (.int ((nubD xs).length : Nat)) else none
  | .tup xs => if (xs.all isIntD && decide (xs.length < 60)) = true then some (.int ((nubD xs).length : Nat)) else none
  | _ => none
def sortsetD (xs : List D) : Option (List D) := if setOk xs then some (sortD (nubD xs)) else none
/-- two numbers from 0 to 63 -/
def pair64 : D → Bool
  | .tup [.int a, .int b] => decide (0 ≤ a ∧ a < 64 ∧ 0 ≤ b ∧ b < 64)
  | _ => false
def l1D : L1 → D → Option (List D)
  | .sortpairs, .tup xs => if (xs.all pair64 && decide (xs.length < 60)) = true then some (sortD (nubD xs)) else none
  | .sorted, .lst xs => if sorOk xs then some (sortD xs) else none
  | .sortset, .lst xs => if xs.all tupN then sortsetD xs else none
  | .sortset, .tup xs => sortsetD xs
  | .sumcat, .lst xs => (catD xs).bind fun ys => if ys.length ≤ 100000 then some ys else none
  | .range, .int n => if -(2 ^ 62) ≤ n ∧ n ≤ 100000 then some ((List.range n.toNat).map fun i => .int (i : Nat)) else none
  | _, _ => none
def m1L : M1 → List D → D → Option D
  | .count, xs, d => if sameD d xs then some (.int ((xs.countP fun y => eqD y d : Nat) : Int)) else none
  | .index, xs, d => if sameD d xs then (xs.findIdx? fun y => eqD y d).map fun j => .int (j : Nat) else none
  | _, _, _ => none
def m1D : M1 → D → D → Option D
  | f, .lst xs, d => m1L f xs d
  | _, _, _ => none

/-- s.split(t) -/
def spltD (s t : Str) : Option (List D) :=
  if ((t.length == 0) = false ∧ s.length + 2 ≤ sizeLine) ∧ (Txt.split s t).all okTxt = true then some ((Txt.split s t).map .str) else none
/-! ### dicts -/
def dKey : D → Option L2.Key
  | .int i => some (.inl i)
  | .str s => some (.inr s)
  | _ => none
def kD : L2.Key → D
  | .inl i => .int i
  | .inr s => .str s
def valD (kvs : List (L2.Key × D)) (k : L2.Key) : Option D := (kvs.find? fun kv => decide (kv.1 = k)).map (·.2)
def putD (kvs : List (L2.Key × D)) (k : L2.Key) (v : D) : List (L2.Key × D) :=
  if (kvs.any fun kv => decide (kv.1 = k)) = true then kvs.map (fun kv => if kv.1 = k then (kv.1, v) else kv) else kvs ++ [(k, v)]
def mergeD (kvs more : List (L2.Key × D)) : List (L2.Key × D) := more.foldl (fun acc kv => putD acc kv.1 kv.2) kvs
def keysI : List (L2.Key × D) → Option (List Int)
  | [] => some []
  | (.inl i, _) :: r => (keysI r).map (i :: ·)
  | _ :: _ => none
def sortI (ns : List Int) : List Int := ns.mergeSort fun x y => decide (x ≤ y)
def getS (kvs : List (Str × Int)) (s : Str) : Option Int := (kvs.find? fun kv => decide (kv.1 = s)).map (·.2)
/-! ### cells -/
/-- a value as data, read now -/
def dr (st : Store) : Vl → Option D
  | .d x => some x
  | .r n => match st[n]? with
    | some (.lst xs) => some (.lst xs)
    | _ => none
/-- a list -/
def m1Q (st : Store) (v : Vl) : Bool := match dr st v with
  | some (.lst _) => true
  | _ => false
def isiV (st : Store) (v : Vl) (t : Ty) : Option Bool := (dr st v).bind fun x => isiD x t
def rD (st : Store) : Option D → Res Vl
  | some x => .ok (.d x) st
  | none => .bad
@[simp] theorem rD_some (st : Store) (x : D) : rD st (some x) = .ok (.d x) st := rfl
@[simp] theorem rD_none (st : Store) : rD st none = .bad := rfl
def rB (st : Store) : Option Bool → Res Vl
  | some b => .ok (.d (.bl b)) st
  | none => .bad
@[simp] theorem rB_some (st : Store) (b : Bool) : rB st (some b) = .ok (.d (.bl b)) st := rfl
@[simp] theorem rB_none (st : Store) : rB st none = .bad := rfl
/-- a truth -/
def tr : Vl → Option Bool
  | .d (.bl b) => some b
  | _ => none
def Res.test {α : Type} (r : Res Vl) (f : Bool → Store → Res α) : Res α := r.bind fun v st => match tr v with
  | some b => f b st
  | none => .bad
@[simp] theorem Res.test_ok {α : Type} (b : Bool) (st : Store) (f : Bool → Store → Res α) : (Res.ok (.d (.bl b)) st).test f = f b st := rfl
/-- two data -/
def two {α : Type} (st : Store) (x y : Vl) (f : D → D → Res α) : Res α := match dr st x, dr st y with
  | some a, some b => f a b
  | _, _ => .bad
def one {α : Type} (st : Store) (x : Vl) (f : D → Res α) : Res α := match dr st x with
  | some a => f a
  | none => .bad
/-- an instance of the c-th class that has no field m -/
def isIns (c : Nat) (m : Str) (st : Store) : Vl → Bool
  | .r n => match st[n]? with
    | some (.ins c' fs) => c' == c && (fs.lookup m).isNone
    | _ => false
  | _ => false
/-- a field is written -/
def setF (f : Str) (v : Vl) : List (Str × Vl) → List (Str × Vl)
  | [] => [(f, v)]
  | p :: r => if p.1 = f then (p.1, v) :: r else p :: setF f v r
def isDic (st : Store) : Vl → Bool
  | .r n => match st[n]? with
    | some (.dic _) => true
    | _ => false
  | .d _ => false
def isLst (st : Store) : Vl → Bool
  | .r n => match st[n]? with
    | some (.lst _) => true
    | some (.lsr _) => true
    | _ => false
  | .d _ => false
def asInt : D → Option Int
  | .int i => some i
  | _ => none
def Vl.below (n : Nat) : Vl → Bool
  | .d _ => true
  | .r k => decide (k < n)
/-- all cells that it speaks of are among the first n -/
def Cell.below (n : Nat) : Cell → Bool
  | .lsr ns => ns.all fun k => decide (k < n)
  | .ins _ fs => fs.all fun p => p.2.below n
  | _ => true
/-- the caller's cells are as they were, or speak of the caller's alone -/
def FinOk (st0 st : Store) : Prop := ∀ (i : Nat), i < st0.length → st[i]? = st0[i]? ∨ ∃ c, st[i]? = some c ∧ c.below st0.length = true
open Classical in
/-- what a call leaves: the callee's cells go -/
noncomputable def fin (st0 : Store) : Res Vl → Res Vl
  | .ok v st => if FinOk st0 st then (match v with
    | .d x => .ok (.d x) (st.take st0.length)
    | .r k => if k < st0.length then .ok (.r k) (st.take st0.length) else match st[k]? with
      | some (.lst xs) => .ok (.d (.lst xs)) (st.take st0.length)
      | _ => .bad) else .bad
  | .exc c fs st => if FinOk st0 st then .exc c fs (st.take st0.length) else .bad
  | .bad => .bad
open Classical in
/-- .. the list that it hands back is the caller's own -/
noncomputable def fino (st0 : Store) : Res Vl → Res Vl
  | .ok (.r k) st => if FinOk st0 st ∧ ¬ k < st0.length then (match st[k]? with
    | some (.lst xs) => .ok (.r st0.length) (st.take st0.length ++ [.lst xs])
    | some (.dic kvs) => .ok (.r st0.length) (st.take st0.length ++ [.dic kvs])
    | _ => .bad) else .bad
  | .exc c fs st => if FinOk st0 st then .exc c fs (st.take st0.length) else .bad
  | .ok (.d .non) st => if FinOk st0 st then .ok (.d .non) (st.take st0.length) else .bad
  | _ => .bad
abbrev Oracle := Nat → List Vl → Store → Res Vl

def wipe (ρ : Env) : List Nat → Env
  | [] => ρ
  | v :: vs => (wipe ρ vs).set v none
/-- the target's names are stored -/
def putN : List Nat → List Vl → Env → Option Env
  | [], [], ρ => some ρ
  | i :: is, x :: xs, ρ => putN is xs (ρ.set i (some x))
  | _, _, _ => none
def put : Tg → Vl → Env → Option Env
  | .name i, v, ρ => some (ρ.set i (some v))
  | .names is, .d (.tup xs), ρ => putN is (xs.map .d) ρ
  | .names _, _, _ => none
def vls (xs : List D) : List Vl := xs.map .d
def zipD : List D → List D → List D
  | x :: xs, y :: ys => .tup [x, y] :: zipD xs ys
  | _, _ => []
def enumD : Nat → List D → List D
  | _, [] => []
  | k, x :: xs => .tup [.int k, x] :: enumD (k + 1) xs
def rangeD (lo : Int) (n : Nat) : List D := (List.range n).map fun i => .int (lo + (i : Nat))
def items : D → Option (List D)
  | .tup xs => some xs
  | .lst xs => some xs
  | .kst xs => some xs
  | _ => none
/-- a text's signs -/
def charsD (s : Str) : List D := s.cps.toList.map fun c => D.str ⟨#[c]⟩
def chOk (s : Str) : Bool := decide (s.length ≤ sizeLine) && s.cps.toList.all fun c => PySem.PyData.strOk ⟨#[c]⟩
def itemsS : D → Option (List D)
  | .str s => if chOk s = true then some (charsD s) else none
  | d => items d
def lstOf : D → Option (List D)
  | .lst xs => some xs
  | .kst xs => some xs
  | _ => none
/-- zip(x, y) -/
def pairs : D → D → Option (List D)
  | .tup xs, .tup ys => some (zipD xs ys)
  | x, y => match lstOf x, lstOf y with
    | some xs, some ys => some (zipD xs ys)
    | _, _ => none
/-- a comprehension's turns -/
def compL (f : Env → Store → Res (Option D)) (t : Tg) (ρ : Env) : List Vl → Store → Res (List D)
  | [], st => .ok [] st
  | x :: r, st => match put t x ρ with
    | none => .bad
    | some ρ' => (f ρ' st).bind fun y st1 => (compL f t ρ r st1).bind fun ys st2 => .ok (match y with | some y => y :: ys | none => ys) st2
/-- one turn: the test, the element -/
def cF (ec : Env → Store → Res Bool) (ee : Env → Store → Res Vl) (ρ : Env) (st : Store) : Res (Option D) :=
  (ec ρ st).bind fun b st2 => if b then (ee ρ st2).bind fun v st3 => (match v with
    | .d y => .ok (some y) st3
    | .r _ => .bad) else .ok none st2
def r62 (i : Int) : Bool := decide (-(2 ^ 62) ≤ i) && decide (i < 2 ^ 62)

/-- .. with its own list as each element -/
def comprL (f : Env → Store → Res Vl) (t : Tg) (ρ : Env) : List Vl → Store → Res (List Nat)
  | [], st => .ok [] st
  | x :: r, st => match put t x ρ with
    | none => .bad
    | some ρ' => (f ρ' st).bind fun y st1 => match y with
      | .r n => (comprL f t ρ r st1).bind fun ys st2 => .ok (n :: ys) st2
      | .d _ => .bad
def isNon : Vl → Bool
  | .d .non => true
  | _ => false
/-- a new list: the caller's own, or data -/
def mk (o : Bool) (xs : List D) (st : Store) : Res Vl := match o with
  | true => .ok (.r st.length) (st ++ [.lst xs])
  | false => .ok (.d (.lst xs)) st
/-- a value as data: a cell's list -/
def asD (st : Store) : Vl → Option D
  | .d x => some x
  | .r n => match st[n]? with
    | some (.lst xs) => some (.lst xs)
    | _ => none
def asDs (st : Store) : List Vl → Option (List D)
  | [] => some []
  | v :: r => match asD st v, asDs st r with
    | some x, some xs => some (x :: xs)
    | _, _ => none
/-- a new instance of the c-th class, made by the k-th def -/
noncomputable def newR (C : Oracle) (c k : Nat) (vs : List Vl) (st : Store) : Res Vl := match C k (.r st.length :: vs) (st ++ [.ins c []]) with
  | .ok (.d .non) st2 => .ok (.r st.length) st2
  | .exc d fs st2 => fin st (.exc d fs st2)
  | _ => .bad
/-- a call in which no cell is seen: those handed over are data; what comes back is flat -/
noncomputable def callZ (C : Oracle) (k : Nat) (vs : List Vl) (st : Store) : Res Vl := match asDs st vs with
  | none => .bad
  | some ds => match fin [] (C k (ds.map .d) []) with
    | .ok (.d x) _ => if flat x || numD x then .ok (.d x) st else .bad
    | _ => .bad
open Classical in
/-- a def that is there -/
noncomputable def known (C : Oracle) (k : Nat) (r : Res Vl) : Res Vl := if ∃ vs st, C k vs st ≠ .bad then r else .bad
mutual
noncomputable def evE (C : Oracle) : E → Env → Store → Res Vl
  | .var i, ρ, st => match ρ[i]? with
    | some (some v) => .ok v st
    | _ => .bad
  | .con x, _, st => .ok (.d x) st
  | .glb _ v, _, st => .ok (.d v) st
  | .op o a b, ρ, st => (evE C a ρ st).bind fun x st1 => (evE C b ρ st1).bind fun y st2 => two st2 x y fun d e => rD st2 (opD o d e)
  | .cmp o a b, ρ, st => (evE C a ρ st).bind fun x st1 => (evE C b ρ st1).bind fun y st2 => two st2 x y fun d e => rB st2 (cmpD o d e)
  | .cmp2 o p a b c, ρ, st => (evE C a ρ st).bind fun x st1 => (evE C b ρ st1).bind fun y st2 => two st2 x y fun d e => match cmpD o d e with
    | some true => (evE C c ρ st2).bind fun z st3 => two st3 y z fun d e => rB st3 (cmpD p d e)
    | some false => .ok (.d (.bl false)) st2
    | none => .bad
  | .isN a, ρ, st => (evE C a ρ st).bind fun x st1 => .ok (.d (.bl (isNon x))) st1
  | .notN a, ρ, st => (evE C a ρ st).bind fun x st1 => .ok (.d (.bl (!isNon x))) st1
  | .neg a, ρ, st => (evE C a ρ st).bind fun x st1 => match x with
    | .d (.int i) => .ok (.d (.int (-i))) st1
    | _ => .bad
  | .not a, ρ, st => (evE C a ρ st).test fun b st1 => .ok (.d (.bl (!b))) st1
  | .and a b, ρ, st => (evE C a ρ st).test fun t st1 => if t then evE C b ρ st1 else .ok (.d (.bl false)) st1
  | .or a b, ρ, st => (evE C a ρ st).test fun t st1 => if t then .ok (.d (.bl true)) st1 else evE C b ρ st1
  | .ite c a b, ρ, st => (evE C c ρ st).test fun t st1 => if t then evE C a ρ st1 else evE C b ρ st1
  | .tup es, ρ, st => (evDs C es ρ st).bind fun xs st1 => if xs.length ≤ sizeLine then .ok (.d (.tup xs)) st1 else .bad
  | .lst o es, ρ, st => (evDs C es ρ st).bind fun xs st1 => if xs.length ≤ sizeLine then mk o xs st1 else .bad
  | .idx a i, ρ, st => (evE C a ρ st).bind fun x st1 => (evE C i ρ st1).bind fun y st2 => two st2 x y fun d e => match e with
    | .int k => rD st2 (idxD d k)
    | _ => .bad
  | .sl a lo hi, ρ, st => (evE C a ρ st).bind fun x st1 => (evO C lo ρ st1).bind fun l st2 => (evO C hi ρ st2).bind fun h st3 => one st3 x fun d => rD st3 (slD d l h)
  | .rev a, ρ, st => (evE C a ρ st).bind fun x st1 => one st1 x fun d => rD st1 (revD d)
  | .b1 f a, ρ, st => (evE C a ρ st).bind fun x st1 => one st1 x fun d => rD st1 (b1D f d)
  | .cpy a, ρ, st => (evE C a ρ st).bind fun x st1 => one st1 x fun d => match items d with
    | some xs => mk true xs st1
    | none => .bad
  | .b2 f a b, ρ, st => (evE C a ρ st).bind fun x st1 => (evE C b ρ st1).bind fun y st2 => two st2 x y fun d e => rD st2 (b2D f d e)
  | .isi a t, ρ, st => (evE C a ρ st).bind fun x st1 => rB st1 (isiV st1 x t)
  | .call k es, ρ, st => (evEs C es ρ st).bind fun vs st1 => fin st1 (C k vs st1)
  | .callo k es, ρ, st => (evEs C es ρ st).bind fun vs st1 => fino st1 (C k vs st1)
  | .pick _ _ _, _, _ => .bad
  | .dct0, _, st => .ok (.d .dct) st
  | .frz a, ρ, st => (evE C a ρ st).bind fun x st1 => match x with
    | .d d => .ok (.d d) st1
    | .r n => match st1[n]? with
      | some (.lst xs) => .ok (.d (.lst xs)) (st1.set n .dead)
      | _ => .bad
  | .comp o e t it c own, ρ, st => (evI C it ρ st).bind fun xs st1 =>
      ((compL (cF (fun ρ' st' => evC C c ρ' st') (fun ρ' st' => evE C e ρ' st')) t (wipe ρ own) xs st1).quiet).bind fun ys st4 => if xs.length ≤ sizeLine then mk o ys st4 else .bad
  | .stuck, _, _ => .bad
  | .fnv k, _, st => .ok (.d (.fn k)) st
  | .calle f es, ρ, st => (evE C f ρ st).bind fun x st1 => match x with
    | .d (.fn k) => known C k ((evEs C es ρ st1).quiet.bind fun vs st2 => fin st2 (C k vs st2))
    | _ => .bad
  | .l1 o f a, ρ, st => (evE C a ρ st).bind fun x st1 => one st1 x fun d => match l1D f d with
    | some xs => mk o xs st1
    | none => .bad
  | .m1 f a b, ρ, st => (evE C a ρ st).bind fun x st1 => if m1Q st1 x = true then (evE C b ρ st1).bind fun y st2 => two st2 x y fun d e => rD st2 (m1D f d e) else .bad
  | .popi a i, ρ, st => (evE C a ρ st).bind fun o st1 => if !isLst st1 o then .bad else (evE C i ρ st1).bind fun k st2 => match o, k with
    | .r n, .d (.int k) => (match st2[n]? with
      | some (.lst xs) => if 0 ≤ k ∧ k < xs.length ∧ k < 2 ^ 62 then (match xs[k.toNat]? with
        | some y => .ok (.d y) (st2.set n (.lst (xs.eraseIdx k.toNat)))
        | none => .bad) else .bad
      | _ => .bad)
    | _, _ => .bad
  | .trange a, ρ, st => (evE C a ρ st).bind fun x st1 => match x with
    | .d (.int n) => if r62 n then (if n ≤ 100000 then .ok (.d (.tup (rangeD 0 n.toNat))) st1 else .bad) else .bad
    | _ => .bad
  | .trange2 a b, ρ, st => (evE C a ρ st).bind fun x st1 => (evE C b ρ st1).bind fun y st2 => match x, y with
    | .d (.int i), .d (.int j) => if r62 i && r62 j then (if j - i ≤ 100000 then .ok (.d (.tup (rangeD i (j - i).toNat))) st2 else .bad) else .bad
    | _, _ => .bad
  | .compr e t it own, ρ, st => (evI C it ρ st).bind fun xs st1 =>
      ((comprL (fun ρ' st' => evE C e ρ' st') t (wipe ρ own) xs st1).quiet).bind fun ns st4 => if xs.length ≤ sizeLine then .ok (.r st4.length) (st4 ++ [.lsr ns]) else .bad
  | .idxr a i, ρ, st => (evE C a ρ st).bind fun x st1 => (evE C i ρ st1).bind fun y st2 => match x, y with
    | .r n, .d (.int k) => (match st2[n]? with
      | some (.lsr ns) => if 0 ≤ k ∧ k < ns.length then (match ns[k.toNat]? with
        | some m => .ok (.r m) st2
        | none => .bad) else .bad
      | _ => .bad)
    | _, _ => .bad
  | .isx a y, ρ, st => (evE C a ρ st).bind fun x st1 => match x with
    | .d (.xc c _) => .ok (.d (.bl (c == y || y == 0))) st1
    | _ => .bad
  | .isv a, ρ, st => (evE C a ρ st).bind fun x st1 => match x with
    | .d (.xc _ _) => .ok (.d (.bl true)) st1
    | _ => .bad
  | .fld a b, ρ, st => (evE C a ρ st).bind fun x st1 => match x with
    | .d (.xc _ [i, j]) => .ok (.d (.int (if b then i else j))) st1
    | _ => .bad
  | .callz k es, ρ, st => (evEs C es ρ st).bind fun vs st1 => callZ C k vs st1
  | .opo a b, ρ, st => (evE C a ρ st).bind fun x st1 => (evE C b ρ st1).bind fun y st2 => two st2 x y fun d e => match d, e with
    | .lst xs, .lst ys => if xs.length + ys.length ≤ sizeLine then mk true (xs ++ ys) st2 else .bad
    | _, _ => .bad
  | .revt a, ρ, st => (evE C a ρ st).bind fun x st1 => one st1 x fun d => rD st1 (revtD d)
  | .lens a, ρ, st => (evE C a ρ st).bind fun x st1 => one st1 x fun d => rD st1 (lensD d)
  | .join o a, ρ, st => (evE C o ρ st).bind fun x st1 => match x with
    | .d (.str s) => (evE C a ρ st1).bind fun y st2 => one st2 y fun d => rD st2 (joinD s d)
    | _ => .bad
  | .strI a, ρ, st => (evE C a ρ st).bind fun x st1 => one st1 x fun d => rD st1 (strID d)
  | .rep a, ρ, st => (evE C a ρ st).bind fun x st1 => one st1 x fun d => rD st1 (reprD d)
  | .bits a, ρ, st => (evE C a ρ st).bind fun x st1 => match x with
    | .d (.int i) => .ok (.d (.int (Builtin.Int.intBits i : Nat))) st1
    | _ => .bad
  | .dnw ks es, ρ, st => ((evDs C es ρ st).quiet).bind fun xs st1 => if xs.length = ks.length ∧ ks.length ≤ 15 then .ok (.r st1.length) (st1 ++ [.dic (mergeD [] (ks.zip xs))]) else .bad
  | .sortd o a, ρ, st => (evE C a ρ st).bind fun x st1 => match x with
    | .r n => (match st1[n]? with
      | some (.dic kvs) => (match keysI kvs with
        | some ns => mk o ((sortI ns).map .int) st1
        | none => .bad)
      | _ => .bad)
    | _ => .bad
  | .dget d k x, ρ, st => (evE C d ρ st).bind fun o st1 => if !isDic st1 o then .bad else (evE C k ρ st1).bind fun k st2 => (evE C x ρ st2).bind fun x st3 => match o, k, x with
    | .r n, .d k, .d x => (match dKey k, st3[n]? with
      | some k, some (.dic kvs) => .ok (.d ((valD kvs k).getD x)) st3
      | _, _ => .bad)
    | _, _, _ => .bad
  | .dgetK kvs k x, ρ, st => (evE C k ρ st).bind fun k st2 => (evE C x ρ st2).bind fun x st3 => match k, x with
    | .d (.str s), .d x => .ok (.d (((getS kvs s).map .int).getD x)) st3
    | _, _ => .bad
  | .gin neg a _ kvs, ρ, st => (evE C a ρ st).bind fun x st1 => match x with
    | .d (.str s) => .ok (.d (.bl (neg != (getS kvs s).isSome))) st1
    | _ => .bad
  | .gix _ kvs a, ρ, st => (evE C a ρ st).bind fun x st1 => match x with
    | .d (.str s) => rD st1 ((getS kvs s).map .int)
    | _ => .bad
  | .minN es, ρ, st => (evEs C es ρ st).bind fun vs st1 => match vs with
    | [.d (.int a), .d (.int b), .d (.int c), .d (.int d)] => .ok (.d (.int (min (min (min a b) c) d))) st1
    | _ => .bad
  | .lsd o a, ρ, st => (evE C a ρ st).bind fun x st1 => match x with
    | .r n => (match st1[n]? with
      | some (.dic kvs) => (match keysI kvs with
        | some ns => mk o (ns.map .int) st1
        | none => .bad)
      | _ => .bad)
    | _ => .bad
  | .emp a, ρ, st => (evE C a ρ st).bind fun x st1 => match x with
    | .r n => (match st1[n]? with
      | some (.dic kvs) => .ok (.d (.bl kvs.isEmpty)) st1
      | _ => .bad)
    | _ => .bad
  | .splt o a b, ρ, st => (evE C a ρ st).bind fun x st1 => match x with
    | .d (.str s) => (evE C b ρ st1).bind fun y st2 => (match y with
      | .d (.str t) => (match spltD s t with
        | some xs => mk o xs st2
        | none => .bad)
      | _ => .bad)
    | _ => .bad
  | .fldI c a f, ρ, st => (evE C a ρ st).bind fun x st1 => match x with
    | .r n => (match st1[n]? with
      | some (.ins c' fs) => if c' = c then (match fs.lookup f with
        | some v => .ok v st1
        | none => .bad) else .bad
      | _ => .bad)
    | _ => .bad
  | .new c k es, ρ, st => (evEs C es ρ st).bind fun vs st1 => newR C c k vs st1
  | .meth w c m k a es, ρ, st => (evE C a ρ st).bind fun x st1 => if isIns c m st1 x = true then (evEs C es ρ st1).bind fun vs st2 => (if w then fino st2 (C k (x :: vs) st2) else fin st2 (C k (x :: vs) st2)) else .bad
  | .isB neg a b, ρ, st => (evE C a ρ st).bind fun x st1 => match x with
    | .d (.bl c) => .ok (.d (.bl (neg != decide (c = b)))) st1
    | _ => .bad
noncomputable def evEs (C : Oracle) : Es → Env → Store → Res (List Vl)
  | .nil, _, st => .ok [] st
  | .cons e es, ρ, st => (evE C e ρ st).bind fun v st1 => (evEs C es ρ st1).bind fun vs st2 => .ok (v :: vs) st2
/-- data alone -/
noncomputable def evDs (C : Oracle) : Es → Env → Store → Res (List D)
  | .nil, _, st => .ok [] st
  | .cons e es, ρ, st => (evE C e ρ st).bind fun v st1 => match v with
    | .d x => (evDs C es ρ st1).bind fun xs st2 => .ok (x :: xs) st2
    | .r _ => .bad
noncomputable def evO (C : Oracle) : Eo → Env → Store → Res (Option Int)
  | .none, _, st => .ok none st
  | .some e, ρ, st => (evE C e ρ st).bind fun v st1 => match v with
    | .d (.int i) => .ok (some i) st1
    | _ => .bad
noncomputable def evC (C : Oracle) : Eo → Env → Store → Res Bool
  | .none, _, st => .ok true st
  | .some e, ρ, st => (evE C e ρ st).test fun b st1 => .ok b st1
noncomputable def evI (C : Oracle) : It → Env → Store → Res (List Vl)
  | .seq e, ρ, st => (evE C e ρ st).bind fun v st1 => match v with
    | .d x => (match itemsS x with
      | some xs => .ok (vls xs) st1
      | none => .bad)
    | .r _ => .bad
  | .range1 e, ρ, st => (evE C e ρ st).bind fun v st1 => match v with
    | .d (.int n) => if r62 n then .ok (vls (rangeD 0 n.toNat)) st1 else .bad
    | _ => .bad
  | .range2 a b, ρ, st => (evE C a ρ st).bind fun x st1 => (evE C b ρ st1).bind fun y st2 => match x, y with
    | .d (.int i), .d (.int j) => if r62 i && r62 j then .ok (vls (rangeD i (j - i).toNat)) st2 else .bad
    | _, _ => .bad
  | .enum e, ρ, st => (evE C e ρ st).bind fun v st1 => match v with
    | .d x => (match items x with
      | some xs => .ok (vls (enumD 0 xs)) st1
      | none => .bad)
    | .r _ => .bad
  | .zip a b, ρ, st => (evE C a ρ st).bind fun x st1 => (evE C b ρ st1).bind fun y st2 => match x, y with
    | .d d, .d e => (match pairs d e with
      | some xs => .ok (vls xs) st2
      | none => .bad)
    | _, _ => .bad
  | .rev e, ρ, st => (evE C e ρ st).bind fun v st1 => match v with
    | .d x => (match items x with
      | some xs => .ok (vls xs.reverse) st1
      | none => .bad)
    | .r _ => .bad
  | .seqr e, ρ, st => (evE C e ρ st).bind fun v st1 => match v with
    | .r n => (match st1[n]? with
      | some (.lsr ns) => .ok (ns.map .r) (st1.set n .dead)
      | _ => .bad)
    | .d _ => .bad
  | .keys e, ρ, st => (evE C e ρ st).bind fun v st1 => match v with
    | .r n => (match st1[n]? with
      | some (.dic kvs) => (match keysI kvs with
        | some ns => .ok (vls (ns.map .int)) (st1.set n .dead)
        | none => .bad)
      | _ => .bad)
    | .d _ => .bad
end

/-! ### statements -/
inductive Fl where
  | next (ρ : Env)
  | ret (v : Vl)
def forL (f : Env → Store → Res Fl) (t : Tg) : List Vl → Env → Store → Res Fl
  | [], ρ, st => .ok (.next ρ) st
  | x :: r, ρ, st => match put t x ρ with
    | none => .bad
    | some ρ' => (f ρ' st).bind fun fl st1 => match fl with
      | .next ρ2 => forL f t r ρ2 st1
      | .ret v => .ok (.ret v) st1
def whlL (c : Env → Store → Res Bool) (f : Env → Store → Res Fl) : Nat → Env → Store → Res Fl
  | 0, _, _ => .bad
  | n + 1, ρ, st => (c ρ st).bind fun b st1 => if b then (f ρ st1).bind fun fl st2 => (match fl with
      | .next ρ2 => whlL c f n ρ2 st2
      | .ret v => .ok (.ret v) st2) else .ok (.next ρ) st1
def whlFuel : Nat := 1000000
mutual
/-- no exception in it -/
def noX : D → Bool
  | .xc _ _ => false
  | .tup xs => noXs xs
  | .lst xs => noXs xs
  | .kst xs => noXs xs
  | _ => true
def noXs : List D → Bool
  | [] => true
  | x :: r => noX x && noXs r
end
/-- the slots ahead of an except suite -/
def tryEnv (n i c : Nat) (fs : List Int) : Env := (List.replicate n none).set i (some (.d (.xc c fs)))
def setIx {α : Type} (xs : List α) (k : Int) (x : α) : Option (List α) := (L2.ixN xs.length k).map fun j => xs.set j x
def Es.isNil : Es → Bool
  | .nil => true
  | _ => false
/-- C(), C(many, most) -/
def raisR (c : Nat) : Es → List D → Store → Res Fl
  | .nil, [], st => .exc c [] st
  | .cons _ _, [.int i, .int j], st => .exc c [.int i, .int j] st
  | _, _, _ => .bad
mutual
noncomputable def evS (C : Oracle) : S → Env → Store → Res Fl
  | .set i e, ρ, st => (evE C e ρ st).bind fun v st1 => .ok (.next (ρ.set i (some v))) st1
  | .setT is e, ρ, st => (evE C e ρ st).bind fun v st1 => match put (.names is) v ρ with
    | some ρ' => .ok (.next ρ') st1
    | none => .bad
  | .setP is es, ρ, st => (evEs C es ρ st).bind fun vs st1 => if vs.length ≤ sizeLine then (match putN is vs ρ with
    | some ρ' => .ok (.next ρ') st1
    | none => .bad) else .bad
  | .aug i e, ρ, st => match ρ[i]? with
    | some (some (.d (.int x))) => (evE C e ρ st).bind fun v st1 => (match v with
      | .d (.int y) => .ok (.next (ρ.set i (some (.d (.int (x + y)))))) st1
      | _ => .bad)
    | _ => .bad
  | .seti a i v, ρ, st => (evE C v ρ st).bind fun x st1 => (evE C a ρ st1).bind fun o st2 => (evE C i ρ st2).bind fun k st3 => match x, o, k with
    | .d x, .r n, .d (.int k) => (match st3[n]? with
      | some (.lst xs) => (match setIx xs k x with
        | some ys => .ok (.next ρ) (st3.set n (.lst ys))
        | none => .bad)
      | _ => .bad)
    | _, _, _ => .bad
  | .app a v, ρ, st => (evE C a ρ st).bind fun o st1 => if !isLst st1 o then .bad else (evE C v ρ st1).bind fun x st2 => match o, x with
    | .r n, .d x => (match st2[n]? with
      | some (.lst xs) => if xs.length < sizeLine then .ok (.next ρ) (st2.set n (.lst (xs ++ [x]))) else .bad
      | _ => .bad)
    | _, _ => .bad
  | .ext a v, ρ, st => (evE C a ρ st).bind fun o st1 => if !isLst st1 o then .bad else (evE C v ρ st1).bind fun x st2 => match o, x with
    | .r n, .d (.lst ys) => (match st2[n]? with
      | some (.lst xs) => if xs.length + ys.length ≤ sizeLine then .ok (.next ρ) (st2.set n (.lst (xs ++ ys))) else .bad
      | _ => .bad)
    | _, _ => .bad
  | .ex e, ρ, st => (evE C e ρ st).bind fun _ st1 => .ok (.next ρ) st1
  | .ite c a b, ρ, st => (evE C c ρ st).test fun t st1 => if t then evSs C a ρ st1 else evSs C b ρ st1
  | .for t it b, ρ, st => (evI C it ρ st).bind fun xs st1 => forL (fun ρ' st' => evSs C b ρ' st') t xs ρ st1
  | .whl c b, ρ, st => whlL (fun ρ' st' => (evE C c ρ' st').test fun b s => .ok b s) (fun ρ' st' => evSs C b ρ' st') whlFuel ρ st
  | .ret e, ρ, st => (evE C e ρ st).bind fun v st1 => .ok (.ret v) st1
  | .retN, _, st => .ok (.ret (.d .non)) st
  | .rais c es, ρ, st => (evDs C es ρ st).bind fun xs st1 => raisR c es xs st1
  | .pass, ρ, st => .ok (.next ρ) st
  | .stuck, _, _ => .bad
  | .ins a i v, ρ, st => (evE C a ρ st).bind fun o st1 => if !isLst st1 o then .bad else (evE C i ρ st1).bind fun k st2 => (evE C v ρ st2).bind fun x st3 => match o, k, x with
    | .r n, .d (.int k), .d x => (match st3[n]? with
      | some (.lst xs) => if xs.length < sizeLine ∧ 0 ≤ k ∧ k ≤ xs.length ∧ k < 2 ^ 62 then .ok (.next ρ) (st3.set n (.lst (xs.take k.toNat ++ x :: xs.drop k.toNat))) else .bad
      | _ => .bad)
    | _, _, _ => .bad
  | .dset d k v, ρ, st => (evE C v ρ st).bind fun x st1 => (evE C d ρ st1).bind fun o st2 => (evE C k ρ st2).bind fun k st3 => match x, o, k with
    | .d x, .r n, .d k => (match dKey k, st3[n]? with
      | some k, some (.dic kvs) => if kvs.length < sizeLine then .ok (.next ρ) (st3.set n (.dic (putD kvs k x))) else .bad
      | _, _ => .bad)
    | _, _, _ => .bad
  | .setf c a f v, ρ, st => (evE C v ρ st).bind fun y st1 => (evE C a ρ st1).bind fun x st2 => match x with
    | .r n => (match st2[n]? with
      | some (.ins c' fs) => if c' = c ∧ fs.length < 900 then .ok (.next ρ) (st2.set n (.ins c' (setF f y fs))) else .bad
      | _ => .bad)
    | _ => .bad
  | .tryk n b i hs, ρ, st => match evSs C b ρ st with
    | .exc c fs st1 => if c < n then (match dInts fs with
      | some is => (match evSs C hs (tryEnv ρ.length i c is) [] with
        | .ok (.ret (.d y)) _ => if noX y then .ok (.ret (.d y)) st1 else .bad
        | _ => .bad)
      | none => .bad) else .bad
    | .ok a st1 => .ok a st1
    | .bad => .bad
noncomputable def evSs (C : Oracle) : Ss → Env → Store → Res Fl
  | .nil, ρ, st => .ok (.next ρ) st
  | .cons s r, ρ, st => (evS C s ρ st).bind fun fl st1 => match fl with
    | .next ρ2 => evSs C r ρ2 st1
    | .ret v => .ok (.ret v) st1
  | .frz i r, ρ, st => match ρ[i]? with
    | some (some (.r n)) => (match st[n]? with
      | some (.lst xs) => evSs C r (ρ.set i (some (.d (.lst xs)))) (st.set n .dead)
      | _ => evSs C r ρ st)
    | _ => evSs C r ρ st
end
/-- a function: how many parameters, how many names, its body -/
structure Fn where
  np : Nat
  nn : Nat
  body : Ss
def start (f : Fn) (vs : List Vl) : Env := vs.map some ++ List.replicate (f.nn - f.np) none
noncomputable def runF (C : Oracle) (f : Fn) (vs : List Vl) (st : Store) : Res Vl :=
  if vs.length = f.np then (evSs C f.body (start f vs) st).bind fun fl st1 => match fl with
    | .ret v => .ok v st1
    | .next _ => .ok (.d .non) st1
  else .bad
noncomputable def orc (T : List Fn) : Nat → Oracle
  | 0, _, _, _ => .bad
  | n + 1, k, vs, st => match T[k]? with
    | some f => runF (orc T n) f vs st
    | none => .bad
end Br

/-! Br2: how data, cells and slots stand to the layer's heap. -/
namespace Br
open PySem PySem.Spec PyProof.Rows L2

/-- the cells with their addresses; addresses held apart -/
structure Wd where
  g : List (Addr × Cell)
  ex : List Addr
def Wd.st (G : Wd) : Store := G.g.map (·.2)
theorem Wd.st_len (G : Wd) : G.st.length = G.g.length := List.length_map ..
/-- a live cell stands at a -/
def Lv (G : Wd) (a : Addr) : Prop := ∃ (n : Nat) (c : Cell), G.g[n]? = some (a, c) ∧ c.live = true
/-- a may change, or is held apart -/
def Mu (G : Wd) (a : Addr) : Prop := Lv G a ∨ a ∈ G.ex

/-- what a program's text gives: the written part, where its defs and classes stand -/
structure Tb where
  K : PySem.W.Frag
  fa : Nat → Addr
  ca : Nat → Addr
  /-- the exception that is handled: where, its class, its dict -/
  xa : Option Addr
  xc : Nat
  xd : Option Addr
  /-- the own classes that make plain instances -/
  oa : Nat → Addr

def LstAt (H : Hp) (G : Wd) (a : Addr) (us : List V) : Prop := H a = some (.lst us) ∧ ¬ Mu G a
def KstAt (K : PySem.W.Frag) (H : Hp) (G : Wd) (a : Addr) (us : List V) : Prop :=
  (Rd H a (.lst us) ∧ ¬ Mu G a) ∨
    ∃ (o : Obj) (its : Array Value) (n : Nat), K.lookup a = some o ∧ o.cls = .type "list" ∧ o.dict = none ∧ o.data = .seq its n ∧ its.size ≤ sizeLine ∧ Vals us its.toList
def TupAt (K : PySem.W.Frag) (H : Hp) (G : Wd) (a : Addr) (us : List V) : Prop :=
  (Rd H a (.tup us) ∧ ¬ Mu G a) ∨
    ∃ (o : Obj) (its : Array Value) (n : Nat), K.lookup a = some o ∧ o.cls = .type "tuple" ∧ o.data = .seq its n ∧ its.size ≤ sizeLine ∧ Vals us its.toList
theorem LstAt.sq {K : PySem.W.Frag} {H : Hp} {G : Wd} {a : Addr} {us : List V} (h : LstAt H G a us) : SqL K H a us := SqL.of h.1
theorem KstAt.sq {K : PySem.W.Frag} {H : Hp} {G : Wd} {a : Addr} {us : List V} (h : KstAt K H G a us) : SqL K H a us := h.imp And.left id
theorem TupAt.sq {K : PySem.W.Frag} {H : Hp} {G : Wd} {a : Addr} {us : List V} (h : TupAt K H G a us) : SqT K H a us := h.imp And.left id
def okStr (s : Str) : Bool := PySem.PyData.strOk s && decide (s.length ≤ sizeLine)
/-- the fields of the exception that is handled -/
def XFs (T : Tb) (H : Hp) (G : Wd) (fs : List Int) : Prop := (fs = [] ∧ T.xd = none) ∨ ∃ d i j, T.xd = some d ∧ fs = [i, j] ∧ H d = some (.xd [("most", .int j), ("many", .int i)]) ∧ ¬ Mu G d
mutual
/-- v is the datum -/
def Rep (T : Tb) (H : Hp) (G : Wd) : D → V → Prop
  | .non, v => v = .non
  | .bl b, v => v = .bl b
  | .int i, v => v = .int i
  | .str s, v => v = .str s ∧ okStr s = true
  | .tup ds, v => ∃ a us, v = .ref a ∧ TupAt T.K H G a us ∧ Reps T H G ds us
  | .lst ds, v => ∃ a us, v = .ref a ∧ LstAt H G a us ∧ Reps T H G ds us
  | .kst ds, v => ∃ a us, v = .ref a ∧ KstAt T.K H G a us ∧ Reps T H G ds us
  | .dct, v => ∃ a, v = .ref a ∧ Rd H a (.dK []) ∧ ¬ Mu G a
  | .fn k, v => v = .ref (T.fa k)
  | .xc c fs, v => ∃ a, v = .ref a ∧ T.xa = some a ∧ c = T.xc ∧ XFs T H G fs
def Reps (T : Tb) (H : Hp) (G : Wd) : List D → List V → Prop
  | [], us => us = []
  | d :: ds, us => ∃ v vs, us = v :: vs ∧ Rep T H G d v ∧ Reps T H G ds vs
end
def RepV (T : Tb) (H : Hp) (G : Wd) : Vl → V → Prop
  | .d x, v => Rep T H G x v
  | .r n, v => ∃ a c, v = .ref a ∧ G.g[n]? = some (a, c)
def RepVs (T : Tb) (H : Hp) (G : Wd) : List Vl → List V → Prop
  | [], us => us = []
  | d :: ds, us => ∃ v vs, us = v :: vs ∧ RepV T H G d v ∧ RepVs T H G ds vs

/-- the heap goes on: what may not change stands, no address is given back -/
structure Ext (H : Hp) (G : Wd) (H' : Hp) (G' : Wd) : Prop where
  keep : ∀ a o, H a = some o → ¬ Lv G a → H' a = some o
  there : ∀ a o, H a = some o → ∃ o', H' a = some o'
  addr : ∀ (n : Nat) a c, G.g[n]? = some (a, c) → ∃ c', G'.g[n]? = some (a, c')
  live : ∀ (n : Nat) a c c', G.g[n]? = some (a, c) → G'.g[n]? = some (a, c') → c'.live = true → c.live = true
  new : ∀ (n : Nat) a c, G'.g[n]? = some (a, c) → c.live = true → n < G.g.length ∨ H a = none
  ex : G'.ex = G.ex
theorem Ext.refl (H : Hp) (G : Wd) : Ext H G H G :=
  ⟨fun _ _ e _ => e, fun _ o e => ⟨o, e⟩, fun _ _ c e => ⟨c, e⟩, fun _ _ _ _ e e' h => by rw [e] at e'; cases e'; exact h, fun n _ _ e _ => .inl (List.getElem?_eq_some_iff.mp e).1, rfl⟩
theorem Ext.mu {H H' : Hp} {G G' : Wd} (x : Ext H G H' G') {a : Addr} (h : Mu G' a) : Mu G a ∨ H a = none := by
  rcases h with ⟨n, c, e, l⟩ | h
  · rcases x.new n a c e l with hn | hn
    · obtain ⟨⟨a0, c0⟩, e0⟩ : ∃ p, G.g[n]? = some p := ⟨_, List.getElem?_eq_getElem hn⟩
      obtain ⟨c', e'⟩ := x.addr n a0 c0 e0
      rw [e] at e'
      cases e'
      exact .inl (.inl ⟨n, c0, e0, x.live n a c0 c e0 e l⟩)
    · exact .inr hn
  · rw [x.ex] at h
    exact .inl (.inr h)
theorem Ext.trans {H H1 H2 : Hp} {G G1 G2 : Wd} (x : Ext H G H1 G1) (y : Ext H1 G1 H2 G2) : Ext H G H2 G2 where
  keep := fun a o e h => by
    refine y.keep a o (x.keep a o e h) fun ⟨n, c, e1, l⟩ => ?_
    rcases x.new n a c e1 l with hn | hn
    · obtain ⟨⟨a0, c0⟩, e0⟩ : ∃ p, G.g[n]? = some p := ⟨_, List.getElem?_eq_getElem hn⟩
      obtain ⟨c', e'⟩ := x.addr n a0 c0 e0
      rw [e1] at e'
      cases e'
      exact h ⟨n, c0, e0, x.live n a c0 c e0 e1 l⟩
    · rw [hn] at e; cases e
  there := fun a o e => by
    obtain ⟨o1, e1⟩ := x.there a o e
    exact y.there a o1 e1
  addr := fun n a c e => by
    obtain ⟨c1, e1⟩ := x.addr n a c e
    exact y.addr n a c1 e1
  live := fun n a c c' e e' l => by
    obtain ⟨c1, e1⟩ := x.addr n a c e
    exact x.live n a c c1 e e1 (y.live n a c1 c' e1 e' l)
  new := fun n a c e l => by
    rcases y.new n a c e l with h | h
    · obtain ⟨⟨a0, c0⟩, e0⟩ : ∃ p, G1.g[n]? = some p := ⟨_, List.getElem?_eq_getElem h⟩
      obtain ⟨c', e'⟩ := y.addr n a0 c0 e0
      rw [e] at e'
      cases e'
      exact x.new n a c0 e0 (y.live n a c0 c e0 e l)
    · refine .inr ?_
      cases q : H a with
      | none => rfl
      | some o =>
        obtain ⟨o1, e1⟩ := x.there a o q
        rw [h] at e1; cases e1
  ex := y.ex.trans x.ex

/-- what data ask to go on -/
structure Mon (H : Hp) (G : Wd) (H' : Hp) (G' : Wd) : Prop where
  keep : ∀ a o, H a = some o → ¬ Mu G a → H' a = some o
  mu : ∀ a, Mu G' a → Mu G a ∨ H a = none
/-- .. and cells -/
structure MonA (H : Hp) (G : Wd) (H' : Hp) (G' : Wd) : Prop extends Mon H G H' G' where
  addr : ∀ (n : Nat) a c, G.g[n]? = some (a, c) → ∃ c', G'.g[n]? = some (a, c')
theorem Ext.mon {H H' : Hp} {G G' : Wd} (x : Ext H G H' G') : MonA H G H' G' := ⟨⟨fun a o e h => x.keep a o e fun l => h (.inl l), fun _ h => x.mu h⟩, x.addr⟩
/-- what a cell says of the heap -/
def CellOk (T : Tb) (H : Hp) (G : Wd) (a : Addr) : Cell → Prop
  | .lst ds => ∃ us, H a = some (.lst us) ∧ Reps T H G ds us
  | .lsr ns => ∃ us, H a = some (.lst us) ∧ RepVs T H G (ns.map .r) us
  | .dic kvs => ∃ kus, H a = some (.dK kus) ∧ kus.map (·.1) = kvs.map (·.1) ∧ Reps T H G (kvs.map (·.2)) (kus.map (·.2))
  | .ins c fs => ∃ dx us, H a = some (.ins (T.oa c) dx us) ∧ us.map (·.1) = fs.map (·.1) ∧ RepVs T H G (fs.map (·.2)) (us.map (·.2))
  | .dead => True
structure Sim (T : Tb) (H : Hp) (G : Wd) : Prop where
  cell : ∀ (n : Nat) a c, G.g[n]? = some (a, c) → CellOk T H G a c
  inj : ∀ (n m : Nat) a c c', G.g[n]? = some (a, c) → G.g[m]? = some (a, c') → c.live = true → c'.live = true → n = m
  apart : ∀ a, a ∈ G.ex → ¬ Lv G a
  exs : ∀ a, a ∈ G.ex → ∃ o, H a = some o
  exn : G.ex.Nodup

section
variable {T : Tb} {H H' : Hp} {G G' : Wd}
theorem nomu (x : Mon H G H' G') {a : Addr} {o : HO} (e : H a = some o) (h : ¬ Mu G a) : ¬ Mu G' a := fun m => by
  rcases x.mu _ m with m | m
  · exact h m
  · rw [e] at m; cases m
theorem rd_keep (x : Mon H G H' G') {a : Addr} {u : HO} (e : Rd H a u) (h : ¬ Mu G a) : Rd H' a u ∧ ¬ Mu G' a := by
  rcases e with e | ⟨o, e⟩
  · exact ⟨.inl (x.keep _ _ e h), nomu x e h⟩
  · exact ⟨.inr ⟨o, x.keep _ _ e h⟩, nomu x e h⟩
theorem LstAt.mono (x : Mon H G H' G') {a : Addr} {us : List V} (h : LstAt H G a us) : LstAt H' G' a us := ⟨x.keep _ _ h.1 h.2, nomu x h.1 h.2⟩
theorem KstAt.mono (x : Mon H G H' G') {a : Addr} {us : List V} (h : KstAt T.K H G a us) : KstAt T.K H' G' a us := by
  rcases h with ⟨e, h⟩ | h
  · exact .inl (rd_keep x e h)
  · exact .inr h
theorem TupAt.mono (x : Mon H G H' G') {a : Addr} {us : List V} (h : TupAt T.K H G a us) : TupAt T.K H' G' a us := by
  rcases h with ⟨e, h⟩ | h
  · exact .inl (rd_keep x e h)
  · exact .inr h
theorem XFs.mono (x : Mon H G H' G') {fs : List Int} (h : XFs T H G fs) : XFs T H' G' fs := by
  rcases h with h | ⟨d, i, j, e, ef, eh, m⟩
  · exact .inl h
  · exact .inr ⟨d, i, j, e, ef, x.keep _ _ eh m, nomu x eh m⟩
mutual
theorem Rep.mono (x : Mon H G H' G') : ∀ {d : D} {v : V}, Rep T H G d v → Rep T H' G' d v
  | .non, _, h => h
  | .bl _, _, h => h
  | .int _, _, h => h
  | .str _, _, h => h
  | .tup ds, _, ⟨a, us, e, t, r⟩ => ⟨a, us, e, t.mono x, Reps.mono x r⟩
  | .lst ds, _, ⟨a, us, e, t, r⟩ => ⟨a, us, e, t.mono x, Reps.mono x r⟩
  | .kst ds, _, ⟨a, us, e, t, r⟩ => ⟨a, us, e, t.mono x, Reps.mono x r⟩
  | .dct, _, ⟨a, e, t, m⟩ => ⟨a, e, rd_keep x t m⟩
  | .fn _, _, h => h
  | .xc _ _, _, ⟨a, e, xa, c, f⟩ => ⟨a, e, xa, c, f.mono x⟩
theorem Reps.mono (x : Mon H G H' G') : ∀ {ds : List D} {us : List V}, Reps T H G ds us → Reps T H' G' ds us
  | [], _, h => h
  | _ :: _, _, ⟨v, vs, e, r, rs⟩ => ⟨v, vs, e, Rep.mono x r, Reps.mono x rs⟩
end
theorem RepV.mono (x : MonA H G H' G') : ∀ {d : Vl} {v : V}, RepV T H G d v → RepV T H' G' d v
  | .d _, _, h => Rep.mono x.toMon h
  | .r n, _, ⟨a, c, e, h⟩ => by
    obtain ⟨c', h'⟩ := x.addr n a c h
    exact ⟨a, c', e, h'⟩
theorem RepVs.mono (x : MonA H G H' G') : ∀ {ds : List Vl} {us : List V}, RepVs T H G ds us → RepVs T H' G' ds us
  | [], _, h => h
  | _ :: _, _, ⟨v, vs, e, r, rs⟩ => ⟨v, vs, e, RepV.mono x r, RepVs.mono x rs⟩
theorem Reps.length : ∀ {ds : List D} {us : List V}, Reps T H G ds us → us.length = ds.length
  | [], us, h => by rw [show us = [] from h]; rfl
  | _ :: ds, _, ⟨v, vs, e, _, rs⟩ => by rw [e]; simp [Reps.length rs]
theorem RepVs.length : ∀ {ds : List Vl} {us : List V}, RepVs T H G ds us → us.length = ds.length
  | [], us, h => by rw [show us = [] from h]; rfl
  | _ :: ds, _, ⟨v, vs, e, _, rs⟩ => by rw [e]; simp [RepVs.length rs]
theorem Reps.get : ∀ {ds : List D} {us : List V} {i : Nat} {d : D}, Reps T H G ds us → ds[i]? = some d → ∃ v, us[i]? = some v ∧ Rep T H G d v
  | [], _, _, _, _, h => by simp at h
  | d :: ds, _, 0, _, ⟨v, vs, e, r, _⟩, h => by simp at h; subst h; exact ⟨v, by rw [e]; rfl, r⟩
  | d :: ds, _, i + 1, _, ⟨v, vs, e, _, rs⟩, h => by
    obtain ⟨w, h1, h2⟩ := Reps.get (i := i) rs (by simpa using h)
    exact ⟨w, by rw [e]; simpa using h1, h2⟩
theorem Reps.of_get : ∀ {ds : List D} {us : List V}, us.length = ds.length → (∀ (i : Nat) d v, ds[i]? = some d → us[i]? = some v → Rep T H G d v) → Reps T H G ds us
  | [], us, h, _ => List.eq_nil_of_length_eq_zero h
  | d :: ds, [], h, _ => by simp at h
  | d :: ds, u :: us, h, f => ⟨u, us, rfl, f 0 d u rfl rfl, Reps.of_get (by simpa using h) fun i d' v' h1 h2 => f (i + 1) d' v' (by simpa using h1) (by simpa using h2)⟩
theorem Reps.append : ∀ {ds es : List D} {us ws : List V}, Reps T H G ds us → Reps T H G es ws → Reps T H G (ds ++ es) (us ++ ws)
  | [], _, us, _, h, s => by rw [show us = [] from h]; exact s
  | _ :: _, _, _, _, ⟨v, vs, e, r, rs⟩, s => ⟨v, vs ++ _, by rw [e]; rfl, r, Reps.append rs s⟩
theorem Reps.take : ∀ {ds : List D} {us : List V} (n : Nat), Reps T H G ds us → Reps T H G (ds.take n) (us.take n)
  | _, _, 0, _ => rfl
  | [], us, n + 1, h => by rw [show us = [] from h]; rfl
  | _ :: _, _, n + 1, ⟨v, vs, e, r, rs⟩ => ⟨v, vs.take n, by rw [e]; rfl, r, Reps.take n rs⟩
theorem Reps.drop : ∀ {ds : List D} {us : List V} (n : Nat), Reps T H G ds us → Reps T H G (ds.drop n) (us.drop n)
  | _, _, 0, h => h
  | [], us, n + 1, h => by rw [show us = [] from h]; rfl
  | _ :: _, _, n + 1, ⟨v, vs, e, r, rs⟩ => by rw [e]; exact Reps.drop n rs
theorem Reps.flat : ∀ {ds : List D} {us : List V} (k : Nat), Reps T H G ds us → Reps T H G (List.replicate k ds).flatten (List.replicate k us).flatten
  | _, _, 0, _ => rfl
  | ds, us, k + 1, h => by
    rw [List.replicate_succ, List.replicate_succ, List.flatten_cons, List.flatten_cons]
    exact h.append (Reps.flat k h)
theorem Reps.set {d : D} {v : V} (r : Rep T H G d v) : ∀ {ds : List D} {us : List V} (i : Nat), Reps T H G ds us → Reps T H G (ds.set i d) (us.set i v)
  | [], us, _, h => by rw [show us = [] from h]; rfl
  | _ :: _, _, 0, ⟨w, vs, e, _, rs⟩ => ⟨v, vs, by rw [e]; rfl, r, rs⟩
  | _ :: _, _, i + 1, ⟨w, vs, e, q, rs⟩ => ⟨w, vs.set i v, by rw [e]; rfl, q, Reps.set r i rs⟩
theorem CellOk.mono (x : MonA H G H' G') {a : Addr} : ∀ {c : Cell}, (∀ o, H a = some o → H' a = some o) → CellOk T H G a c → CellOk T H' G' a c
  | .lst _, k, ⟨us, e, r⟩ => ⟨us, k _ e, r.mono x.toMon⟩
  | .lsr _, k, ⟨us, e, r⟩ => ⟨us, k _ e, r.mono x⟩
  | .dic _, k, ⟨us, e, q, r⟩ => ⟨us, k _ e, q, r.mono x.toMon⟩
  | .ins _ _, k, ⟨dx, us, e, q, r⟩ => ⟨dx, us, k _ e, q, r.mono x⟩
  | .dead, _, _ => trivial
theorem CellOk.there {a : Addr} : ∀ {c : Cell}, c.live = true → CellOk T H G a c → ∃ o, H a = some o
  | .lst _, _, ⟨us, e, r⟩ => ⟨_, e⟩
  | .lsr _, _, ⟨us, e, r⟩ => ⟨_, e⟩
  | .dic _, _, ⟨us, e, q, r⟩ => ⟨_, e⟩
  | .ins _ _, _, ⟨dx, us, e, q, r⟩ => ⟨_, e⟩
  | .dead, h, _ => by cases h
theorem Sim.fresh (S : Sim T H G) {p : Addr} (h : H p = none) : ¬ Mu G p := fun m => by
  rcases m with ⟨n, c, e, l⟩ | m
  · obtain ⟨o, q⟩ := (S.cell n p c e).there l
    rw [h] at q; cases q
  · obtain ⟨o, q⟩ := S.exs p m
    rw [h] at q; cases q
theorem upd_some {p a : Addr} {o u : HO} (h : H p = none) (e : H a = some u) : upd H p o a = some u := by
  rw [upd_ne (ne_of_none e h)]; exact e
/-- a new object -/
theorem Ext.obj {p : Addr} (o : HO) (h : H p = none) : Ext H G (upd H p o) G :=
  ⟨fun _ _ e _ => upd_some h e, fun a u e => ⟨u, upd_some h e⟩, fun _ _ c e => ⟨c, e⟩, fun _ _ _ _ e e' h => by rw [e] at e'; cases e'; exact h, fun n _ _ e _ => .inl (List.getElem?_eq_some_iff.mp e).1, rfl⟩
theorem Sim.obj (S : Sim T H G) {p : Addr} (o : HO) (h : H p = none) : Sim T (upd H p o) G :=
  ⟨fun n a c e => (S.cell n a c e).mono (Ext.obj o h).mon fun u q => upd_some h q, S.inj, S.apart, fun a m => let ⟨u, q⟩ := S.exs a m; ⟨u, upd_some h q⟩, S.exn⟩
theorem Rep.newT (S : Sim T H G) {p : Addr} {ds : List D} {us : List V} (h : H p = none) (r : Reps T H G ds us) : Rep T (upd H p (.tup us)) G (.tup ds) (.ref p) :=
  ⟨p, us, rfl, .inl ⟨.inl upd_same, S.fresh h⟩, r.mono (Ext.obj _ h).mon.toMon⟩
theorem Rep.newL (S : Sim T H G) {p : Addr} {ds : List D} {us : List V} (h : H p = none) (r : Reps T H G ds us) : Rep T (upd H p (.lst us)) G (.lst ds) (.ref p) :=
  ⟨p, us, rfl, ⟨upd_same, S.fresh h⟩, r.mono (Ext.obj _ h).mon.toMon⟩

/-! ### read now -/
/-- v reads as the datum, at this moment -/
def RdD (T : Tb) (H : Hp) (G : Wd) : D → V → Prop
  | .lst ds, v => ∃ a us, v = .ref a ∧ H a = some (.lst us) ∧ Reps T H G ds us
  | d, v => Rep T H G d v
theorem Rep.rd : ∀ {d : D} {v : V}, Rep T H G d v → RdD T H G d v
  | .non, _, h => h
  | .bl _, _, h => h
  | .int _, _, h => h
  | .str _, _, h => h
  | .tup ds, _, h => h
  | .lst ds, _, ⟨a, us, e, t, r⟩ => ⟨a, us, e, t.1, r⟩
  | .kst ds, _, h => h
  | .dct, _, h => h
  | .fn _, _, h => h
  | .xc _ _, _, h => h
theorem dr_rd (S : Sim T H G) {x : Vl} {v : V} {d : D} (r : RepV T H G x v) (h : dr G.st x = some d) : RdD T H G d v := by
  cases x with
  | d y => cases h; exact Rep.rd r
  | r n =>
    obtain ⟨a, c, e, q⟩ := r
    have q' : G.st[n]? = some c := by unfold Wd.st; rw [List.getElem?_map, q]; rfl
    simp only [dr, q'] at h
    cases c with
    | lst xs =>
      cases h
      obtain ⟨us, q1, q2⟩ := S.cell n a _ q
      exact ⟨a, us, e, q1, q2⟩
    | lsr _ => cases h
    | dic _ => cases h
    | ins _ _ => cases h
    | dead => cases h
/-- a list, a read-only one, a tuple -/
theorem RdD.tup {ds : List D} {v : V} (h : RdD T H G (.tup ds) v) : ∃ a us, v = .ref a ∧ SqT T.K H a us ∧ Reps T H G ds us := by
  obtain ⟨a, us, e, t, r⟩ := h
  exact ⟨a, us, e, t.sq, r⟩
theorem RdD.kst {ds : List D} {v : V} (h : RdD T H G (.kst ds) v) : ∃ a us, v = .ref a ∧ SqL T.K H a us ∧ Reps T H G ds us := by
  obtain ⟨a, us, e, t, r⟩ := h
  exact ⟨a, us, e, t.sq, r⟩
theorem RdD.lst {ds : List D} {v : V} (h : RdD T H G (.lst ds) v) : ∃ a us, v = .ref a ∧ SqL T.K H a us ∧ Reps T H G ds us := by
  obtain ⟨a, us, e, t, r⟩ := h
  exact ⟨a, us, e, SqL.of t, r⟩

/-! ### == -/
mutual
theorem Rep.dp : ∀ {d : D} {v : V}, plain d = true → Rep T H G d v → Dp T.K H v (toPy d) ∧ (toPy d).canLay0 = true
  | .non, v, _, h => by rw [show v = .non from h]; exact ⟨.non, by simp [toPy, PyData.canLay0]⟩
  | .bl b, v, _, h => by rw [show v = .bl b from h]; exact ⟨.bl b, by simp [toPy, PyData.canLay0]⟩
  | .int i, v, _, h => by rw [show v = .int i from h]; exact ⟨.int i, by simp [toPy, PyData.canLay0]⟩
  | .str s, v, _, h => by
    obtain ⟨e, k⟩ := h
    rw [e]
    have k' : PyData.strOk s = true := (Bool.and_eq_true_iff.mp k).1
    exact ⟨.str s, by simpa [toPy, PyData.canLay0] using k'⟩
  | .tup ds, v, p, ⟨a, us, e, t, r⟩ => by
    rw [e]
    obtain ⟨h1, h2⟩ := Reps.dp (by simpa [plain] using p) r
    exact ⟨.tup t.sq h1, by simpa [toPy, PyData.canLay0] using h2⟩
  | .lst ds, v, p, ⟨a, us, e, t, r⟩ => by
    rw [e]
    obtain ⟨h1, h2⟩ := Reps.dp (by simpa [plain] using p) r
    exact ⟨.lst t.sq h1, by simpa [toPy, PyData.canLay0] using h2⟩
  | .kst ds, v, p, ⟨a, us, e, t, r⟩ => by
    rw [e]
    obtain ⟨h1, h2⟩ := Reps.dp (by simpa [plain] using p) r
    exact ⟨.lst t.sq h1, by simpa [toPy, PyData.canLay0] using h2⟩
  | .dct, _, p, _ => by simp [plain] at p
  | .fn _, _, p, _ => by simp [plain] at p
  | .xc _ _, _, p, _ => by simp [plain] at p
theorem Reps.dp : ∀ {ds : List D} {us : List V}, plains ds = true → Reps T H G ds us → DpAll T.K H us (toPys ds) ∧ PyData.canLayAll0 (toPys ds) = true
  | [], us, _, h => by rw [show us = [] from h]; exact ⟨.nil, by simp [toPys, PyData.canLayAll0]⟩
  | d :: ds, us, p, ⟨v, vs, e, r, rs⟩ => by
    rw [e]
    have p' : plain d = true ∧ plains ds = true := by simpa [plains] using p
    obtain ⟨h1, h2⟩ := Rep.dp p'.1 r
    obtain ⟨h3, h4⟩ := Reps.dp p'.2 rs
    exact ⟨.cons h1 h3, by simp [toPys, PyData.canLayAll0, h2, h4]⟩
end
theorem RdD.dp : ∀ {d : D} {v : V}, plain d = true → RdD T H G d v → Dp T.K H v (toPy d) ∧ (toPy d).canLay0 = true
  | .lst ds, v, p, ⟨a, us, e, t, r⟩ => by
    rw [e]
    obtain ⟨h1, h2⟩ := Reps.dp (by simpa [plain] using p) r
    exact ⟨.lst (SqL.of t) h1, by simpa [toPy, PyData.canLay0] using h2⟩
  | .non, _, p, h => Rep.dp (G := G) p h
  | .bl _, _, p, h => Rep.dp (G := G) p h
  | .int _, _, p, h => Rep.dp (G := G) p h
  | .str _, _, p, h => Rep.dp (G := G) p h
  | .tup _, _, p, h => Rep.dp (G := G) p h
  | .kst _, _, p, h => Rep.dp (G := G) p h
  | .dct, _, p, h => Rep.dp (G := G) p h
  | .fn _, _, p, h => Rep.dp (G := G) p h
  | .xc _ _, _, p, h => Rep.dp (G := G) p h

/-! ### a place held apart -/
def Wd.priv (G : Wd) (p : Addr) : Wd := ⟨G.g, p :: G.ex⟩
theorem Wd.st_priv (G : Wd) (p : Addr) : (G.priv p).st = G.st := rfl
theorem Mon.enter {p : Addr} (o : HO) (h : H p = none) : MonA H G (upd H p o) (G.priv p) :=
  ⟨⟨fun _ _ e _ => upd_some h e, fun a m => by
    rcases m with m | m
    · exact .inl (.inl m)
    · rcases List.mem_cons.mp m with rfl | m
      · exact .inr h
      · exact .inl (.inr m)⟩, fun _ _ c e => ⟨c, e⟩⟩
theorem Mon.exit {p : Addr} : MonA H (G.priv p) H G :=
  ⟨⟨fun _ _ e _ => e, fun a m => .inl (m.imp id fun z => List.mem_cons_of_mem _ z)⟩, fun _ _ c e => ⟨c, e⟩⟩
theorem Sim.enter (S : Sim T H G) {p : Addr} (o : HO) (h : H p = none) : Sim T (upd H p o) (G.priv p) :=
  ⟨fun n a c e => (S.cell n a c e).mono (Mon.enter o h) fun u q => upd_some h q, S.inj, fun a m => by
    rcases List.mem_cons.mp m with rfl | m
    · exact fun l => S.fresh h (.inl l)
    · exact S.apart a m, fun a m => by
    rcases List.mem_cons.mp m with rfl | m
    · exact ⟨o, upd_same⟩
    · obtain ⟨u, q⟩ := S.exs a m
      exact ⟨u, upd_some h q⟩, List.nodup_cons.mpr ⟨fun m => (by
      obtain ⟨u, q⟩ := S.exs p m
      rw [h] at q
      cases q), S.exn⟩⟩
theorem Sim.exit {p : Addr} (S : Sim T H (G.priv p)) : Sim T H G :=
  ⟨fun n a c e => (S.cell n a c e).mono Mon.exit fun _ q => q, S.inj, fun a m => S.apart a (List.mem_cons_of_mem _ m), fun a m => S.exs a (List.mem_cons_of_mem _ m), (List.nodup_cons.mp S.exn).2⟩
theorem Ext.leave {p : Addr} {o : HO} (h : H p = none) (x : Ext (upd H p o) (G.priv p) H' G') : Ext H G H' ⟨G'.g, G.ex⟩ where
  keep := fun a u e l => x.keep a u (upd_some h e) l
  there := fun a u e => x.there a u (upd_some h e)
  addr := x.addr
  live := x.live
  new := fun n a c e l => (x.new n a c e l).imp id fun q => by
    cases z : H a with
    | none => rfl
    | some u => rw [upd_some h z] at q; cases q
  ex := rfl
/-- a new list becomes a cell -/
theorem Sim.cell_new {p : Addr} {ds : List D} {us : List V} (S : Sim T H (G.priv p)) (e : H p = some (.lst us)) (r : Reps T H (G.priv p) ds us) : Sim T H ⟨G.g ++ [(p, .lst ds)], G.ex⟩ := by
  have nl : ¬ Lv G p := S.apart p List.mem_cons_self
  have mon : MonA H (G.priv p) H ⟨G.g ++ [(p, .lst ds)], G.ex⟩ := by
    refine ⟨⟨fun _ _ e _ => e, fun a m => .inl ?_⟩, fun n a c e => ⟨c, ?_⟩⟩
    · rcases m with ⟨n, c, q, l⟩ | m
      · have q : (G.g ++ [(p, Cell.lst ds)])[n]? = some (a, c) := q
        by_cases hn : n < G.g.length
        · rw [List.getElem?_append_left hn] at q
          exact .inl ⟨n, c, q, l⟩
        · rw [List.getElem?_append_right (by omega)] at q
          have z : n - G.g.length = 0 := by
            have := (List.getElem?_eq_some_iff.mp q).1
            simp at this
            omega
          rw [z] at q
          cases q
          exact .inr List.mem_cons_self
      · exact .inr (List.mem_cons_of_mem _ m)
    · show (G.g ++ [(p, Cell.lst ds)])[n]? = some (a, c)
      have e' : G.g[n]? = some (a, c) := e
      rw [List.getElem?_append_left (List.getElem?_eq_some_iff.mp e').1]
      exact e'
  have old : ∀ (n : Nat) a c, (G.g ++ [(p, .lst ds)])[n]? = some (a, c) → G.g[n]? = some (a, c) ∨ (n = G.g.length ∧ a = p ∧ c = .lst ds) := fun n a c q => by
    by_cases hn : n < G.g.length
    · rw [List.getElem?_append_left hn] at q
      exact .inl q
    · rw [List.getElem?_append_right (by omega)] at q
      have z : n - G.g.length = 0 := by
        have := (List.getElem?_eq_some_iff.mp q).1
        simp at this
        omega
      rw [z] at q
      cases q
      exact .inr ⟨by omega, rfl, rfl⟩
  refine ⟨fun n a c q => ?_, fun n m a c c' q q' l l' => ?_, fun a m l => ?_, fun a m => S.exs a (List.mem_cons_of_mem _ m), (List.nodup_cons.mp S.exn).2⟩
  · rcases old n a c q with q | ⟨_, rfl, rfl⟩
    · exact (S.cell n a c q).mono mon fun _ z => z
    · exact ⟨us, e, r.mono mon.toMon⟩
  · rcases old n a c q with q | ⟨h1, h2, h3⟩
    · rcases old m a c' q' with q' | ⟨k1, k2, k3⟩
      · exact S.inj n m a c c' q q' l l'
      · rw [k2] at q
        exact absurd ⟨n, c, q, l⟩ nl
    · rcases old m a c' q' with q' | ⟨k1, k2, k3⟩
      · rw [h2] at q'
        exact absurd ⟨m, c', q', l'⟩ nl
      · omega
  · obtain ⟨n, c, q, lc⟩ := l
    rcases old n a c q with q | ⟨_, h2, _⟩
    · exact S.apart a (List.mem_cons_of_mem _ m) ⟨n, c, q, lc⟩
    · rw [h2] at m
      exact (List.nodup_cons.mp S.exn).1 m
end
end Br

/-! Br3: each operation by itself, over the layer. -/
namespace Br
open PySem PySem.Spec PyProof.Rows L2
section
variable {X : Cx} {T : Tb}
/-- what an answer may take for granted -/
def After (T : Tb) (H : Hp) (G : Wd) (r : D) (Q : VK) : Prop := ∀ v H', Ext H G H' G → Sim T H' G → Rep T H' G r v → Q v H'
theorem After.same {H : Hp} {G : Wd} {r : D} {Q : VK} (q : After T H G r Q) (S : Sim T H G) {v : V} (h : Rep T H G r v) : Q v H := q v H (Ext.refl H G) S h
theorem After.newT {H : Hp} {G : Wd} {ds : List D} {us : List V} {Q : VK} (q : After T H G (.tup ds) Q) (S : Sim T H G) (r : Reps T H G ds us) : ∀ p, H p = none → Q (.ref p) (upd H p (.tup us)) :=
  fun p h => q _ _ (Ext.obj _ h) (S.obj _ h) (Rep.newT S h r)
theorem After.newL {H : Hp} {G : Wd} {ds : List D} {us : List V} {Q : VK} (q : After T H G (.lst ds) Q) (S : Sim T H G) (r : Reps T H G ds us) : ∀ p, H p = none → Q (.ref p) (upd H p (.lst us)) :=
  fun p h => q _ _ (Ext.obj _ h) (S.obj _ h) (Rep.newL S h r)

end
section
open AutoSeq1 (wpAny_loadPart')
/-- t * k, where t is empty or k is 1: t -/
theorem tmul_same (l : Addr) (its : Array Value) (n : Nat) (dd : Option Addr) (sl : Array (Option Value)) (x : Int) (u : Tok) (hx : -(2 ^ 63) ≤ x ∧ x < 2 ^ 63) (hs : (its.isEmpty || x == 1) = true) :
    Meets (Builtin.«tuple.__mul__» ⟨[.ref l, .int x u], []⟩) (fun _ R s => s.heap.get? l = some { cls := .type "tuple", dict := dd, data := .seq its n, slots := sl } ∧ R (.ok (.ret (.ref l))) s) :=
  .of_wp fun prog w A R s ⟨hl, h⟩ => by
    obtain ⟨hp, g, d, tk, os⟩ := s
    have f1 := AutoSeq1.idx_int
    have z0 : (decide (x < -(2 ^ 63)) || decide (x ≥ 2 ^ 63)) = false := by
      rw [decide_eq_false (by omega), decide_eq_false (by omega)]
      rfl
    wp_walk using wpAny_loadPart' hl
    repeat (first
      | (refine wpAny_ite_false (decide_eq_false (by rw [z0]; exact Bool.false_ne_true)) ?_; wp_walk using wpAny_loadPart' hl)
      | (refine wpAny_ite_true (decide_eq_true hs) ?_; wp_walk using wpAny_loadPart' hl))
    exact ⟨_, rfl, h⟩
/-- t * k, k not above 0, t not empty: an empty tuple -/
theorem tmul_none (l : Addr) (its : Array Value) (n : Nat) (dd : Option Addr) (sl : Array (Option Value)) (x : Int) (u : Tok) (hx : -(2 ^ 63) ≤ x ∧ x ≤ 0) (hs : its.isEmpty = false) :
    Meets (Builtin.«tuple.__mul__» ⟨[.ref l, .int x u], []⟩) (fun _ R s => s.heap.get? l = some { cls := .type "tuple", dict := dd, data := .seq its n, slots := sl } ∧
      R (.ok (.ret (.ref s.heap.objs.size))) { s with heap := s.heap.push { cls := .type "tuple", data := .seq #[] }, toks := s.toks }) :=
  .of_wp fun prog w A R s ⟨hl, h⟩ => by
    obtain ⟨hp, g, d, tk, os⟩ := s
    have f1 := AutoSeq1.idx_int
    have z0 : (decide (x < -(2 ^ 63)) || decide (x ≥ 2 ^ 63)) = false := by
      rw [decide_eq_false (by omega), decide_eq_false (by omega)]
      rfl
    have z1 : (its.isEmpty || x == 1) = false := by
      rw [hs, Bool.false_or]
      exact beq_eq_false_iff_ne.mpr (by omega)
    have z2 : (decide (x ≤ 0) || its.isEmpty) = true := by
      rw [decide_eq_true hx.2]
      rfl
    wp_walk using wpAny_loadPart' hl
    repeat (first
      | (refine wpAny_ite_false (decide_eq_false (by rw [z0]; exact Bool.false_ne_true)) ?_; wp_walk using wpAny_loadPart' hl)
      | (refine wpAny_ite_false (decide_eq_false (by rw [z1]; exact Bool.false_ne_true)) ?_; wp_walk using wpAny_loadPart' hl)
      | (refine wpAny_ite_true (decide_eq_true z2) ?_; wp_walk using wpAny_loadPart' hl))
    exact ⟨_, rfl, h⟩
end
section
variable {X : Cx}
def rMulT0 (K : PySem.W.Frag) : R2 := fun x y H Q => ∃ l k xs, x = .ref l ∧ y = .int k ∧ SqT K H l xs ∧ -1000 ≤ k ∧ k ≤ 1000 ∧ (((xs = [] ∨ k = 1) ∧ Q (.ref l) H) ∨ (xs ≠ [] ∧ k ≤ 0 ∧ ∀ p, H p = none → Q (.ref p) (upd H p (.tup []))))
theorem op_mulT0 : OpR X (binaryOp .Mult) (rMulT0 X.K) := by
  intro pins s σ H x y v u Q I rx ry ⟨l, k, xs, e1, e2, hT, h1, h2, q⟩
  subst e1 e2
  cases rx
  obtain ⟨t, rfl⟩ := ry
  obtain ⟨its, r, ⟨⟨cls, dd, data, sl⟩, ho, hc, n, hd⟩, _⟩ := I.tuple hT
  simp only at hc hd
  subst hc hd
  have hle : its.length = xs.length := r.length.symm
  refine wpAny_binaryOp_repeat_ref (T := "tuple") (U := "int") (by decide) ⟨_, ho, rfl⟩ (fun z => typeIs_int z k t) noFill_tuple_mul F.fills_int_mul F.slot_int_rmul repeat_tuple F.slot_int_index.lookup ?_
  refine call_meets F.slot_int_rmul (typeIs_int s k t) F.entry_int_rmul (F.args_int_rmul_2 _ _) (int_rmul_tuple k t l its.toArray n dd sl) ⟨ho, rfl, ⟨_, ho, rfl⟩, ?_⟩
  rcases q with ⟨hz, q⟩ | ⟨hne, hk, q⟩
  · refine call_meets F.slot_tuple_mul ⟨_, ho, rfl⟩ F.entry_tuple_mul (F.args_tuple_mul_2 _ _) (tmul_same l its.toArray n dd sl k t ⟨by omega, by omega⟩ ?_) ⟨ho, .ref l, H, I, rfl, q⟩
    rcases hz with rfl | rfl
    · rw [List.eq_nil_of_length_eq_zero hle]
      rfl
    · simp
  · refine call_meets F.slot_tuple_mul ⟨_, ho, rfl⟩ F.entry_tuple_mul (F.args_tuple_mul_2 _ _) (tmul_none l its.toArray n dd sl k t ⟨by omega, hk⟩ ?_) ⟨ho, ?_⟩
    · cases its with
      | nil => exact absurd (List.eq_nil_of_length_eq_zero hle.symm) hne
      | cons a b => rfl
    · exact ⟨.ref s.heap.objs.size, _, I.laid (t' := s.toks) (o := .tup []) (fun b ob e => Heap.get?_push_of_some _ e) (Nat.le_refl _) ⟨Nat.zero_le _, [], .nil, IsTup.new _ _⟩, rfl, q _ (I.hok.fresh (Nat.le_refl _))⟩
end
section
variable {X : Cx} {T : Tb}
def bop : Bop → Operator
  | .add => .Add | .sub => .Sub | .mul => .Mult | .fdiv => .FloorDiv | .mod => .Mod | .pow => .Pow
  | .shl => .LShift | .shr => .RShift | .band => .BitAnd | .bor => .BitOr
def rOp (T : Tb) (o : Bop) : R2 := fun x y H Q => ∃ G d e r, Sim T H G ∧ RdD T H G d x ∧ RdD T H G e y ∧ opD o d e = some r ∧ After T H G r Q
theorem small_mul {i j : Int} (h : (small64 i || small64 j) = true) : CMul i j := by
  rcases Bool.or_eq_true_iff.mp h with h | h
  · have := Bool.and_eq_true_iff.mp h
    exact .inl ⟨of_decide_eq_true this.1, of_decide_eq_true this.2⟩
  · have := Bool.and_eq_true_iff.mp h
    exact .inr ⟨of_decide_eq_true this.1, of_decide_eq_true this.2⟩
/-- text * k -/
theorem op_mul_str : OpR X (binaryOp .Mult) (fun x y H Q => ∃ (a : Str) (k : Int), x = .str a ∧ y = .int k ∧ 2 ≤ k ∧ k ≤ 1000 ∧ 1 ≤ a.length ∧ a.length ≤ 1000 ∧ (repS a k.toNat).length ≤ sizeLine ∧ Q (.str (repS a k.toNat)) H) := by
  intro pins s σ H x y v u Q I rx ry h
  obtain ⟨a, k, rfl, rfl, h1, h2, h3, h4, h5, q⟩ := h
  obtain ⟨t, rfl⟩ := rx
  obtain ⟨t', rfl⟩ := ry
  have n1 : ¬ k < 1 := by omega
  have e1 : (k == 1 || a.length == 0) = false := by
    rw [Bool.or_eq_false_iff]
    exact ⟨by simp; omega, by simp; omega⟩
  have hm : a.length * k.toNat ≤ 1000 * 1000 := Nat.mul_le_mul h4 (by omega)
  refine P.mul_str ?_ (fun _ _ => ?_) (fun _ _ => ?_) ?_
  · rw [decide_eq_false (by omega), decide_eq_false (by omega)]
    rfl
  · have : (1000 : Int) ≤ (2 ^ 63 - 1) / k := by
      rw [Int.le_ediv_iff_mul_le (by omega)]
      omega
    omega
  · unfold Builtin.Str.tooLong
    rw [decide_eq_false]
    rw [sizeLine_eq]
    omega
  · rw [if_neg n1, if_neg (by rw [e1]; exact Bool.false_ne_true)]
    exact ⟨h5, .str (repS a k.toNat), H, I.tok _, ⟨_, rfl⟩, q⟩
theorem op_sound (hK : T.K = X.K) (o : Bop) : OpR X (binaryOp (bop o)) (rOp T o) := by
  intro pins s σ H x y v u Q I rx ry h
  obtain ⟨G, d, e, r, S, hd, he, ho, q⟩ := h
  unfold opD at ho
  split at ho
  -- int + int
  · cases ho
    exact op_add pins s σ H x y v u Q I rx ry ⟨_, _, hd, he, q.same S rfl⟩
  -- tuples
  · split at ho
    · cases ho
      rename_i xs ys hz
      obtain ⟨a, us, e1, t1, r1⟩ := RdD.tup hd
      obtain ⟨b, ws, e2, t2, r2⟩ := RdD.tup he
      rw [hK] at t1 t2
      refine op_catA pins s σ H x y v u Q I rx ry ⟨a, b, us, ws, e1, e2, t1, t2, by rw [r1.length, r2.length]; exact hz, fun z => ?_, fun z z2 => ?_, fun _ _ => q.newT S (r1.append r2)⟩
      · have hx : xs = [] := List.eq_nil_of_length_eq_zero (by rw [← r1.length, z]; rfl)
        subst hx
        obtain rfl := e2
        exact q.same S he
      · have hy : ys = [] := List.eq_nil_of_length_eq_zero (by rw [← r2.length, z2]; rfl)
        subst hy
        rw [List.append_nil] at q
        obtain rfl := e1
        exact q.same S hd
    · cases ho
  -- lists
  · split at ho
    · cases ho
      rename_i xs ys hz
      obtain ⟨a, us, e1, t1, r1⟩ := hd
      obtain ⟨b, ws, e2, t2, r2⟩ := he
      exact op_cat pins s σ H x y v u Q I rx ry ⟨a, b, us, ws, e1, e2, t1, t2, by rw [r1.length, r2.length]; exact hz, q.newL S (r1.append r2)⟩
    · cases ho
  -- texts
  · split at ho
    · cases ho
      rename_i i j hz
      have hz2 := (Bool.and_eq_true_iff.mp hz).2
      have hl : (i ++ j).length = i.length + j.length := by
        show (i.cps ++ j.cps).size = _
        rw [Array.size_append]
        rfl
      have hz3 := of_decide_eq_true hz2
      rw [hl] at hz3
      obtain ⟨e1, _⟩ := hd
      obtain ⟨e2, _⟩ := he
      exact op_add_str pins s σ H x y v u Q I rx ry ⟨_, _, e1, e2, hz3, q.same S ⟨rfl, hz⟩⟩
    · cases ho
  · cases ho
    exact op_sub pins s σ H x y v u Q I rx ry ⟨_, _, hd, he, q.same S rfl⟩
  · split at ho
    · cases ho
      rename_i hz
      exact op_mul pins s σ H x y v u Q I rx ry ⟨_, _, hd, he, small_mul hz, q.same S rfl⟩
    · cases ho
  · split at ho
    · cases ho
      rename_i xs k hz
      obtain ⟨a, us, e1, t1, r1⟩ := hd
      refine op_rep pins s σ H x y v u Q I rx ry ⟨a, k, us, e1, he, t1, by omega, by omega, ?_, q.newL S (r1.flat _)⟩
      rw [r1.length, sizeLine_eq]
      have := Nat.mul_le_mul hz.2.2 (show k.toNat ≤ 1000 by omega)
      omega
    · cases ho
  · split at ho
    · cases ho
      rename_i xs k hz
      obtain ⟨a, us, e1, t1, r1⟩ := RdD.tup hd
      rw [hK] at t1
      have same : (xs = [] ∨ k = 1) → (List.replicate k.toNat xs).flatten = xs := fun z => by
        rcases z with rfl | rfl
        · simp
        · simp
      have hlen := r1.length
      by_cases z : xs = [] ∨ k = 1
      · rw [same z] at q
        refine op_mulT0 pins s σ H x y v u Q I rx ry ⟨a, k, us, e1, he, t1, by omega, by omega, .inl ⟨z.imp (fun z => List.eq_nil_of_length_eq_zero (by rw [hlen, z]; rfl)) id, ?_⟩⟩
        subst e1
        exact q.same S hd
      · have z1 : xs ≠ [] := fun e => z (.inl e)
        have z2 : us ≠ [] := fun e => z1 (List.eq_nil_of_length_eq_zero (by rw [← hlen, e]; rfl))
        by_cases z0 : k ≤ 0
        · rw [show (List.replicate k.toNat xs).flatten = [] by rw [show k.toNat = 0 by omega]; rfl] at q
          exact op_mulT0 pins s σ H x y v u Q I rx ry ⟨a, k, us, e1, he, t1, by omega, by omega, .inr ⟨z2, z0, q.newT S rfl⟩⟩
        · have : k ≠ 1 := fun e => z (.inr e)
          exact op_repT pins s σ H x y v u Q I rx ry ⟨a, k, us, e1, he, t1, z2, by omega, by omega, by rw [hlen]; exact hz.2.2, q.newT S (r1.flat _)⟩
    · cases ho
  · split at ho
    · cases ho
      rename_i hz
      obtain ⟨hz1, hz2⟩ := Bool.and_eq_true_iff.mp hz
      have hz1 := of_decide_eq_true hz1
      obtain ⟨e1, _⟩ := hd
      exact op_mul_str pins s σ H x y v u Q I rx ry ⟨_, _, e1, he, hz1.1, hz1.2.1, hz1.2.2.1, hz1.2.2.2.1, hz1.2.2.2.2, q.same S ⟨rfl, by
        unfold okStr
        rw [hz2, decide_eq_true hz1.2.2.2.2]
        rfl⟩⟩
    · cases ho
  · split at ho
    · cases ho
      rename_i hz
      exact op_fdivW pins s σ H x y v u Q I rx ry ⟨_, _, hd, he, hz, q.same S rfl⟩
    · cases ho
  · split at ho
    · cases ho
      rename_i hz
      exact op_mod pins s σ H x y v u Q I rx ry ⟨_, _, hd, he, hz, q.same S rfl⟩
    · cases ho
  · split at ho
    · cases ho
      rename_i hz
      exact op_pow pins s σ H x y v u Q I rx ry ⟨_, _, hd, he, hz, q.same S rfl⟩
    · cases ho
  · split at ho
    · cases ho
      rename_i hz
      exact op_shl pins s σ H x y v u Q I rx ry ⟨_, _, hd, he, hz, q.same S rfl⟩
    · cases ho
  · split at ho
    · cases ho
      rename_i hz
      exact op_shr pins s σ H x y v u Q I rx ry ⟨_, _, hd, he, hz, q.same S rfl⟩
    · cases ho
  · cases ho
    exact op_and pins s σ H x y v u Q I rx ry ⟨_, _, hd, he, q.same S rfl⟩
  · cases ho
    exact op_or pins s σ H x y v u Q I rx ry ⟨_, _, hd, he, q.same S rfl⟩
  · cases ho

/-! ### comparisons -/
def cop : Cop → CmpOp
  | .eq => .Eq | .ne => .NotEq | .lt => .Lt | .le => .LtE | .gt => .Gt | .ge => .GtE | .isin => .In | .notin => .NotIn
def rCop (T : Tb) (o : Cop) : R2 := fun x y H Q => ∃ G d e b, Sim T H G ∧ RdD T H G d x ∧ RdD T H G e y ∧ cmpD o d e = some b ∧ Q (.bl b) H
theorem eq_rule {lvl : Nat} (hK : T.K = X.K) (hr : L2H.RoomH lvl X.A) {pins : List (Addr × Obj)} {s : Shared} {σ : L2.St} {H : Hp} {G : Wd} {x y : V} {v u : Value} {d e : D} {b : Bool} (I : Inv X pins σ H s) (rx : RelV x v) (ry : RelV y u)
    (hd : RdD T H G d x) (he : RdD T H G e y) (ho : eqO d e = some b) {Q : Value → Shared → Prop} :
    (Q (.bool b) s → wpAny (model X.prog X.w) X.A (compareOp .Eq v u) Q X.xe s) ∧ (Q (.bool (!b)) s → wpAny (model X.prog X.w) X.A (compareOp .NotEq v u) Q X.xe s) := by
  unfold eqO at ho
  split at ho
  · rename_i hc
    cases ho
    simp only [Bool.and_eq_true, Bool.or_eq_true, decide_eq_true_eq] at hc
    obtain ⟨⟨p1, p2⟩, p3⟩ := hc
    obtain ⟨h1, h2⟩ := RdD.dp p1 hd
    obtain ⟨h3, h4⟩ := RdD.dp p2 he
    rw [hK] at h1 h3
    obtain ⟨as, q1⟩ := Dp.reads I _ _ _ h1 rx
    obtain ⟨bs, q2⟩ := Dp.reads I _ _ _ h3 ry
    have hu : X.A.units + min (toPy d).depth (toPy e).depth < cLine := by
      have := hr.un
      have m1 := Nat.min_le_left (toPy d).depth (toPy e).depth
      have m2 := Nat.min_le_right (toPy d).depth (toPy e).depth
      rcases p3 with p3 | p3 <;> omega
    exact ⟨fun q => SeqAt.compareEq_reads q1 q2 h2 h4 hu q, fun q => SeqAt.compareNe_reads q1 q2 h2 h4 hu q⟩
  · cases ho
theorem toPys_map : ∀ ds : List D, toPys ds = ds.map toPy
  | [] => by simp [toPys]
  | d :: ds => by simp [toPys, toPys_map ds]
theorem any_toPys (x : D) (ys : List D) : ((toPys ys).any fun y => PyData.eqv y (toPy x)) = ys.any fun y => eqD y x := by
  rw [toPys_map, List.any_map]
  rfl
theorem in_rule {lvl : Nat} (hr : L2H.RoomH lvl X.A) {pins : List (Addr × Obj)} {s : Shared} {σ : L2.St} {H : Hp} {G : Wd} {x : V} {v : Value} {d : D} {ys : List D} {b : Bool} (hK : T.K = X.K) (I : Inv X pins σ H s) (rx : RelV x v)
    (hd : RdD T H G d x) {a : Addr} {us : List V} (hq : SqL X.K H a us ∨ SqT X.K H a us) (hy : Reps T H G ys us) (ho : inO d ys = some b) {Q : Value → Shared → Prop} :
    (Q (.bool b) s → wpAny (model X.prog X.w) X.A (compareOp .In v (.ref a)) Q X.xe s) ∧ (Q (.bool (!b)) s → wpAny (model X.prog X.w) X.A (compareOp .NotIn v (.ref a)) Q X.xe s) := by
  unfold inO at ho
  split at ho
  · rename_i hc
    cases ho
    simp only [Bool.and_eq_true, Bool.or_eq_true, decide_eq_true_eq] at hc
    obtain ⟨⟨p1, p2⟩, p3⟩ := hc
    obtain ⟨h1, h2⟩ := RdD.dp p1 hd
    obtain ⟨h3, h4⟩ := Reps.dp p2 hy
    rw [hK] at h1 h3
    obtain ⟨as, q1⟩ := Dp.reads I _ _ _ h1 rx
    have hu : X.A.units + 1 + min (PyData.depthAll (toPys ys)) (toPy d).depth < cLine := by
      have := hr.un
      have m1 := Nat.min_le_left (PyData.depthAll (toPys ys)) (toPy d).depth
      have m2 := Nat.min_le_right (PyData.depthAll (toPys ys)) (toPy d).depth
      rcases p3 with p3 | p3 <;> omega
    rw [← any_toPys]
    rcases hq with hq | hq
    · obtain ⟨bs, q2⟩ := Dp.reads I (.list (toPys ys)) (.ref a) (.ref a) (.lst hq h3) rfl
      exact ⟨fun q => SeqAt.in_list_reads q2 q1 h4 h2 hu q, fun q => SeqAt.notIn_list_reads q2 q1 h4 h2 hu q⟩
    · obtain ⟨bs, q2⟩ := Dp.reads I (.tuple (toPys ys)) (.ref a) (.ref a) (.tup hq h3) rfl
      exact ⟨fun q => SeqAt.in_tuple_reads q2 q1 h4 h2 hu q, fun q => SeqAt.notIn_tuple_reads q2 q1 h4 h2 hu q⟩
  · cases ho
theorem ord_val {f : D → D → Bool} {x y : D} {b : Bool} (h : ordO f x y = some b) : f x y = b := by
  unfold ordO at h
  split at h
  · exact Option.some.inj h
  · cases h
theorem ord_ok {lvl : Nat} {A : Around} (hr : L2H.RoomH lvl A) {f : D → D → Bool} {xs ys : List D} {b : Bool} (h : ordO f (.tup xs) (.tup ys) = some b) :
    PySem.W.alike (toPy (.tup xs)) (toPy (.tup ys)) = true ∧ plain (.tup xs) = true ∧ plain (.tup ys) = true ∧ toPy (.tup xs) ≠ .none ∧ A.units + min (toPy (.tup xs)).depth (toPy (.tup ys)).depth < cLine := by
  unfold ordO at h
  split at h
  · rename_i k
    simp only [Bool.and_eq_true, decide_eq_true_eq] at k
    obtain ⟨⟨⟨k1, k2⟩, k3⟩, k4⟩ := k
    refine ⟨k1, k2, k3, by simp [toPy], ?_⟩
    have := hr.un
    have := Nat.min_le_left (toPy (.tup xs)).depth (toPy (.tup ys)).depth
    omega
  · cases h
theorem cop_sound {lvl : Nat} (hK : T.K = X.K) (hr : L2H.RoomH lvl X.A) (o : Cop) : OpR X (compareOp (cop o)) (rCop T o) := by
  intro pins s σ H x y v u Q I rx ry h
  obtain ⟨G, d, e, b, S, hd, he, ho, q⟩ := h
  have fin : ∀ c : Bool, c = b → EP X pins σ Q (.bool c) s := fun c e => by subst e; exact ⟨.bl c, H, I, rfl, q⟩
  have neg : ∀ o : Option Bool, o.map (!·) = some b → ∃ c, o = some c ∧ (!c) = b := fun o h => by
    cases o with
    | none => cases h
    | some c => exact ⟨c, rfl, Option.some.inj h⟩
  unfold cmpD at ho
  split at ho
  · exact (eq_rule hK hr I rx ry hd he ho).1 (fin _ rfl)
  · obtain ⟨c, h1, h2⟩ := neg _ ho
    exact (eq_rule hK hr I rx ry hd he h1).2 (fin _ h2)
  · cases ho
    exact op_lt pins s σ H x y v u Q I rx ry ⟨_, _, hd, he, q⟩
  · cases ho
    exact op_le pins s σ H x y v u Q I rx ry ⟨_, _, hd, he, q⟩
  · cases ho
    exact op_gt pins s σ H x y v u Q I rx ry ⟨_, _, hd, he, q⟩
  · cases ho
    exact op_ge pins s σ H x y v u Q I rx ry ⟨_, _, hd, he, q⟩
  · obtain ⟨al, p1, p2, hn, hu⟩ := ord_ok hr ho
    obtain ⟨as, q1⟩ := Dp.reads I _ _ _ (hK ▸ (RdD.dp p1 hd).1) rx
    obtain ⟨bs, q2⟩ := Dp.reads I _ _ _ (hK ▸ (RdD.dp p2 he).1) ry
    exact PySem.W.lt_data q1 q2 al hn hu (fin _ (ord_val ho))
  · obtain ⟨al, p1, p2, hn, hu⟩ := ord_ok hr ho
    obtain ⟨as, q1⟩ := Dp.reads I _ _ _ (hK ▸ (RdD.dp p1 hd).1) rx
    obtain ⟨bs, q2⟩ := Dp.reads I _ _ _ (hK ▸ (RdD.dp p2 he).1) ry
    exact PySem.W.le_data q1 q2 al hn hu (fin _ (ord_val ho))
  · obtain ⟨al, p1, p2, hn, hu⟩ := ord_ok hr ho
    obtain ⟨as, q1⟩ := Dp.reads I _ _ _ (hK ▸ (RdD.dp p1 hd).1) rx
    obtain ⟨bs, q2⟩ := Dp.reads I _ _ _ (hK ▸ (RdD.dp p2 he).1) ry
    exact PySem.W.gt_data q1 q2 al hn hu (fin _ (ord_val ho))
  · obtain ⟨al, p1, p2, hn, hu⟩ := ord_ok hr ho
    obtain ⟨as, q1⟩ := Dp.reads I _ _ _ (hK ▸ (RdD.dp p1 hd).1) rx
    obtain ⟨bs, q2⟩ := Dp.reads I _ _ _ (hK ▸ (RdD.dp p2 he).1) ry
    exact PySem.W.ge_data q1 q2 al hn hu (fin _ (ord_val ho))
  · obtain ⟨a, us, e1, t1, r1⟩ := RdD.lst he
    subst e1
    cases ry
    rw [hK] at t1
    exact (in_rule hr hK I rx hd (.inl t1) r1 ho).1 (fin _ rfl)
  · obtain ⟨a, us, e1, t1, r1⟩ := RdD.kst he
    subst e1
    cases ry
    rw [hK] at t1
    exact (in_rule hr hK I rx hd (.inl t1) r1 ho).1 (fin _ rfl)
  · obtain ⟨a, us, e1, t1, r1⟩ := RdD.tup he
    subst e1
    cases ry
    rw [hK] at t1
    exact (in_rule hr hK I rx hd (.inr t1) r1 ho).1 (fin _ rfl)
  · obtain ⟨a, us, e1, t1, r1⟩ := RdD.lst he
    subst e1
    cases ry
    rw [hK] at t1
    obtain ⟨c, h1, h2⟩ := neg _ ho
    exact (in_rule hr hK I rx hd (.inl t1) r1 h1).2 (fin _ h2)
  · obtain ⟨a, us, e1, t1, r1⟩ := RdD.kst he
    subst e1
    cases ry
    rw [hK] at t1
    obtain ⟨c, h1, h2⟩ := neg _ ho
    exact (in_rule hr hK I rx hd (.inl t1) r1 h1).2 (fin _ h2)
  · obtain ⟨a, us, e1, t1, r1⟩ := RdD.tup he
    subst e1
    cases ry
    rw [hK] at t1
    obtain ⟨c, h1, h2⟩ := neg _ ho
    exact (in_rule hr hK I rx hd (.inr t1) r1 h1).2 (fin _ h2)
  · cases ho

/-! ### sums, least and greatest of tuples and lists -/
section
variable {pins : List (Addr × Obj)} {σ : L2.St} {H : Hp} {s : Shared}
theorem tup_of (I : Inv X pins σ H s) {a : Addr} {us : List V} (h : SqT X.K H a us) : ∃ its : List Value, Vals us its ∧ s.heap.IsTuple a its.toArray := by
  obtain ⟨its, rv, ⟨o, ho, hc, n, hd⟩, _⟩ := I.tuple h
  exact ⟨its, rv, ⟨o, ho, hc, n, hd⟩⟩
/-- sum(t), t a tuple of whole numbers -/
def rSumT (K : PySem.W.Frag) : List V → Hp → VK → Prop := fun vs H Q => ∃ (a : Addr) (ns : List Int), vs = [.ref a] ∧ SqT K H a (ns.map .int) ∧ Q (.int ns.sum) H
theorem cr_sumT (hc : X.calm = true) : CallR X (.builtin "sum") (rSumT X.K) := by
  intro pins s σ H xs us Q I rv ⟨a, ns, e, hs, q⟩
  subst e
  obtain ⟨its, r, hl⟩ := tup_of I hs
  rw [Vals.ref1 rv]
  have hi := r.ints
  obtain ⟨zs, ez⟩ := hi.allInts.items
  have hn : numsOf its.toArray.toList = ns := hi.numsOf
  rw [ez] at hl
  rw [ez, nums_intItems] at hn
  refine PySem.W.ktm_sumG (I.ok.hd hc) hl fun h' tk t' hk => ⟨.int _, H, I.kept hk, ⟨_, rfl⟩, ?_⟩
  rw [preSum_eq, List.take_of_length_le (by simp), hn]
  exact q
theorem toPys_ints : ∀ ns : List Int, toPys (ns.map .int) = ns.map .int
  | [] => rfl
  | n :: ns => by simp [toPys, toPy, toPys_ints ns]
theorem dInts_eq : ∀ {xs : List D} {ns : List Int}, dInts xs = some ns → xs = ns.map .int
  | [], _, h => by cases h; rfl
  | x :: xs, ns, h => by
    cases x with
    | int i =>
      simp only [dInts] at h
      cases q : dInts xs with
      | none => rw [q] at h; cases h
      | some cs =>
        rw [q] at h
        cases h
        rw [dInts_eq q]
        rfl
    | _ => cases h
theorem dInts_all : ∀ ns : List Int, dInts (ns.map .int) = some ns
  | [] => rfl
  | n :: ns => by simp [dInts, dInts_all ns]
theorem plains_ints : ∀ ns : List Int, plains (ns.map .int) = true
  | [] => rfl
  | n :: ns => by simp [plains, plain, plains_ints ns]
theorem reads_ints (hK : T.K = X.K) (I : Inv X pins σ H s) {G : Wd} {ns : List Int} {us : List V} {its : List Value} (r : Reps T H G (ns.map .int) us) (rv : Vals us its) : ∃ as, ReadsAll s.heap its (ns.map .int) as := by
  have h := (Reps.dp (plains_ints ns) r).1
  rw [toPys_ints, hK] at h
  exact Dp.readsAll I _ _ _ h rv
theorem alike_is (ns : List Int) : PySem.W.AlikeAll (ns.map .int) := ⟨fun x hx y hy => by
  obtain ⟨i, _, rfl⟩ := List.mem_map.mp hx
  obtain ⟨j, _, rfl⟩ := List.mem_map.mp hy
  rfl, fun x hx => by
  obtain ⟨i, _, rfl⟩ := List.mem_map.mp hx
  exact fun h => by cases h⟩
theorem deep_is {k : Nat} (n : Int) (ns : List Int) (h : k < cLine) : k + PyData.depthAll (.int n :: ns.map .int) < cLine := by
  rw [show (PyData.int n :: ns.map .int) = (n :: ns).map .int from rfl, PySem.W.depth_ints]
  exact h
theorem reads_int_of {h : Heap} {v : Value} {m : Int} {bs : List Addr} (r : Reads h v (.int m) bs) : ∃ t, v = .int m t := by
  cases r
  exact ⟨_, rfl⟩
def rExt (T : Tb) (g : List Int → Option D) : List V → Hp → VK → Prop := fun vs H Q => ∃ (a : Addr) (G : Wd) (ns : List Int) (us : List V) (m : Int), vs = [.ref a] ∧ (SqT T.K H a us ∨ SqL T.K H a us) ∧ Reps T H G (ns.map .int) us ∧ g ns = some (.int m) ∧ Q (.int m) H
theorem cr_maxD {lvl : Nat} (hK : T.K = X.K) (hr : L2H.RoomH lvl X.A) (hc : X.calm = true) : CallR X (.builtin "max") (rExt T maxI) := by
  intro pins s σ H xs us Q I rv ⟨a, G, ns, ws, m, e, hs, r, em, q⟩
  subst e
  cases ns with
  | nil => cases em
  | cons n ns =>
    have em : ns.foldl max n = m := by
      cases em
      rfl
    rw [Vals.ref1 rv]
    have hd := deep_is (k := X.A.units + 1) n ns (by have := hr.un; omega)
    rw [hK] at hs
    rcases hs with hs | hs
    · obtain ⟨its, r2, hl⟩ := tup_of I hs
      obtain ⟨as, rs⟩ := reads_ints hK I r r2
      refine PySem.W.max_tuple_data (I.ok.hd hc) hl rs (alike_is (n :: ns)) hd fun i v h' tk bs _ rd hk => ?_
      rw [PySem.W.maxD_ints, em] at rd
      obtain ⟨t, rfl⟩ := reads_int_of rd
      exact ⟨.int m, H, I.kept hk, ⟨_, rfl⟩, q⟩
    · obtain ⟨its, r2, hl, _⟩ := I.list hs
      obtain ⟨as, rs⟩ := reads_ints hK I r r2
      refine PySem.W.max_list_data (I.ok.hd hc) hl.isList rs (alike_is (n :: ns)) hd fun i v h' tk bs _ rd hk => ?_
      rw [PySem.W.maxD_ints, em] at rd
      obtain ⟨t, rfl⟩ := reads_int_of rd
      exact ⟨.int m, H, I.kept hk, ⟨_, rfl⟩, q⟩
theorem cr_minD {lvl : Nat} (hK : T.K = X.K) (hr : L2H.RoomH lvl X.A) (hc : X.calm = true) : CallR X (.builtin "min") (rExt T minI) := by
  intro pins s σ H xs us Q I rv ⟨a, G, ns, ws, m, e, hs, r, em, q⟩
  subst e
  cases ns with
  | nil => cases em
  | cons n ns =>
    have em : ns.foldl min n = m := by
      cases em
      rfl
    rw [Vals.ref1 rv]
    have hd := deep_is (k := X.A.units + 1) n ns (by have := hr.un; omega)
    rw [hK] at hs
    rcases hs with hs | hs
    · obtain ⟨its, r2, hl⟩ := tup_of I hs
      obtain ⟨as, rs⟩ := reads_ints hK I r r2
      refine PySem.W.min_tuple_data (I.ok.hd hc) hl rs (alike_is (n :: ns)) hd fun i v h' tk bs _ rd hk => ?_
      rw [PySem.W.minD_ints, em] at rd
      obtain ⟨t, rfl⟩ := reads_int_of rd
      exact ⟨.int m, H, I.kept hk, ⟨_, rfl⟩, q⟩
    · obtain ⟨its, r2, hl, _⟩ := I.list hs
      obtain ⟨as, rs⟩ := reads_ints hK I r r2
      refine PySem.W.min_list_data (I.ok.hd hc) hl.isList rs (alike_is (n :: ns)) hd fun i v h' tk bs _ rd hk => ?_
      rw [PySem.W.minD_ints, em] at rd
      obtain ⟨t, rfl⟩ := reads_int_of rd
      exact ⟨.int m, H, I.kept hk, ⟨_, rfl⟩, q⟩
theorem maxI_int {ns : List Int} {r : D} (h : maxI ns = some r) : ∃ m, r = .int m := by
  cases ns <;> cases h
  exact ⟨_, rfl⟩
theorem minI_int {ns : List Int} {r : D} (h : minI ns = some r) : ∃ m, r = .int m := by
  cases ns <;> cases h
  exact ⟨_, rfl⟩

/-! ### sorted(xs) -/
theorem reads_one (hK : T.K = X.K) (I : Inv X pins σ H s) {G : Wd} {d : D} {v : V} {u : Value} (p : plain d = true) (r : Rep T H G d v) (rv : RelV v u) : ∃ as, Reads s.heap u (toPy d) as := by
  have h := (Rep.dp p r).1
  rw [hK] at h
  exact Dp.reads I _ _ _ h rv
theorem each_of (hK : T.K = X.K) (I : Inv X pins σ H s) {G : Wd} : ∀ {ds : List D} {us : List V} {its : List Value}, (∀ d ∈ ds, plain d = true) → Reps T H G ds us → Vals us its →
    PySem.W.EachIs (fun u d => ∃ v, RelV v u ∧ Rep T H G d v) its ds ∧ PySem.W.EachIs (fun u d => ∃ as, Reads s.heap u (toPy d) as) its ds
  | [], us, its, _, h, rv => by
    obtain rfl := h
    cases rv
    exact ⟨.nil, .nil⟩
  | d :: ds, us, its, p, h, rv => by
    obtain ⟨v, vs, e, r, rs⟩ := h
    subst e
    cases rv with
    | cons r1 r2 =>
      obtain ⟨h1, h2⟩ := each_of hK I (fun d hd => p d (List.mem_cons_of_mem _ hd)) rs r2
      exact ⟨.cons ⟨v, r1, r⟩ h1, .cons (reads_one hK I (p d List.mem_cons_self) r r1) h2⟩
theorem of_each {G : Wd} : ∀ {ds : List D} {its : List Value}, PySem.W.EachIs (fun u d => ∃ v, RelV v u ∧ Rep T H G d v) its ds → ∃ us, Vals us its ∧ Reps T H G ds us
  | _, _, .nil => ⟨[], .nil, rfl⟩
  | _, _, .cons ⟨v, r1, r⟩ t => by
    obtain ⟨us, h1, h2⟩ := of_each t
    exact ⟨v :: us, .cons r1 h1, v, us, rfl, r, h2⟩
end
def rSortD (T : Tb) : List V → Hp → VK → Prop := fun vs H Q => ∃ (a : Addr) (G : Wd) (ds : List D) (us : List V), vs = [.ref a] ∧ SqL T.K H a us ∧ Reps T H G ds us ∧ sorOk ds = true ∧
  ∀ (ws : List V) (p : Addr), Reps T H G (sortD ds) ws → H p = none → Q (.ref p) (upd H p (.lst ws))
theorem cr_sortD {lvl : Nat} (hK : T.K = X.K) (hr : L2H.RoomH lvl X.A) : CallR X (.builtin "sorted") (rSortD T) := by
  intro pins s σ H xs us Q I rv ⟨a, G, ds, ws, e, hs, r, ok, q⟩
  subst e
  rw [Vals.ref1 rv]
  rw [hK] at hs
  obtain ⟨its, r2, hl, hz⟩ := I.list hs
  simp only [sorOk, Bool.and_eq_true, Bool.or_eq_true, List.all_eq_true, decide_eq_true_eq, flatD] at ok
  obtain ⟨⟨⟨h1, h2⟩, h3⟩, h4⟩ := ok
  obtain ⟨e1, e2⟩ := each_of hK I (fun d hd => (h2 d hd).1) r r2
  have hal : PySem.W.AllAlike (ds.map toPy) := by
    intro d hd d' hd'
    obtain ⟨x, hx, rfl⟩ := List.mem_map.mp hd
    obtain ⟨y, hy, rfl⟩ := List.mem_map.mp hd'
    exact h1 x hx y hy
  have hk : PySem.W.Sortable (ds.map toPy) := by
    rcases h3 with h3 | h3
    · left
      intro d hd
      obtain ⟨x, hx, rfl⟩ := List.mem_map.mp hd
      have := h3 x hx
      unfold tupN at this
      split at this
      · exact ⟨_, _, by simp only [toPy, toPys]; rfl⟩
      · cases this
    · right
      intro d hd
      obtain ⟨x, hx, rfl⟩ := List.mem_map.mp hd
      have := h3 x hx
      unfold notTN at this
      split at this <;> first | cases this; done | skip
      all_goals exact ⟨by simp [toPy], by simp [toPy]⟩
  have hL : ds.length ≤ sizeLine := by rw [sizeLine_eq]; omega
  refine PySem.W.sorted_data hl.isList e1 e2 hal hk hL (fun b hb => ?_) fun out hn ho => ?_
  · have := (h2 b hb).2
    have := hr.un
    omega
  · obtain ⟨ws', rw', rr⟩ := of_each ho
    obtain ⟨ep, he'⟩ := PyProof.Rows.sortedAll_at s.heap its out.toArray
    have hlen : ws'.length ≤ sizeLine := by rw [rw'.length, hn]; exact hL
    exact ⟨.ref _, upd H (s.heap.objs.size + 1) (.lst ws'), I.laid (t' := s.toks) (fun _ _ => PyProof.Rows.sortedAll_old) (Nat.le_succ _) ⟨hlen, out, ep, rw', he'⟩, rfl, q _ _ rr (I.hok.fresh (Nat.le_succ _))⟩

/-! ### xs.count(x), xs.index(x) -/
theorem depthAll_le : ∀ {ds : List D} {n : Nat}, (∀ d ∈ ds, (toPy d).depth ≤ n) → PyData.depthAll (toPys ds) ≤ n
  | [], _, _ => by simp [toPys, PyData.depthAll]
  | d :: ds, n, h => by
    have h1 := h d List.mem_cons_self
    have h2 := depthAll_le fun x hx => h x (List.mem_cons_of_mem _ hx)
    simp only [toPys, PyData.depthAll]
    omega
theorem plains_of : ∀ {ds : List D}, (∀ d ∈ ds, plain d = true) → plains ds = true
  | [], _ => rfl
  | d :: ds, h => by
    simp only [plains, Bool.and_eq_true]
    exact ⟨h d List.mem_cons_self, plains_of fun x hx => h x (List.mem_cons_of_mem _ hx)⟩
theorem countP_toPys (d : D) (ds : List D) : ((toPys ds).countP fun y => PyData.eqv y (toPy d)) = ds.countP fun y => eqD y d := by
  rw [toPys_map, List.countP_map]
  rfl
theorem same_ok {d : D} {ds : List D} (h : sameD d ds = true) : plain d = true ∧ plains ds = true ∧ (toPy d).depth ≤ 20 ∧ PyData.depthAll (toPys ds) ≤ 20 := by
  simp only [sameD, flatD, Bool.and_eq_true, List.all_eq_true, decide_eq_true_eq] at h
  exact ⟨h.1.1, plains_of fun d hd => (h.2 d hd).1, h.1.2, depthAll_le fun d hd => (h.2 d hd).2⟩
section
variable {pins : List (Addr × Obj)} {σ : L2.St} {H : Hp} {s : Shared}
/-- the i-th item is the i-th datum -/
theorem item_at {h : Heap} {its : List Value} {ds : List PyData} {as : List Addr} (rs : ReadsAll h its ds as) (hx : PyData.canLayAll0 ds = true) (m : Nat) (hm : m < its.toArray.size) : ∃ h2 : m < ds.length, SeqAt.readOf h its.toArray[m] = ds[m] := by
  have hmap : its.map (SeqAt.readOf h) = ds := SeqAt.readsAll_map ds its as hx rs
  subst hmap
  have hm' : m < its.length := by simpa using hm
  exact ⟨by simpa using hm', by simp⟩
end
theorem mt_cntD {lvl : Nat} (hK : T.K = X.K) (hr : L2H.RoomH lvl X.A) : MtR X "list.count" (fun x vs H Q => ∃ a y G ds us d, x = .ref a ∧ vs = [y] ∧ Reps T H G ds us ∧ RdD T H G d y ∧ sameD d ds = true ∧ SqL T.K H a us ∧ Q (.int ((ds.countP fun y => eqD y d : Nat) : Int)) H) := by
  intro pins s σ H x xs v us Q I rx rxs ⟨a, y, G, ds, ws, d, e1, e2, r, ry, ok, hs, q⟩
  subst e1 e2
  cases rx
  obtain ⟨u, rfl, ru⟩ := rxs.one
  obtain ⟨p1, p2, p3, p4⟩ := same_ok ok
  have hd := RdD.dp p1 ry
  have hds := Reps.dp p2 r
  rw [hK] at hs hd hds
  obtain ⟨bs, rd⟩ := Dp.reads I _ _ _ hd.1 ru
  obtain ⟨its, rv, ⟨⟨cls, dd, data, sl⟩, n, ho, hc, hdn, hdd⟩, hlen⟩ := I.list hs
  simp only at hc hdd
  subst hc hdd
  obtain ⟨as, rs⟩ := Dp.readsAll I _ _ its hds.1 rv
  have hu : X.A.units + 1 + min (PyData.depthAll (toPys ds)) (toPy d).depth < cLine := by
    have := hr.un
    have := Nat.min_le_right (PyData.depthAll (toPys ds)) (toPy d).depth
    omega
  refine call_meets PySem.F.slot_list_count ⟨_, ho, rfl⟩ PySem.F.entry_list_count (PySem.F.args_list_count_2 _ _)
    (SeqAt.list_countAt a its.toArray n dd sl u (fun v => PyData.eqv (SeqAt.readOf s.heap v) (toPy d))) ⟨ho, SeqAt.items_eqAt (vs := its.toArray) (show ReadsAll s.heap its.toArray.toList _ as from rs) rd hds.2 hd.2 hu, ?_⟩
  have hmap : its.map (SeqAt.readOf s.heap) = toPys ds := SeqAt.readsAll_map _ its as hds.2 rs
  have ec : its.toArray.toList.countP (fun v => PyData.eqv (SeqAt.readOf s.heap v) (toPy d)) = ds.countP fun y => eqD y d := by
    rw [← countP_toPys, ← hmap, List.countP_map]
    rfl
  refine ⟨.int _, H, I.tok _, ⟨s.toks, ?_⟩, q⟩
  show Value.int ((its.toArray.toList.countP _ : Nat) : Int) s.toks = _
  rw [ec]
theorem find_toPys {d : D} {ds : List D} {j : Nat} (h : (ds.findIdx? fun y => eqD y d) = some j) : ∃ hj : j < ds.length, eqD ds[j] d = true ∧ ∀ m (hm : m < j), eqD (ds[m]'(by omega)) d = false := by
  obtain ⟨h1, h2, h3⟩ := List.findIdx?_eq_some_iff_getElem.mp h
  exact ⟨h1, h2, fun m hm => by simpa using h3 m hm⟩
theorem mt_idxD {lvl : Nat} (hK : T.K = X.K) (hr : L2H.RoomH lvl X.A) : MtR X "list.index" (fun x vs H Q => ∃ a y G ds us d j, x = .ref a ∧ vs = [y] ∧ Reps T H G ds us ∧ RdD T H G d y ∧ sameD d ds = true ∧ (ds.findIdx? fun y => eqD y d) = some j ∧ SqL T.K H a us ∧ Q (.int (j : Nat)) H) := by
  intro pins s σ H x xs v us Q I rx rxs ⟨a, y, G, ds, ws, d, j, e1, e2, r, ry, ok, hj, hs, q⟩
  subst e1 e2
  cases rx
  obtain ⟨u, rfl, ru⟩ := rxs.one
  obtain ⟨p1, p2, p3, p4⟩ := same_ok ok
  have hd := RdD.dp p1 ry
  have hds := Reps.dp p2 r
  rw [hK] at hs hd hds
  obtain ⟨bs, rd⟩ := Dp.reads I _ _ _ hd.1 ru
  obtain ⟨its, rv, ⟨⟨cls, dd, data, sl⟩, n, ho, hc, hdn, hdd⟩, hlen⟩ := I.list hs
  simp only at hc hdd
  subst hc hdd
  obtain ⟨as, rs⟩ := Dp.readsAll I _ _ its hds.1 rv
  have hu : X.A.units + 1 + min (PyData.depthAll (toPys ds)) (toPy d).depth < cLine := by
    have := hr.un
    have := Nat.min_le_right (PyData.depthAll (toPys ds)) (toPy d).depth
    omega
  obtain ⟨f1, f2, f3⟩ := find_toPys hj
  have hrl := r.length
  have hvl := rv.length
  have hsl := sizeLine_eq
  have at_ : ∀ (m : Nat) (hm : m < its.toArray.size) (h2 : m < ds.length), PyData.eqv (SeqAt.readOf s.heap its.toArray[m]) (toPy d) = eqD ds[m] d := by
    intro m hm h2
    obtain ⟨h3, h4⟩ := item_at rs hds.2 m hm
    rw [h4]
    simp only [toPys_map, List.getElem_map]
    rfl
  refine call_meets PySem.F.slot_list_index ⟨_, ho, rfl⟩ PySem.F.entry_list_index (PySem.F.args_list_index_2 _ _)
    (SeqAt.list_indexAt a its.toArray n dd sl u (fun v => PyData.eqv (SeqAt.readOf s.heap v) (toPy d)) j (by simp only [List.size_toArray]; omega) (by omega) ?_ ?_) ⟨ho, SeqAt.items_eqAt (vs := its.toArray) (show ReadsAll s.heap its.toArray.toList _ as from rs) rd hds.2 hd.2 hu, ⟨.int (j : Nat), H, I.tok _, ⟨_, rfl⟩, q⟩⟩
  · show PyData.eqv _ _ = true
    rw [at_ j _ f1]
    exact f2
  · intro m hm hmj
    show PyData.eqv _ _ = false
    rw [at_ m hm (by omega)]
    exact f3 m hmj
end
section
variable {X : Cx} {T : Tb}
/-! ### built-ins of one and two arguments -/
def rB1 (T : Tb) (f : B1) : List V → Hp → VK → Prop := fun vs H Q => ∃ x G d r, vs = [x] ∧ Sim T H G ∧ RdD T H G d x ∧ b1D f d = some r ∧ After T H G r Q
def rB2 (T : Tb) (f : B2) : List V → Hp → VK → Prop := fun vs H Q => ∃ x y G d e r, vs = [x, y] ∧ Sim T H G ∧ RdD T H G d x ∧ RdD T H G e y ∧ b2D f d e = some r ∧ After T H G r Q
theorem reps_bls {H : Hp} {G : Wd} : ∀ {ds : List D} {us : List V} {bs : List Bool}, dBls ds = some bs → Reps T H G ds us → us = bs.map V.bl
  | [], us, bs, h, r => by
    cases h
    exact r
  | d :: ds, us, bs, h, ⟨v, vs, e, r, rs⟩ => by
    cases d with
    | bl b =>
      simp only [dBls] at h
      cases q : dBls ds with
      | none => rw [q] at h; cases h
      | some cs =>
        rw [q] at h
        cases h
        rw [e, reps_bls q rs, show v = .bl b from r]
        rfl
    | _ => cases h
theorem reps_ints {H : Hp} {G : Wd} : ∀ {ds : List D} {us : List V} {ns : List Int}, dInts ds = some ns → Reps T H G ds us → us = ns.map V.int
  | [], us, ns, h, r => by
    cases h
    exact r
  | d :: ds, us, ns, h, ⟨v, vs, e, r, rs⟩ => by
    cases d with
    | int i =>
      simp only [dInts] at h
      cases q : dInts ds with
      | none => rw [q] at h; cases h
      | some cs =>
        rw [q] at h
        cases h
        rw [e, reps_ints q rs, show v = .int i from r]
        rfl
    | _ => cases h
def b1V : B1 → Value
  | .len => .builtin "len" | .int => .type "int" | .all => .builtin "all" | .any => .builtin "any" | .sum => .builtin "sum"
  | .tuple => .type "tuple" | .list => .type "list" | .sorted => .builtin "sorted" | .min => .builtin "min" | .max => .builtin "max" | .str => .type "str"
  | .range => .type "range" | _ => .none
theorem b1_sound {lvl : Nat} (hK : T.K = X.K) (hr : L2H.RoomH lvl X.A) (hc : X.calm = true) (f : B1) : CallR X (b1V f) (rB1 T f) := by
  intro pins s σ H xs us Q I rv h
  obtain ⟨x, G, d, r, rfl, S, hd, ho, q⟩ := h
  unfold b1D at ho
  split at ho
  · cases ho
    obtain ⟨a, ws, e1, t1, r1⟩ := RdD.tup hd
    subst e1
    exact call_len_seq pins s σ H _ us Q I rv ⟨a, ws, rfl, .inr (hK ▸ t1), by rw [r1.length]; exact q.same S rfl⟩
  · cases ho
    obtain ⟨a, ws, e1, t1, r1⟩ := RdD.lst hd
    subst e1
    exact call_len_seq pins s σ H _ us Q I rv ⟨a, ws, rfl, .inl (hK ▸ t1), by rw [r1.length]; exact q.same S rfl⟩
  · cases ho
    obtain ⟨a, ws, e1, t1, r1⟩ := RdD.kst hd
    subst e1
    exact call_len_seq pins s σ H _ us Q I rv ⟨a, ws, rfl, .inl (hK ▸ t1), by rw [r1.length]; exact q.same S rfl⟩
  · rename_i z
    split at ho
    · rename_i hz
      cases ho
      exact call_len pins s σ H _ us Q I rv ⟨.str z, z.length, by rw [show x = .str z from hd.1], (show LenV X.K (.str z) H z.length from ⟨hz, rfl⟩), q.same S rfl⟩
    · cases ho
  · cases ho
    exact call_int1 pins s σ H _ us Q I rv (.inl ⟨_, by rw [show x = _ from hd], q.same S rfl⟩)
  · cases ho
    exact call_int1 pins s σ H _ us Q I rv (.inr ⟨_, by rw [show x = _ from hd], q.same S rfl⟩)
  · rename_i z
    split at ho
    · rename_i hz
      cases hn : PySem.intText? z with
      | none => rw [hn] at ho; cases ho
      | some n =>
        rw [hn] at ho
        cases ho
        exact call_int_str pins s σ H _ us Q I rv ⟨z, n, by rw [show x = .str z from hd.1], hn, hz, q.same S rfl⟩
    · cases ho
  · rename_i xs
    obtain ⟨a, ws, e1, t1, r1⟩ := RdD.lst hd
    subst e1
    cases p : dBls xs with
    | none => rw [p] at ho; cases ho
    | some bs =>
      rw [p] at ho
      cases ho
      exact cr_all hc pins s σ H _ us Q I rv ⟨a, bs, rfl, by rw [← reps_bls p r1]; exact hK ▸ t1, q.same S rfl⟩
  · rename_i xs
    obtain ⟨a, ws, e1, t1, r1⟩ := RdD.lst hd
    subst e1
    cases p : dBls xs with
    | none => rw [p] at ho; cases ho
    | some bs =>
      rw [p] at ho
      cases ho
      exact cr_any hc pins s σ H _ us Q I rv ⟨a, bs, rfl, by rw [← reps_bls p r1]; exact hK ▸ t1, q.same S rfl⟩
  · rename_i xs
    obtain ⟨a, ws, e1, t1, r1⟩ := RdD.lst hd
    subst e1
    cases p : dInts xs with
    | none => rw [p] at ho; cases ho
    | some ns =>
      rw [p] at ho
      cases ho
      exact cr_sum hc pins s σ H _ us Q I rv ⟨a, ns, rfl, by rw [← reps_ints p r1]; exact hK ▸ t1, q.same S rfl⟩
  · rename_i xs
    obtain ⟨a, ws, e1, t1, r1⟩ := RdD.tup hd
    subst e1
    cases p : dInts xs with
    | none => rw [p] at ho; cases ho
    | some ns =>
      rw [p] at ho
      cases ho
      exact cr_sumT hc pins s σ H _ us Q I rv ⟨a, ns, rfl, by rw [← reps_ints p r1]; exact hK ▸ t1, q.same S rfl⟩
  · rename_i xs
    obtain ⟨a, ws, e1, t1, r1⟩ := RdD.lst hd
    subst e1
    cases p : dInts xs with
    | none => rw [p] at ho; cases ho
    | some ns =>
      rw [p] at ho
      obtain ⟨m, e⟩ := maxI_int ho
      subst e
      exact cr_maxD hK hr hc pins s σ H _ us Q I rv ⟨a, G, ns, ws, m, rfl, .inr t1, dInts_eq p ▸ r1, ho, q.same S rfl⟩
  · rename_i xs
    obtain ⟨a, ws, e1, t1, r1⟩ := RdD.tup hd
    subst e1
    cases p : dInts xs with
    | none => rw [p] at ho; cases ho
    | some ns =>
      rw [p] at ho
      obtain ⟨m, e⟩ := maxI_int ho
      subst e
      exact cr_maxD hK hr hc pins s σ H _ us Q I rv ⟨a, G, ns, ws, m, rfl, .inl t1, dInts_eq p ▸ r1, ho, q.same S rfl⟩
  · rename_i xs
    obtain ⟨a, ws, e1, t1, r1⟩ := RdD.lst hd
    subst e1
    cases p : dInts xs with
    | none => rw [p] at ho; cases ho
    | some ns =>
      rw [p] at ho
      obtain ⟨m, e⟩ := minI_int ho
      subst e
      exact cr_minD hK hr hc pins s σ H _ us Q I rv ⟨a, G, ns, ws, m, rfl, .inr t1, dInts_eq p ▸ r1, ho, q.same S rfl⟩
  · rename_i xs
    obtain ⟨a, ws, e1, t1, r1⟩ := RdD.tup hd
    subst e1
    cases p : dInts xs with
    | none => rw [p] at ho; cases ho
    | some ns =>
      rw [p] at ho
      obtain ⟨m, e⟩ := minI_int ho
      subst e
      exact cr_minD hK hr hc pins s σ H _ us Q I rv ⟨a, G, ns, ws, m, rfl, .inl t1, dInts_eq p ▸ r1, ho, q.same S rfl⟩
  · cases ho
    obtain ⟨a, ws, e1, t1, r1⟩ := RdD.lst hd
    subst e1
    exact call_tuple_of pins s σ H _ us Q I rv ⟨a, ws, rfl, .inl ⟨hK ▸ t1, q.newT S r1⟩⟩
  · cases ho
    obtain ⟨a, ws, e1, t1, r1⟩ := RdD.kst hd
    subst e1
    exact call_tuple_of pins s σ H _ us Q I rv ⟨a, ws, rfl, .inl ⟨hK ▸ t1, q.newT S r1⟩⟩
  · cases ho
    obtain ⟨a, ws, e1, t1, r1⟩ := RdD.tup hd
    subst e1
    exact call_tuple_of pins s σ H _ us Q I rv ⟨a, ws, rfl, .inr ⟨hK ▸ t1, q.same S hd⟩⟩
  · cases ho
    obtain ⟨a, ws, e1, t1, r1⟩ := RdD.lst hd
    subst e1
    exact call_list_of pins s σ H _ us Q I rv ⟨a, ws, rfl, .inl (hK ▸ t1), q.newL S r1⟩
  · cases ho
    obtain ⟨a, ws, e1, t1, r1⟩ := RdD.kst hd
    subst e1
    exact call_list_of pins s σ H _ us Q I rv ⟨a, ws, rfl, .inl (hK ▸ t1), q.newL S r1⟩
  · cases ho
    obtain ⟨a, ws, e1, t1, r1⟩ := RdD.tup hd
    subst e1
    exact call_list_of pins s σ H _ us Q I rv ⟨a, ws, rfl, .inr (hK ▸ t1), q.newL S r1⟩
  · cases ho
def b2V : B2 → Value
  | .min => .builtin "min" | .max => .builtin "max" | .range => .type "range"
theorem b2_sound (hK : T.K = X.K) (hc : X.calm = true) (f : B2) : CallR X (b2V f) (rB2 T f) := by
  intro pins s σ H xs us Q I rv h
  obtain ⟨x, y, G, d, e, r, rfl, S, hd, he, ho, q⟩ := h
  unfold b2D at ho
  split at ho
  · cases ho
    exact call_min2 hc pins s σ H _ us Q I rv ⟨_, _, by rw [show x = _ from hd, show y = _ from he], q.same S rfl⟩
  · cases ho
    exact call_max2 hc pins s σ H _ us Q I rv ⟨_, _, by rw [show x = _ from hd, show y = _ from he], q.same S rfl⟩
  · cases ho

/-! ### a[i], a[lo:hi] -/
def rIxD (T : Tb) : R2 := fun x y H Q => ∃ G d k r, Sim T H G ∧ RdD T H G d x ∧ y = .int k ∧ idxD d k = some r ∧ After T H G r Q
theorem atI_rep {H : Hp} {G : Wd} {ds : List D} {us : List V} {k : Int} {r : D} (h : atI ds k = some r) (rs : Reps T H G ds us) : ∃ v, atI us k = some v ∧ Rep T H G r v := by
  unfold atI at h ⊢
  rw [rs.length]
  cases q : ixN ds.length k with
  | none => rw [q] at h; cases h
  | some j =>
    rw [q] at h
    exact rs.get h
theorem ix_sound (hK : T.K = X.K) : IxR X (rIxD T) := by
  intro value slice pins s σ H x y v u Q I rx ry h hsub
  obtain ⟨G, d, k, r, S, hd, ek, ho, q⟩ := h
  unfold idxD at ho
  split at ho
  · rename_i z
    split at ho
    · rename_i hz
      obtain ⟨c, hc, h2⟩ := Option.bind_eq_some_iff.mp ho
      unfold txtD at h2
      split at h2
      · rename_i ok
        cases h2
        have hd' : x = .str z := hd.1
        exact ix_str value slice pins s σ H x y v u Q I rx ry ⟨z, k, c, hd', ek, hz, hc, q.same S ⟨rfl, ok⟩⟩ hsub
      · cases h2
    · cases ho
  · obtain ⟨a, ws, e1, t1, r1⟩ := RdD.tup hd
    obtain ⟨w, h1, h2⟩ := atI_rep ho r1
    exact ix_tup value slice pins s σ H x y v u Q I rx ry ⟨a, ws, k, w, e1, ek, hK ▸ t1, h1, q.same S h2⟩ hsub
  · obtain ⟨a, ws, e1, t1, r1⟩ := RdD.lst hd
    obtain ⟨w, h1, h2⟩ := atI_rep ho r1
    exact ix_list value slice pins s σ H x y v u Q I rx ry ⟨a, ws, k, w, e1, ek, hK ▸ t1, h1, q.same S h2⟩ hsub
  · obtain ⟨a, ws, e1, t1, r1⟩ := RdD.kst hd
    obtain ⟨w, h1, h2⟩ := atI_rep ho r1
    exact ix_list value slice pins s σ H x y v u Q I rx ry ⟨a, ws, k, w, e1, ek, hK ▸ t1, h1, q.same S h2⟩ hsub
  · cases ho
def rSlD (T : Tb) : V → Option Int → Option Int → Hp → VK → Prop := fun x lo hi H Q => ∃ G d r, Sim T H G ∧ RdD T H G d x ∧ slD d lo hi = some r ∧ After T H G r Q
theorem Reps.cut {H : Hp} {G : Wd} {ds : List D} {us : List V} (lo hi : Option Int) (r : Reps T H G ds us) : Reps T H G (Br.cut ds lo hi) (cutV us lo hi) := by
  unfold Br.cut cutV
  rw [r.length]
  exact (r.drop _).take _
theorem sl_sound (hK : T.K = X.K) : SlR X (rSlD T) := by
  intro pins s σ H x v vl vu lo hi sl Q I rx hs pl pu h
  obtain ⟨G, d, r, S, hd, ho, q⟩ := h
  unfold slD at ho
  split at ho
  · rename_i z
    split at ho
    · rename_i hz
      unfold txtD at ho
      split at ho
      · rename_i ok
        cases ho
        have hd' : x = .str z := hd.1
        exact sl_str pins s σ H x v vl vu lo hi sl Q I rx hs pl pu ⟨z, hd', hz, q.same S ⟨rfl, ok⟩⟩
      · cases ho
    · cases ho
  · cases ho
    rename_i xs
    obtain ⟨a, ws, e1, t1, r1⟩ := RdD.tup hd
    refine sl_tupA pins s σ H x v vl vu lo hi sl Q I rx hs pl pu ⟨a, ws, e1, hK ▸ t1, fun hw => ?_, fun _ => q.newT S (r1.cut lo hi)⟩
    have hc : Br.cut xs lo hi = xs := by
      unfold Br.cut
      rw [r1.length] at hw
      rw [hw.1, hw.2, List.drop_zero, Nat.sub_zero, List.take_length]
    rw [hc] at q
    rw [e1] at hd
    exact q.same S hd
  · cases ho
    obtain ⟨a, ws, e1, t1, r1⟩ := RdD.lst hd
    exact sl_list pins s σ H x v vl vu lo hi sl Q I rx hs pl pu ⟨a, ws, e1, hK ▸ t1, q.newL S (r1.cut lo hi)⟩
  · cases ho
    obtain ⟨a, ws, e1, t1, r1⟩ := RdD.kst hd
    exact sl_list pins s σ H x v vl vu lo hi sl Q I rx hs pl pu ⟨a, ws, e1, hK ▸ t1, q.newL S (r1.cut lo hi)⟩
  · cases ho

/-! ### isinstance(x, T) -/
def tyN : Ty → String
  | .int => "int" | .bool => "bool" | .tuple => "tuple" | .list => "list" | .str => "str" | .dict => "dict"
def dTy : D → String
  | .non => "NoneType" | .bl _ => "bool" | .int _ => "int" | .str _ => "str" | .tup _ => "tuple" | .lst _ => "list" | .kst _ => "list" | .dct => "dict" | .fn _ => "function" | .xc _ _ => "function"
theorem kit_all : ∀ (n : String) (t : Ty), n ∈ ["NoneType", "bool", "int", "str", "tuple", "list", "dict"] →
    kitB n (tyN t) = some (n == tyN t || (n == "bool" && tyN t == "int")) := by
  intro n t h
  simp only [List.mem_cons, List.not_mem_nil, or_false] at h
  rcases h with rfl | rfl | rfl | rfl | rfl | rfl | rfl <;> cases t <;> decide +kernel
theorem isi_ty {d : D} {t : Ty} {b : Bool} (h : isiD d t = some b) : dTy d ∈ ["NoneType", "bool", "int", "str", "tuple", "list", "dict"] ∧ (dTy d == tyN t || (dTy d == "bool" && tyN t == "int")) = b := by
  cases d <;> simp only [isiD] at h <;> first | (cases h; done) | skip
  all_goals (cases h; refine ⟨by simp [dTy], ?_⟩; cases t <;> rfl)
theorem rd_ty {H : Hp} {G : Wd} {d : D} {v : V} (hd : RdD T H G d v) (h : dTy d ∈ ["NoneType", "bool", "int", "str", "tuple", "list", "dict"]) : TyX T.K H v (.type (dTy d)) := by
  cases d with
  | non => rw [show v = .non from hd]; exact .base .non
  | bl b => rw [show v = .bl b from hd]; exact .base (.bl b)
  | int i => rw [show v = .int i from hd]; exact .base (.int i)
  | str s => rw [(show v = .str s ∧ _ from hd).1]; exact .base (.str s)
  | tup ds =>
    obtain ⟨a, us, e, t, _⟩ := hd
    subst e
    rcases t with ⟨t | ⟨o, t⟩, _⟩ | ⟨o, its, n, k, c, _⟩
    · exact .base (.tup t)
    · exact .fTuple t
    · exact .kTuple k c
  | lst ds =>
    obtain ⟨a, us, e, t, _⟩ := hd
    subst e
    exact .base (.lst t)
  | kst ds =>
    obtain ⟨a, us, e, t, _⟩ := hd
    subst e
    rcases t with ⟨t | ⟨o, t⟩, _⟩ | ⟨o, its, n, k, c, _⟩
    · exact .base (.lst t)
    · exact .base (.frz t)
    · exact .kList k c
  | dct =>
    obtain ⟨a, e, t, _⟩ := hd
    subst e
    rcases t with t | ⟨o, t⟩
    · exact .base (.dK t)
    · exact .fDict t
  | fn k => simp [dTy] at h
  | xc c fs => simp [dTy] at h
def rIsiD (T : Tb) (t : Ty) : List V → Hp → VK → Prop := fun vs H Q => ∃ x G d b, vs = [x, .ty (tyN t)] ∧ Sim T H G ∧ RdD T H G d x ∧ isiD d t = some b ∧ Q (.bl b) H
theorem isi_sound (hK : T.K = X.K) (t : Ty) : CallR X (.builtin "isinstance") (rIsiD T t) := by
  intro pins s σ H xs us Q I rv h
  obtain ⟨x, G, d, b, rfl, S, hd, ho, q⟩ := h
  obtain ⟨h1, h2⟩ := isi_ty ho
  refine call_isi pins s σ H _ us Q I rv ⟨x, .ty (tyN t), .type (dTy d), .type (tyN t), b, rfl, .ty _, hK ▸ rd_ty hd h1, kit_ty ?_, q⟩
  rw [kit_all _ _ h1, h2]
end
end Br

/-! Br3c: sets of a few nested tuples. -/
namespace Br
open PySem PySem.Spec PyProof.Rows L2
theorem lt_sz {h : Heap} {a : Nat} {o : Obj} (e : h.get? a = some o) : a < h.objs.size := Heap.lt_size e
mutual
/-- none, numbers, tuples of such -/
def numK : NestedKey → Bool
  | .text _ => false
  | .tup ks => numsK ks
  | _ => true
def numsK : List NestedKey → Bool
  | [] => true
  | k :: r => numK k && numsK r
end
section
variable {P : Program} {w : World} {A : Around} {E : Value → Shared → Prop}
/-- a question of v that is answered with b, nothing else touched -/
def Asks (P : Program) (w : World) (q : Sem Bool) (s : Shared) (b : Bool) : Prop := ∀ (A : Around) (E : Value → Shared → Prop) (Q : Bool → Shared → Prop), Q b s → wpAny (model P w) A q Q E s
theorem Asks.of_eq {q : Sem Bool} {s : Shared} {b : Bool} (e : q = pure b) : Asks P w q s b := fun A E Q h => by
  rw [e]
  exact wpAny_pure h
mutual
theorem class_key : ∀ (k : NestedKey) (v : Value) (n : Nat) (s : Shared), NestedIs s.heap k v → k.depth ≤ n → Asks P w (ofAClassStatement n v) s false
  | .none, _, n, s, x, _ => by cases x; exact .of_eq (by cases n <;> rfl)
  | .num i, _, n, s, x, _ => by cases x <;> exact .of_eq (by cases n <;> rfl)
  | .text y, _, n, s, x, _ => by cases x; exact .of_eq (by cases n <;> rfl)
  | .tup ks, v, n, s, x, hd => by
    cases x with
    | tup h1 h2 h3 h4 =>
      simp only [NestedKey.depth] at hd
      cases n with
      | zero => omega
      | succ n =>
        intro A E Q q
        have sub := class_keys ks _ n s h4 (by omega)
        unfold ofAClassStatement
        refine wpAny_bind (wpAny_typeOf ⟨_, h1, h2⟩ ?_)
        dsimp only
        have e : (("tuple" : String) == "tuple") = true := by decide
        simp only [e, if_true, Bool.not_true, Bool.false_eq_true, if_false]
        try refine wpAny_bind (wpAny_pure ?_)
        try simp only [Bool.not_true, Bool.false_eq_true, if_false]
        refine wpAny_bind (wpAny_seqItems h1 h3 ?_)
        dsimp only
        refine wpAny_bind ?_
        rw [← Array.forIn_toList]
        refine wpAny_forIn_list _ (fun more r z => r.1 = none ∧ z = s ∧ ∀ u ∈ more, Asks P w (ofAClassStatement n u) s false) _ ?_ ?_ _ _ ⟨rfl, rfl, sub⟩
        · rintro u more r z ⟨_, rfl, each⟩
          refine wpAny_bind (each u List.mem_cons_self _ _ _ ?_)
          simp only [Bool.false_eq_true, if_false]
          exact wpAny_pure ⟨rfl, rfl, fun y hy => each y (List.mem_cons_of_mem _ hy)⟩
        · rintro ⟨r1, r2⟩ z ⟨hr, rfl, _⟩
          dsimp only at hr
          subst hr
          exact wpAny_pure q
theorem class_keys : ∀ (ks : List NestedKey) (vs : List Value) (n : Nat) (s : Shared), NestedAll s.heap ks vs → NestedKey.depthAll ks ≤ n → ∀ v ∈ vs, Asks P w (ofAClassStatement n v) s false
  | [], _, n, s, x, _, v, hv => by cases x; cases hv
  | k :: ks, _, n, s, x, hd, v, hv => by
    cases x with
    | cons x1 x2 =>
      simp only [NestedKey.depthAll] at hd
      rcases List.mem_cons.mp hv with e | hv
      · rw [e]; exact class_key k _ n s x1 (by omega)
      · exact class_keys ks _ n s x2 (by omega) v hv
end
mutual
theorem byval_key : ∀ (k : NestedKey) (v : Value) (n : Nat) (s : Shared), NestedIs s.heap k v → numK k = true → k.depth ≤ n → Asks P w (hashByValue n v) s true
  | .none, _, n, s, x, _, _ => by cases x; exact .of_eq (by cases n <;> rfl)
  | .num i, _, n, s, x, _, _ => by cases x <;> exact .of_eq (by cases n <;> rfl)
  | .text y, _, n, s, x, c, _ => by cases c
  | .tup ks, v, n, s, x, c, hd => by
    cases x with
    | tup h1 h2 h3 h4 =>
      simp only [NestedKey.depth] at hd
      simp only [numK] at c
      cases n with
      | zero => omega
      | succ n =>
        intro A E Q q
        have sub := byval_keys ks _ n s h4 c (by omega)
        unfold hashByValue
        refine wpAny_bind (wpAny_specialOf ⟨_, h1, h2⟩ F.slot_tuple_hash.lookup ?_)
        dsimp only
        refine wpAny_bind (wpAny_seqItems h1 h3 ?_)
        dsimp only [Option.getD]
        refine wpAny_bind ?_
        rw [← Array.forIn_toList]
        refine wpAny_forIn_list _ (fun more r z => r.1 = none ∧ z = s ∧ ∀ u ∈ more, Asks P w (hashByValue n u) s true) _ ?_ ?_ _ _ ⟨rfl, rfl, sub⟩
        · rintro u more r z ⟨_, rfl, each⟩
          refine wpAny_bind (each u List.mem_cons_self _ _ _ ?_)
          simp only [Bool.not_true, Bool.false_eq_true, if_false]
          exact wpAny_pure ⟨rfl, rfl, fun y hy => each y (List.mem_cons_of_mem _ hy)⟩
        · rintro ⟨r1, r2⟩ z ⟨hr, rfl, _⟩
          dsimp only at hr
          subst hr
          exact wpAny_pure q
theorem byval_keys : ∀ (ks : List NestedKey) (vs : List Value) (n : Nat) (s : Shared), NestedAll s.heap ks vs → numsK ks = true → NestedKey.depthAll ks ≤ n → ∀ v ∈ vs, Asks P w (hashByValue n v) s true
  | [], _, n, s, x, _, _, v, hv => by cases x; cases hv
  | k :: ks, _, n, s, x, c, hd, v, hv => by
    cases x with
    | cons x1 x2 =>
      simp only [NestedKey.depthAll] at hd
      simp only [numsK, Bool.and_eq_true] at c
      rcases List.mem_cons.mp hv with e | hv
      · rw [e]; exact byval_key k _ n s x1 c.1 (by omega)
      · exact byval_keys ks _ n s x2 c.2 (by omega) v hv
end
/-- the tuple at a is the key k -/
def Nk (h : Heap) (k : NestedKey) (a : Addr) : Prop := NestedIs h k (.ref a) ∧ k.depth ≤ 8 ∧ numK k = true
theorem Nk.keep {h h' : Heap} {k : NestedKey} {a : Addr} (x : Nk h k a) (kp : ∀ b o, h.get? b = some o → h'.get? b = some o) : Nk h' k a := ⟨NestedIs.at (fun b o _ _ e _ => kp b o e) _ _ x.1, x.2⟩
theorem Nk.kind {h : Heap} {k : NestedKey} {a : Addr} (x : Nk h k a) : (nestedKind P w).is h k a := ⟨x.1, x.2.1⟩
/-- what is put is not the set itself -/
theorem Nk.but {h h' : Heap} {k : NestedKey} {a b : Addr} {o : Obj} {es : Array (Int × Value)} {ep : Nat} {t : SetTable} (x : Nk h k b) (ho : h.get? a = some o) (hd : o.data = .set es ep t) (sb : Heap.SameBut a h h') : Nk h' k b :=
  ⟨NestedIs.at (fun c u vs n e c1 => (sb.2 c fun z => by
    subst z
    rw [ho] at e
    cases e
    rw [hd] at c1
    cases c1).trans e) _ _ x.1, x.2⟩
theorem seen_nk {s : Shared} {k : NestedKey} {b : Addr} {Q : Bool → Shared → Prop} (hk : Nk s.heap k b) {ys : List Value} (hy : ∀ y ∈ ys, ∃ k' c, y = Value.ref c ∧ Nk s.heap k' c) (q : Q false s) :
    wpAny (model P w) A (searchCouldBeSeen (.ref b) ys) Q E s := by
  unfold searchCouldBeSeen
  refine wpAny_bind (wpAny_forIn_list _ (fun more r z => r.1 = none ∧ z = s ∧ ∀ y ∈ more, ∃ k' c, y = Value.ref c ∧ Nk s.heap k' c) _ ?_ ?_ _ _ ⟨rfl, rfl, hy⟩)
  · rintro v more r z ⟨_, rfl, each⟩
    obtain ⟨k', c, rfl, hc⟩ := each v List.mem_cons_self
    have each2 : ∀ y ∈ more, ∃ k' c, y = Value.ref c ∧ Nk z.heap k' c := fun u hu => each u (List.mem_cons_of_mem _ hu)
    dsimp only
    by_cases hv : (b == c || (carriedByValue (.ref b) && carriedByValue (.ref c))) = true
    · exact wp_if_pos hv (wpAny_pure ⟨rfl, rfl, each2⟩)
    · refine wp_if_neg hv (wpAny_bind (quiet_key k _ 8 z hk.1 hk.2.1 _ _ _ ?_))
      simp only [Bool.not_true, Bool.false_eq_true, if_false]
      refine wpAny_bind (quiet_key k' _ 8 z hc.1 hc.2.1 _ _ _ ?_)
      simp only [Bool.not_true, Bool.false_eq_true, if_false]
      refine wpAny_bind (class_key k _ 8 z hk.1 hk.2.1 _ _ _ ?_)
      simp only [Bool.false_eq_true, if_false]
      refine wpAny_bind (class_key k' _ 8 z hc.1 hc.2.1 _ _ _ ?_)
      simp only [Bool.false_eq_true, if_false]
      exact wpAny_pure ⟨rfl, rfl, each2⟩
  · rintro ⟨r1, r2⟩ z ⟨hr, rfl, _⟩
    dsimp only at hr
    subst hr
    exact wpAny_pure q
/-! the set -/
def entN (w : World) (p : Addr × NestedKey) : Int × Value := (p.2.hash w, .ref p.1)
structure NSet (w : World) (h : Heap) (a : Addr) (L : List (Addr × NestedKey)) (es : Array (Int × Value)) (ep : Nat) (t : SetTable) : Prop where
  ob : ∃ o, h.get? a = some o ∧ o.ExactSet ∧ o.data = .set es ep t
  ents : es.toList = L.map (entN w)
  tab : TabOk t (L.map fun p => p.2.hash w)
  diff : (L.map (·.2)).Nodup
  keys : ∀ p ∈ L, Nk h p.2 p.1
  plain : t.plain = true
  led : w.params.followText "set-order" = true ∨ t.led = true
  mask : t.mask = 7
  few : L.length ≤ 4
variable {a : Addr} {L : List (Addr × NestedKey)} {es : Array (Int × Value)} {ep : Nat} {t : SetTable} {s : Shared}
theorem NSet.size {h : Heap} (R : NSet w h a L es ep t) : es.size = L.length := by
  have := congrArg List.length R.ents
  rwa [Array.length_toList, List.length_map] at this
theorem NSet.psz {h : Heap} (R : NSet w h a L es ep t) : t.place.size = L.length := by
  have := R.tab.sz
  rwa [List.length_map] at this
theorem NSet.fits {h : Heap} (R : NSet w h a L es ep t) : t.fits es.size = true := by
  have h1 := R.psz
  have h2 := R.size
  have h3 := R.few
  have h4 := R.mask
  unfold SetTable.fits SetTable.fill
  rw [R.tab.dm, Bool.and_eq_true, beq_iff_eq, decide_eq_true_eq]
  show t.place.size = es.size ∧ t.place.size + 0 ≤ t.mask
  omega
theorem NSet.ent {h : Heap} (R : NSet w h a L es ep t) {i : Nat} {p : Addr × NestedKey} (e : L[i]? = some p) : es[i]? = some (p.2.hash w, .ref p.1) := by
  rw [← Array.getElem?_toList, R.ents, List.getElem?_map, e]
  rfl
theorem NSet.stays {h : Heap} (R : NSet w h a L es ep t) : ¬ t.gaveWay = true := by
  unfold SetTable.gaveWay
  rw [R.mask]
  decide
/-- where the search for h stands after c steps -/
abbrev pr (t : SetTable) (h : Int) (c : Nat) : SetTable.Probe := nth t.mask (t.probeStart h) c
theorem pr_dummy (t : SetTable) (h : Int) : ∀ c, (pr t h c).dummy = none := by
  have step : ∀ (n : Nat) (p : SetTable.Probe), p.dummy = none → (nth t.mask p n).dummy = none := by
    intro n
    induction n with
    | zero => exact fun p e => e
    | succ n ih =>
      intro p e
      refine ih (adv t.mask p) ?_
      unfold adv
      split <;> exact e
  exact fun c => step c _ rfl
theorem NSet.search (R : NSet w s.heap a L es ep t) {x : Addr} {k : NestedKey} (hx : Nk s.heap k x) (room : A.units + 8 < cLine) {K : Nat} (hK : way t.mask (k.hash w) K ∉ t.place.toList)
    (full : ∀ c, c < K → way t.mask (k.hash w) c ∈ t.place.toList) (hKf : K < 10 * SetTable.turns t.mask) {Q : SetFound → Shared → Prop} (yes : k ∈ L.map (·.2) → Q (.there none) s) (no : k ∉ L.map (·.2) → Q (.free (way t.mask (k.hash w) K) false) s) :
    ∀ (f c : Nat) (stand : Option SetTable.Probe), stand.getD (t.probeStart (k.hash w)) = pr t (k.hash w) c → c ≤ K → K - c < f →
      (∀ (i : Nat) p, L[i]? = some p → p.2 = k → ∃ c', c ≤ c' ∧ c' < K ∧ t.place.toList[i]? = some (way t.mask (k.hash w) c')) → wpAny (model P w) A (setSearchFrom a (.ref x) (k.hash w) true f stand) Q E s
  | 0, _, _, _, _, hf, _ => absurd hf (Nat.not_lt_zero _)
  | f + 1, c, stand, est, hc, hf, ahead => by
    obtain ⟨o, ho, _, hd⟩ := R.ob
    rw [setSearchFrom_succ]
    refine wpAny_bind (wpAny_setState_of ho hd R.fits (wp_if_neg R.stays ?_))
    try refine wpAny_bind (wpAny_pure ?_)
    rw [est]
    have at_ : ∀ q, nth t.mask (pr t (k.hash w) c) q = pr t (k.hash w) (c + q) := fun q => (nth_add t.mask c _ q).symm
    have hashes : ∀ (i : Nat) p, L[i]? = some p → (fun i => (es[i]?.map (·.1)).getD 0) i = p.2.hash w := fun i p e => by
      show (es[i]?.map (·.1)).getD 0 = _
      rw [R.ent e]
      rfl
    have found := go_spec t R.tab.ris R.tab.dm (fun i => (es[i]?.map (·.1)).getD 0) (k.hash w) (10 * SetTable.turns t.mask) (K - c) (pr t (k.hash w) c) (pr_dummy t _ c) (by omega)
      (fun q hq => by
        rw [at_]
        exact full (c + q) (by omega))
      (by
        rw [at_, show c + (K - c) = K by omega]
        exact hK)
    rcases found with ⟨q, i, hq, hi, _, none_before, ego⟩ | ⟨none_before, ego⟩
    · rw [show t.probe (fun i => (es[i]?.map (·.1)).getD 0) (k.hash w) (pr t (k.hash w) c) = _ from ego]
      rw [at_] at hi
      simp only [at_]
      have hil : i < L.length := by
        have h1 := (List.getElem?_eq_some_iff.mp hi).1
        rwa [Array.length_toList, R.psz] at h1
      obtain ⟨p, ep1⟩ : ∃ p, L[i]? = some p := ⟨_, List.getElem?_eq_getElem hil⟩
      have hp := List.mem_of_getElem? ep1
      have live : t.slot (way t.mask (k.hash w) (c + q)) = .live i := slot_live R.tab.ris hi
      have go : wpAny (model P w) A (searchRest a (.ref x) (k.hash w) true f es t (pr t (k.hash w) (c + q)).j i (pr t (k.hash w) (c + (q + 1)))) Q E s := by
        unfold searchRest
        rw [R.ent ep1]
        refine wpAny_bind (wpAny_holding ((nestedKind P w).eqBool room (R.keys p hp).kind hx.kind ?_))
        refine wpAny_bind (wpAny_setState_of ho hd R.fits ?_)
        by_cases same : p.2 = k
        · refine wp_if_pos (by simp [same]) (wpAny_pure (yes ?_))
          exact same ▸ List.mem_map.mpr ⟨p, hp, rfl⟩
        · refine wp_if_neg (by simp [same]) ?_
          try refine wpAny_bind (wpAny_pure ?_)
          rw [sameMem]
          simp only [if_true, show t.slot (pr t (k.hash w) (c + q)).j = .live i from live, R.ent ep1]
          refine wpAny_bind (wpAny_isSame_ref_self (wpAny_bind (wpAny_pure ?_)))
          simp only [if_true]
          refine wp_if_neg (by simp [same]) (NSet.search R hx room hK full hKf yes no f (c + (q + 1)) _ rfl (by omega) (by omega) fun i0 p0 e0 k0 => ?_)
          obtain ⟨c', u1, u2, u3⟩ := ahead i0 p0 e0 k0
          refine ⟨c', ?_, u2, u3⟩
          rcases Nat.lt_trichotomy c' (c + q) with lt | eq | gt
          · refine absurd ((hashes i0 p0 e0).trans (by rw [k0])) (none_before (c' - c) i0 (by omega) ?_)
            rw [at_, show c + (c' - c) = c' by omega]
            exact u3
          · rw [eq] at u3
            have z := slot_live R.tab.ris u3
            rw [live] at z
            injection z with z
            rw [← z, ep1] at e0
            cases e0
            exact absurd k0 same
          · omega
      by_cases led : t.led = true
      · refine wp_if_neg (by simp [led]) ?_
        try refine wpAny_bind (wpAny_pure ?_)
        exact go
      · refine wp_if_pos (by simp [led]) (wpAny_bind (seen_nk hx (fun y hy => ?_) (wp_if_neg (by decide) ?_)))
        · obtain ⟨e, he, rfl⟩ := List.mem_map.mp hy
          have he2 : e ∈ es.toList := by
            have : e ∈ es ∧ e.1 = k.hash w := by simpa using he
            simpa using this.1
          rw [R.ents] at he2
          obtain ⟨p2, hp2, rfl⟩ := List.mem_map.mp he2
          exact ⟨p2.2, p2.1, rfl, R.keys p2 hp2⟩
        · try refine wpAny_bind (wpAny_pure ?_)
          exact go
    · rw [show t.probe (fun i => (es[i]?.map (·.1)).getD 0) (k.hash w) (pr t (k.hash w) c) = _ from ego]
      rw [at_, show c + (K - c) = K by omega]
      refine wpAny_pure (no fun hm => ?_)
      obtain ⟨p0, hp0, k0⟩ := List.mem_map.mp hm
      obtain ⟨i0, hi0, e0⟩ := List.getElem_of_mem hp0
      have e1 : L[i0]? = some p0 := by rw [List.getElem?_eq_getElem hi0, e0]
      obtain ⟨c', u1, u2, u3⟩ := ahead i0 p0 e1 k0
      refine none_before (c' - c) i0 (by omega) ?_ ((hashes i0 p0 e1).trans (by rw [k0]))
      rw [at_, show c + (c' - c) = c' by omega]
      exact u3
theorem NSet.seek (R : NSet w s.heap a L es ep t) {x : Addr} {k : NestedKey} (hx : Nk s.heap k x) (room : A.units + 8 < cLine) {Q : SetFound → Shared → Prop} (yes : k ∈ L.map (·.2) → Q (.there none) s)
    (no : ∀ K, k ∉ L.map (·.2) → way t.mask (k.hash w) K ∉ t.place.toList → (∀ c, c < K → way t.mask (k.hash w) c ∈ t.place.toList) → Q (.free (way t.mask (k.hash w) K) false) s) :
    wpAny (model P w) A (setSearch a (.ref x) (k.hash w) true) Q E s := by
  have h4 := R.few
  have hm := R.mask
  obtain ⟨K, hKf, hK, full⟩ := R.tab.first (by rw [List.length_map]; omega) (k.hash w)
  have small : K < 100000 := by
    unfold SetTable.turns at hKf
    omega
  unfold setSearch
  refine R.search hx room hK full hKf yes (fun n => no K n hK full) 100000 0 none rfl (Nat.zero_le _) (by omega) fun i p e0 k0 => ?_
  have e1 : (L.map fun p => p.2.hash w)[i]? = some (k.hash w) := by
    rw [List.getElem?_map, e0, ← k0]
    rfl
  have hil : i < t.place.toList.length := by
    rw [Array.length_toList, R.psz]
    exact (List.getElem?_eq_some_iff.mp e0).1
  have ej := List.getElem?_eq_getElem hil
  obtain ⟨c, hc, e⟩ := R.tab.before hK e1 ej
  exact ⟨c, Nat.zero_le _, hc, by rw [ej, e]⟩
/-- a key is added -/
theorem NSet.add (R : NSet w s.heap a L es ep t) {x : Addr} {k : NestedKey} (hx : Nk s.heap k x) (room : A.units + 8 < cLine) (fit : L.length + 1 ≤ 4) {Q : Bool → Shared → Prop}
    (q : ∀ b h' L' es' ep' t', Heap.SameBut a s.heap h' → NSet w h' a L' es' ep' t' → (k ∈ L.map (·.2) → L' = L) → (k ∉ L.map (·.2) → L'.Perm ((x, k) :: L)) → Q b { s with heap := h' }) :
    wpAny (model P w) A (setAddHashed a (.ref x) (k.hash w)) Q E s := by
  obtain ⟨o, ho, hex, hd⟩ := R.ob
  have hsl := R.size
  unfold setAddHashed
  refine wpAny_holding ?_
  rw [show (100000 : Nat) = 99999 + 1 from rfl, setAddHashedIn_succ]
  refine wpAny_bind (wpAny_setState_of ho hd R.fits (wp_if_neg (by simp [byScan, Value.scannable]) ?_))
  try refine wpAny_bind (wpAny_pure ?_)
  refine wpAny_bind (R.seek hx room (fun m => ?_) fun K m hK full => ?_)
  · exact wpAny_pure (q false s.heap L es ep t (Heap.SameBut.refl a s.heap) R (fun _ => rfl) fun z => absurd m z)
  · dsimp only
    refine wpAny_bind (wpAny_setState_of ho hd R.fits ?_)
    dsimp only
    obtain ⟨q1, q2, q3, q4, q5, q6, q7, q8, q9⟩ := R.tab.put hK full
    have pl : (t.put (way t.mask (k.hash w) K)).1.plain = true := q6.trans R.plain
    generalize t.put (way t.mask (k.hash w) K) = pt at q1 q3 q4 q5 q6 q7 q8 q9 pl ⊢
    obtain ⟨t1, n⟩ := pt
    dsimp only at q1 q3 q4 q5 q6 q7 q8 q9 pl ⊢
    subst q1
    first
      | (refine wpAny_bind (wp_if_pos pl (byval_key k _ 8 s hx.1 hx.2.2 hx.2.1 _ _ _ ?_)))
      | refine wp_if_pos pl (wpAny_bind (byval_key k _ 8 s hx.1 hx.2.2 hx.2.1 _ _ _ ?_))
    simp only [if_true]
    generalize SetTable.below t.place (way t.mask (k.hash w) K) = n at q2 q3 ⊢
    have pm := put_perm L n (x, k)
    have ein : (SetTable.insertAt es n (k.hash w, Value.ref x)).toList = (L.take n ++ (x, k) :: L.drop n).map (entN w) := by
      rw [SetTable.toList_insertAt, R.ents, List.map_append, List.map_cons, List.map_take, List.map_drop]
      rfl
    have eh : (L.take n ++ (x, k) :: L.drop n).map (fun p => p.2.hash w) = (L.map fun p => p.2.hash w).take n ++ k.hash w :: (L.map fun p => p.2.hash w).drop n := by
      rw [List.map_append, List.map_cons, List.map_take, List.map_drop]
    rw [← eh] at q3
    have hlen := pm.length_eq
    have nd : ((L.take n ++ (x, k) :: L.drop n).map (·.2)).Nodup := by
      refine (pm.map (·.2)).nodup_iff.mpr ?_
      rw [List.map_cons]
      exact List.nodup_cons.mpr ⟨m, R.diff⟩
    have hes : (SetTable.insertAt es n (k.hash w, Value.ref x)).size = L.length + 1 := by
      have := congrArg List.length ein
      rwa [Array.length_toList, List.length_map, hlen] at this
    generalize SetTable.insertAt es n (k.hash w, Value.ref x) = es1 at ein hes ⊢
    generalize L.take n ++ (x, k) :: L.drop n = L1 at pm hlen q3 nd ein
    rw [List.length_cons] at hlen
    refine wpAny_bind (wpAny_storeSet_of ho hd ?_ (by rw [hes, sizeLine_eq]; omega))
    have sb : Heap.SameBut a s.heap (s.heap.update a (Obj.putSet es1 t1)) := Heap.SameBut.update ..
    have ho1 := store_at (es' := es1) (t' := t1) ho hd
    generalize s.heap.update a (Obj.putSet es1 t1) = h1 at sb ho1 ⊢
    have nf : ¬ t1.tooFull = true := by
      unfold SetTable.tooFull
      rw [decide_eq_true_eq, q9, q4, R.mask, List.length_map]
      omega
    first
      | refine wp_if_neg (by simp [nf]) ?_
      | (refine wpAny_bind (wp_if_neg (by simp [nf]) (wpAny_pure ?_)))
    refine wpAny_pure (q true h1 L1 es1 (ep + 1) t1 sb ⟨⟨_, ho1, ⟨hex.1, hex.2.1, hex.2.2⟩, rfl⟩, ein, q3, nd, fun p hp => ?_, pl, by rw [q5]; exact R.led, by rw [q4]; exact R.mask, by omega⟩ (fun z => absurd z m) fun _ => pm)
    rcases List.mem_cons.mp (pm.mem_iff.mp hp) with e | hp
    · rw [e]
      exact hx.but ho hd sb
    · exact (R.keys p hp).but ho hd sb
/-- what the set has of the first i things -/
structure Has (ks : List (Addr × NestedKey)) (i : Nat) (L : List (Addr × NestedKey)) : Prop where
  sub : ∀ p ∈ L, p ∈ ks.take i
  all : ∀ p ∈ ks.take i, p.2 ∈ L.map (·.2)
  len : L.length ≤ i
theorem Has.next {ks L L' : List (Addr × NestedKey)} {i : Nat} {x : Addr × NestedKey} (g : Has ks i L) (h : ks[i]? = some x) (c1 : x.2 ∈ L.map (·.2) → L' = L) (c2 : x.2 ∉ L.map (·.2) → L'.Perm (x :: L)) : Has ks (i + 1) L' := by
  have e := take_next h
  by_cases c : x.2 ∈ L.map (·.2)
  · rw [c1 c]
    refine ⟨fun p hp => ?_, fun p hp => ?_, Nat.le_succ_of_le g.len⟩
    · rw [e]
      exact List.mem_append_left _ (g.sub p hp)
    · rw [e] at hp
      rcases List.mem_append.mp hp with z | z
      · exact g.all p z
      · rw [List.mem_singleton.mp z]
        exact c
  · have pm := c2 c
    refine ⟨fun p hp => ?_, fun p hp => ?_, by rw [pm.length_eq]; exact Nat.succ_le_succ g.len⟩
    · rw [e]
      rcases List.mem_cons.mp (pm.mem_iff.mp hp) with rfl | z
      · exact List.mem_append_right _ (List.mem_singleton.mpr rfl)
      · exact List.mem_append_left _ (g.sub p z)
    · rw [(pm.map (·.2)).mem_iff, List.map_cons]
      rw [e] at hp
      rcases List.mem_append.mp hp with z | z
      · exact List.mem_cons_of_mem _ (g.all p z)
      · rw [List.mem_singleton.mp z]
        exact List.mem_cons_self
theorem NSet.keep {h h' : Heap} (R : NSet w h a L es ep t) (k : ∀ o, h.get? a = some o → h'.get? a = some o) (ks : ∀ p ∈ L, Nk h' p.2 p.1) : NSet w h' a L es ep t := by
  obtain ⟨o, ho, r⟩ := R.ob
  exact ⟨⟨o, k o ho, r⟩, R.ents, R.tab, R.diff, ks, R.plain, R.led, R.mask, R.few⟩
theorem nset_new {h : Heap} {a : Addr} (ho : h.get? a = some { cls := .type "set", dict := none, data := .set #[] 0 (.fresh 0 0 (!w.params.followText "set-order")) }) : NSet w h a [] #[] 0 (.fresh 0 0 (!w.params.followText "set-order")) :=
  ⟨⟨_, ho, ⟨rfl, rfl, rfl⟩, rfl⟩, rfl, ⟨List.Pairwise.nil, rfl, rfl, .inl rfl, fun x hx => (by cases hx), fun i h j hi => (by simp at hi)⟩, List.nodup_nil, fun p hp => (by cases hp), rfl, by
    show _ ∨ (!w.params.followText "set-order") = true
    cases w.params.followText "set-order"
    · exact .inr rfl
    · exact .inl rfl, rfl, Nat.zero_le _⟩
/-- set.update's loop over keys -/
theorem nset_loop {I : Addr} {fp wr : List Addr} {Gg : Array GenState → Array GenState → Prop} {n : Nat} {Pv : Nat → Value → Prop} {St : Nat → Shared → Prop} {R : Result → Shared → Prop} (W : WalksS P w A.in1 I fp wr Gg n Pv St) (S : Addr) (off : S ∉ fp)
    (ks : List (Addr × NestedKey)) (hn : n = ks.length) (few : ks.length ≤ 4) (val : ∀ i v, Pv i v → ∃ p, ks[i]? = some p ∧ v = .ref p.1) (h0 : Heap) (hk : ∀ p ∈ ks, Nk h0 p.2 p.1) (newS : h0.get? S = none) (newW : ∀ b ∈ wr, h0.get? b = none) (room : A.in1.units + 8 < cLine) :
    ∀ (m i : Nat) (s : Shared), n - i = m → i ≤ n → St i s → (∀ b o, h0.get? b = some o → s.heap.get? b = some o) → (∃ L es ep t, NSet w s.heap S L es ep t ∧ Has ks i L) →
      (∀ s' L es ep t, Moved (S :: wr) Gg s s' → NSet w s'.heap S L es ep t → Has ks n L → (∀ b o, h0.get? b = some o → s'.heap.get? b = some o) → R (.ok (.ret .none)) s') →
      codeAny (model P w) A (.builtin "set.update.loop" ⟨[.ref S, .ref I], []⟩) R s := by
  have offW : S ∉ wr := fun z => off (W.sub _ z)
  have more : ∀ b ∈ wr, b ∈ S :: wr := fun b hb => List.mem_cons_of_mem _ hb
  have on : ∀ {s s' : Shared}, Moved wr Gg s s' → (∀ b o, h0.get? b = some o → s.heap.get? b = some o) → ∀ b o, h0.get? b = some o → s'.heap.get? b = some o := fun mv kp b o e =>
    mv.heap b o (fun hb => by
      rw [newW b hb] at e
      cases e) (kp b o e)
  intro m
  induction m with
  | zero =>
    intro i s em hi st kp ⟨L, es, ep, t, hS, g⟩ q
    obtain rfl : i = n := by omega
    refine codeAny_builtin F.entry_set_update_loop ?_
    rw [Around.under_plainId F.plain_set_update_loop _]
    show wpAny _ A.in1 (pyNext (.ref I) >>= fun _ => _) _ _ s
    refine wpAny_bind (W.done s _ _ st fun z mv => ?_)
    have kp2 := on mv kp
    exact wpAny_pure (q z L es ep t (mv.mono more) (hS.keep (fun o e => mv.heap S o offW e) fun p hp => (hk p (List.mem_of_mem_take (g.sub p hp))).keep kp2) g kp2)
  | succ m ih =>
    intro i s em hi st kp ⟨L, es, ep, t, hS, g⟩ q
    have lt : i < n := by omega
    refine codeAny_builtin F.entry_set_update_loop ?_
    rw [Around.under_plainId F.plain_set_update_loop _]
    show wpAny _ A.in1 (pyNext (.ref I) >>= fun _ => _) _ _ s
    refine wpAny_bind (W.item i s _ _ lt st fun v z hv st2 mv => ?_)
    obtain ⟨p, hp, rfl⟩ := val i v hv
    have kp2 := on mv kp
    have hS2 : NSet w z.heap S L es ep t := hS.keep (fun o e => mv.heap S o offW e) fun p hp => (hk p (List.mem_of_mem_take (g.sub p hp))).keep kp2
    have hx : Nk z.heap p.2 p.1 := (hk p (List.mem_of_getElem? hp)).keep kp2
    show wpAny _ A.in1 (holding [Value.ref p.1] (setAdd S (.ref p.1)) >>= fun _ => _) _ _ z
    refine wpAny_bind (wpAny_holding ?_)
    unfold setAdd
    refine wpAny_holding (wpAny_bind ((nestedKind P w).pyHash room hx.kind ?_))
    refine NSet.add (s := { z with toks := z.toks + (nestedKind P w).draws p.2 }) hS2 hx room (by have := g.len; omega) fun b h' L' es' ep' t' sb hS3 c1 c2 => ?_
    have g2 := g.next hp c1 c2
    have kp3 : ∀ b o, h0.get? b = some o → h'.get? b = some o := fun b o e => (sb.2 b (fun y => by
      rw [y, newS] at e
      cases e)).trans (kp2 b o e)
    refine wpAny_pure ⟨plainId_quiet F.plain_set_update_loop _, ih (i + 1) _ (by omega) lt (W.frame _ z _ _ st2 (Nat.le_add_right _ _) fun b hb o e => ?_) kp3 ⟨L', es', ep', t', hS3, g2⟩ fun y L2 es2 ep2 t2 mv2 hS4 g3 kp4 => ?_⟩
    · rw [sb.2 b (fun y : b = S => off (by rw [← y]; exact hb))]
      exact e
    · refine q y L2 es2 ep2 t2 (Moved.trans W.gtrans ((mv.mono more).then_heap (Nat.le_add_right _ _) fun b o hb e => ?_) mv2) hS4 g3 kp4
      rw [sb.2 b (fun y : b = S => hb (by rw [y]; exact List.mem_cons_self))]
      exact e
/-- a new set object -/
abbrev set0 (w : World) : Obj := { cls := .type "set", dict := none, data := .set #[] 0 (.fresh 0 0 (!w.params.followText "set-order")) }
/-- set(xs), xs a list of keys -/
theorem call_setN_list {l : Addr} {its : Array Value} (ks : List (Addr × NestedKey)) {Q : Value → Shared → Prop} (hh : A.handled = none) (hl : s.heap.IsList l its) (hit : its.toList = ks.map fun p => Value.ref p.1) (hk : ∀ p ∈ ks, Nk s.heap p.2 p.1) (few : ks.length ≤ 4) (room : A.units + 20 < cLine)
    (q : ∀ (h' : Heap) (tk : Nat) L es ep t, NSet w h' s.heap.objs.size L es ep t → Has ks ks.length L → (∀ b o, s.heap.get? b = some o → h'.get? b = some o) → Q (.ref s.heap.objs.size) { s with heap := h', toks := tk }) : wpAny (model P w) A (call (.type "set") [.ref l]) Q E s := by
  have hsz : its.size = ks.length := by
    have := congrArg List.length hit
    rwa [Array.length_toList, List.length_map] at this
  obtain ⟨_, _, hmro⟩ := F.called_set.mro
  have made := F.called_set.made
  have sub1 := F.called_set.sub
  refine wpAny_call (codeAny_of_tree ?_)
  show wpAny _ _ (callAny (.type "set") ⟨[.ref l], []⟩) _ _ s
  refine wpAny_pure ⟨Code.quiet_builtin _ (by decide +kernel), codeAny_builtin F.entry_type_call ?_⟩
  rw [Around.under_plain (weight_type_call_type "set" [Value.ref l] []) rfl]
  have not_type := F.called_set.notType
  have can := F.called_set.canCreate
  have tcall := F.typeCall_set_1 (.ref l)
  repeat any_goals (first | assumption | wp_step)
  refine codeAny_mono (code_set_led1 (.ref l) (E := E) (Q₁ := fun obj z => obj = .ref s.heap.objs.size ∧ z = { s with heap := s.heap.push (set0 w) }) ⟨rfl, rfl⟩) fun r z hr => ?_
  cases r with
  | error e => exact hr
  | ok fl =>
    cases fl with
    | ret obj =>
      obtain ⟨rfl, rfl⟩ := hr
      have hS : (s.heap.push (set0 w)).get? s.heap.objs.size = some (set0 w) := Heap.get?_push_size _ rfl
      have hT : Shared.TypeIs { s with heap := s.heap.push (set0 w) } (.ref s.heap.objs.size) "set" := ⟨_, hS, rfl⟩
      have look := F.called_set.init.lookup
      have bind1 := F.called_set.init.bind (.ref s.heap.objs.size)
      repeat any_goals (first | assumption | wp_step)
      refine codeAny_mono (codeAny_call_builtin (R := wants (fun r z => r = .none ∧ ∃ h' tk L es ep t, z = { s with heap := h', toks := tk } ∧ NSet w h' s.heap.objs.size L es ep t ∧ Has ks ks.length L ∧ (∀ b o, s.heap.get? b = some o → h'.get? b = some o)) E)
        F.called_set.init.plain F.entry_set_init (check_set_init_1 hT ?_)) fun r2 z2 hr2 => ?_
      · obtain ⟨⟨oc, od, odt, os⟩, hol, hcl, nl, hdl⟩ := hl
        simp only at hcl hdl
        subst hcl hdl
        have hol2 : (s.heap.push (set0 w)).get? l = some { cls := .type "list", dict := od, data := .seq its nl, slots := os } := Heap.get?_push_of_some _ hol
        have no1 := F.sub_list_set
        have no2 := F.sub_list_frozenset
        have no3 : (Value.type "list" == Value.type "dict") = false := by decide
        have hl2 : (s.heap.push (set0 w)).IsList l its := ⟨_, hol2, rfl, nl, rfl⟩
        unfold Builtin.«set.__init__» noKeywords Builtin.Frozenset.updateFrom
        generalize hPI : pyIter = PI
        wp_walk
        subst hPI
        refine wpAny_pyIter_list hl2 (wpAny_bind (wpAny_runValue ?_))
        have hlS : l < s.heap.objs.size := lt_sz hol
        have hh3 : A.in1.in1.in1.handled = none := by simp [hh]
        have sz1 : (s.heap.push (set0 w)).objs.size = s.heap.objs.size + 1 := Heap.size_push ..
        have neI : l ≠ (s.heap.push (set0 w)).objs.size := by
          rw [sz1]
          exact Nat.ne_of_lt (Nat.lt_succ_of_lt hlS)
        have off : s.heap.objs.size ∉ [(s.heap.push (set0 w)).objs.size, l] := by
          rw [sz1]
          simp only [List.mem_cons, List.not_mem_nil, or_false, not_or]
          exact ⟨Nat.ne_of_lt (Nat.lt_succ_self _), Nat.ne_of_gt hlS⟩
        have val : ∀ (i : Nat) (v : Value), its[i]? = some v → ∃ p, ks[i]? = some p ∧ v = .ref p.1 := fun i v hv => by
          have e : its.toList[i]? = some v := by rw [Array.getElem?_toList]; exact hv
          rw [hit, List.getElem?_map] at e
          cases ek : ks[i]? with
          | none => rw [ek] at e; cases e
          | some p =>
            rw [ek] at e
            exact ⟨p, rfl, (Option.some.inj e).symm⟩
        have gone : ∀ b, s.heap.objs.size ≤ b → s.heap.get? b = none := fun b hb => by
          cases e : s.heap.get? b with
          | none => rfl
          | some o => exact absurd (Nat.lt_of_lt_of_le (lt_sz e) hb) (Nat.lt_irrefl _)
        have get0 : ((s.heap.push (set0 w)).push { cls := .type "list_iterator", data := .fields #[.ref l, .int 0 0] }).get? s.heap.objs.size = some (set0 w) := Heap.get?_push_of_some _ hS
        refine nset_loop ((Walks.list hh3 _ l neI its).toS) s.heap.objs.size off ks hsz few val s.heap hk (gone _ (Nat.le_refl _)) (fun b hb => gone b (by
            rw [List.mem_singleton.mp hb, sz1]
            exact Nat.le_succ _)) (by first | omega | (simp; omega)) (its.size - 0) 0 _ (by omega) (Nat.zero_le _)
          ⟨⟨_, Heap.get?_push_size _ rfl, rfl, rfl⟩, (hl2.push _)⟩ (fun b o e => Heap.get?_push_of_some _ (Heap.get?_push_of_some _ e)) ⟨[], #[], 0, _, nset_new get0, ⟨fun p h => (by cases h), fun p h => (by simp at h), Nat.le_refl _⟩⟩ ?_
        intro y L es ep t mv hS2 g kp
        obtain ⟨h', g2, d', tk, os'⟩ := y
        have e1 : g2 = s.gens := mv.gens
        have e2 : d' = s.drawn := mv.drawn
        have e3 : os' = s.os := mv.os
        subst e1 e2 e3
        show wpAny _ _ _ _ _ _
        refine wpAny_pure ?_
        show wpAny _ _ (ret Value.none) _ _ _
        rw [hsz] at g
        exact wpAny_pure ⟨rfl, h', tk, L, es, ep, t, rfl, hS2, g, kp⟩
      · cases r2 with
        | error e => exact hr2
        | ok fl2 =>
          cases fl2 with
          | ret r =>
            obtain ⟨rfl, h', tk, L, es, ep, t, rfl, hS2, g, kp⟩ := hr2
            repeat any_goals (first | assumption | wp_step)
            exact q _ _ _ _ _ _ hS2 g kp
          | _ => exact hr2.elim
    | _ => exact hr.elim
/-- set(xs), xs a tuple of keys -/
theorem call_setN_tuple {l : Addr} {its : Array Value} (ks : List (Addr × NestedKey)) {Q : Value → Shared → Prop} (hh : A.handled = none) (hl : s.heap.IsTuple l its) (hit : its.toList = ks.map fun p => Value.ref p.1) (hk : ∀ p ∈ ks, Nk s.heap p.2 p.1) (few : ks.length ≤ 4) (room : A.units + 20 < cLine)
    (q : ∀ (h' : Heap) (tk : Nat) L es ep t, NSet w h' s.heap.objs.size L es ep t → Has ks ks.length L → (∀ b o, s.heap.get? b = some o → h'.get? b = some o) → Q (.ref s.heap.objs.size) { s with heap := h', toks := tk }) : wpAny (model P w) A (call (.type "set") [.ref l]) Q E s := by
  have hsz : its.size = ks.length := by
    have := congrArg List.length hit
    rwa [Array.length_toList, List.length_map] at this
  obtain ⟨_, _, hmro⟩ := F.called_set.mro
  have made := F.called_set.made
  have sub1 := F.called_set.sub
  refine wpAny_call (codeAny_of_tree ?_)
  show wpAny _ _ (callAny (.type "set") ⟨[.ref l], []⟩) _ _ s
  refine wpAny_pure ⟨Code.quiet_builtin _ (by decide +kernel), codeAny_builtin F.entry_type_call ?_⟩
  rw [Around.under_plain (weight_type_call_type "set" [Value.ref l] []) rfl]
  have not_type := F.called_set.notType
  have can := F.called_set.canCreate
  have tcall := F.typeCall_set_1 (.ref l)
  repeat any_goals (first | assumption | wp_step)
  refine codeAny_mono (code_set_led1 (.ref l) (E := E) (Q₁ := fun obj z => obj = .ref s.heap.objs.size ∧ z = { s with heap := s.heap.push (set0 w) }) ⟨rfl, rfl⟩) fun r z hr => ?_
  cases r with
  | error e => exact hr
  | ok fl =>
    cases fl with
    | ret obj =>
      obtain ⟨rfl, rfl⟩ := hr
      have hS : (s.heap.push (set0 w)).get? s.heap.objs.size = some (set0 w) := Heap.get?_push_size _ rfl
      have hT : Shared.TypeIs { s with heap := s.heap.push (set0 w) } (.ref s.heap.objs.size) "set" := ⟨_, hS, rfl⟩
      have look := F.called_set.init.lookup
      have bind1 := F.called_set.init.bind (.ref s.heap.objs.size)
      repeat any_goals (first | assumption | wp_step)
      refine codeAny_mono (codeAny_call_builtin (R := wants (fun r z => r = .none ∧ ∃ h' tk L es ep t, z = { s with heap := h', toks := tk } ∧ NSet w h' s.heap.objs.size L es ep t ∧ Has ks ks.length L ∧ (∀ b o, s.heap.get? b = some o → h'.get? b = some o)) E)
        F.called_set.init.plain F.entry_set_init (check_set_init_1 hT ?_)) fun r2 z2 hr2 => ?_
      · obtain ⟨⟨oc, od, odt, os⟩, hol, hcl, nl, hdl⟩ := hl
        simp only at hcl hdl
        subst hcl hdl
        have hol2 : (s.heap.push (set0 w)).get? l = some { cls := .type "tuple", dict := od, data := .seq its nl, slots := os } := Heap.get?_push_of_some _ hol
        have no1 := F.sub_tuple_set
        have no2 := F.sub_tuple_frozenset
        have no3 : (Value.type "tuple" == Value.type "dict") = false := by decide
        have hl2 : (s.heap.push (set0 w)).IsTuple l its := ⟨_, hol2, rfl, nl, rfl⟩
        unfold Builtin.«set.__init__» noKeywords Builtin.Frozenset.updateFrom
        generalize hPI : pyIter = PI
        wp_walk
        subst hPI
        refine wpAny_pyIter_tuple hl2 (wpAny_bind (wpAny_runValue ?_))
        have hlS : l < s.heap.objs.size := lt_sz hol
        have hh3 : A.in1.in1.in1.handled = none := by simp [hh]
        have sz1 : (s.heap.push (set0 w)).objs.size = s.heap.objs.size + 1 := Heap.size_push ..
        have neI : l ≠ (s.heap.push (set0 w)).objs.size := by
          rw [sz1]
          exact Nat.ne_of_lt (Nat.lt_succ_of_lt hlS)
        have off : s.heap.objs.size ∉ [(s.heap.push (set0 w)).objs.size, l] := by
          rw [sz1]
          simp only [List.mem_cons, List.not_mem_nil, or_false, not_or]
          exact ⟨Nat.ne_of_lt (Nat.lt_succ_self _), Nat.ne_of_gt hlS⟩
        have val : ∀ (i : Nat) (v : Value), its[i]? = some v → ∃ p, ks[i]? = some p ∧ v = .ref p.1 := fun i v hv => by
          have e : its.toList[i]? = some v := by rw [Array.getElem?_toList]; exact hv
          rw [hit, List.getElem?_map] at e
          cases ek : ks[i]? with
          | none => rw [ek] at e; cases e
          | some p =>
            rw [ek] at e
            exact ⟨p, rfl, (Option.some.inj e).symm⟩
        have gone : ∀ b, s.heap.objs.size ≤ b → s.heap.get? b = none := fun b hb => by
          cases e : s.heap.get? b with
          | none => rfl
          | some o => exact absurd (Nat.lt_of_lt_of_le (lt_sz e) hb) (Nat.lt_irrefl _)
        have get0 : ((s.heap.push (set0 w)).push { cls := .type "tuple_iterator", data := .fields #[.ref l, .int 0 0] }).get? s.heap.objs.size = some (set0 w) := Heap.get?_push_of_some _ hS
        refine nset_loop ((Walks.tuple hh3 _ l neI its).toS) s.heap.objs.size off ks hsz few val s.heap hk (gone _ (Nat.le_refl _)) (fun b hb => gone b (by
            rw [List.mem_singleton.mp hb, sz1]
            exact Nat.le_succ _)) (by first | omega | (simp; omega)) (its.size - 0) 0 _ (by omega) (Nat.zero_le _)
          ⟨⟨_, Heap.get?_push_size _ rfl, rfl, rfl⟩, (hl2.push _)⟩ (fun b o e => Heap.get?_push_of_some _ (Heap.get?_push_of_some _ e)) ⟨[], #[], 0, _, nset_new get0, ⟨fun p h => (by cases h), fun p h => (by simp at h), Nat.le_refl _⟩⟩ ?_
        intro y L es ep t mv hS2 g kp
        obtain ⟨h', g2, d', tk, os'⟩ := y
        have e1 : g2 = s.gens := mv.gens
        have e2 : d' = s.drawn := mv.drawn
        have e3 : os' = s.os := mv.os
        subst e1 e2 e3
        show wpAny _ _ _ _ _ _
        refine wpAny_pure ?_
        show wpAny _ _ (ret Value.none) _ _ _
        rw [hsz] at g
        exact wpAny_pure ⟨rfl, h', tk, L, es, ep, t, rfl, hS2, g, kp⟩
      · cases r2 with
        | error e => exact hr2
        | ok fl2 =>
          cases fl2 with
          | ret r =>
            obtain ⟨rfl, h', tk, L, es, ep, t, rfl, hS2, g, kp⟩ := hr2
            repeat any_goals (first | assumption | wp_step)
            exact q _ _ _ _ _ _ hS2 g kp
          | _ => exact hr2.elim
    | _ => exact hr.elim
end
end Br

/-! Br3b: sum(xs, start=[]). -/
namespace Br
open PySem PySem.Spec PyProof.Rows L2
section
open PySem (IsL)
variable {prog : Program} {w : World} {A : Around}
theorem ne_old {a b n : Nat} (h : a < n) (k : n ≤ b) : a ≠ b := by omega
/-- the lists that are put together -/
def RowsIn (h : Heap) (rows : List (Addr × List Value)) : Prop := ∀ p ∈ rows, ∃ c, IsL h p.1 p.2.toArray c
def catV (rows : List (Addr × List Value)) : List Value := rows.flatMap (·.2)
theorem sumL_loop (hh : A.in1.handled = none) {I ax S : Addr} (hne : ax ≠ I) {h0 : Heap} {rows : List (Addr × List Value)} (hrows : RowsIn h0 rows) (hI : h0.objs.size ≤ I) (hS : h0.objs.size ≤ S) (hIS : S ≠ I) (hSx : S ≠ ax) {R : Result → Shared → Prop} :
    ∀ (todo done : List (Addr × List Value)) (s : Shared) (Tt : Addr) (tv : List Value) (ct cs : Nat), rows = done ++ todo → s.heap.IsListIter I ax done.length → s.heap.IsList ax (rows.map fun p => Value.ref p.1).toArray →
      IsL s.heap S #[.ref Tt] cs → IsL s.heap Tt tv.toArray ct → Tt ≠ S → Tt ≠ I → (∀ b o, h0.get? b = some o → s.heap.get? b = some o) → h0.objs.size ≤ s.heap.objs.size → tv.length + (catV todo).length ≤ sizeLine →
      (∀ h' tk T' c', (∀ b o, h0.get? b = some o → h'.get? b = some o) → IsL h' T' (tv ++ catV todo).toArray c' → (todo = [] → T' = Tt) → (todo ≠ [] → h0.objs.size ≤ T') → R (.ok (.ret (.ref T'))) { s with heap := h', toks := tk }) →
      codeAny (model prog w) A (.builtin "sum.loop" ⟨[.ref I, .ref S, rawInt 2, rawInt 0], []⟩) R s
  | [], done, s, Tt, tv, ct, cs, er, hit, hax, hso, hto, n1, n2, keep, hsz, hz, q => by
    rw [List.append_nil] at er
    refine codeAny_builtin F.entry_sum_loop ?_
    rw [Around.under_plainId F.plain_sum_loop _]
    show wpAny _ A.in1 (seqItems? (.ref S) >>= fun _ => _) _ _ s
    refine wpAny_bind (wpAny_seqItems hso rfl ?_)
    show wpAny _ A.in1 (Sem.tryCatch (pyNext (.ref I)) _ >>= fun _ => _) _ _ s
    refine wpAny_bind (wpAny_tryCatch (wpAny_pyNext_list_end hh hit hax (by subst er; simp) fun h' kept => ?_))
    have hi : s.heap.get? I ≠ none := fun z => by
      obtain ⟨o, e, _⟩ := hit
      rw [z] at e
      cases e
    have k2 : ∀ b o, h0.get? b = some o → h'.get? b = some o := fun b o e => kept b o (ne_old (lt_sz e) hI) (keep b o e)
    exact wpAny_pure (q h' s.toks Tt ct k2 (by simpa [catV] using kept Tt _ n2 hto) (fun _ => rfl) fun z => absurd rfl z)
  | r :: todo, done, s, Tt, tv, ct, cs, er, hit, hax, hso, hto, n1, n2, keep, hsz, hz, q => by
    obtain ⟨c1, hr1⟩ := hrows r (by rw [er]; simp)
    refine codeAny_builtin F.entry_sum_loop ?_
    rw [Around.under_plainId F.plain_sum_loop _]
    show wpAny _ A.in1 (seqItems? (.ref S) >>= fun _ => _) _ _ s
    refine wpAny_bind (wpAny_seqItems hso rfl ?_)
    show wpAny _ A.in1 (Sem.tryCatch (pyNext (.ref I)) _ >>= fun _ => _) _ _ s
    refine wpAny_bind (wpAny_tryCatch (wpAny_pyNext_list_item hit hax (x := .ref r.1) (by subst er; simp) fun h1 hit1 hs1 => ?_))
    have but : ∀ b o, b ≠ I → s.heap.get? b = some o → h1.get? b = some o := fun b o hb e => hs1.extBut b o hb e
    have hro : IsL h1 r.1 r.2.toArray c1 := but _ _ (ne_old (lt_sz hr1) hI) (keep _ _ hr1)
    have hto1 : IsL h1 Tt tv.toArray ct := but _ _ n2 hto
    have hso1 : IsL h1 S #[.ref Tt] cs := but _ _ hIS hso
    have hsz1 : h1.objs.size = s.heap.objs.size := hs1.1
    have zl : tv.length + r.2.length + (catV todo).length ≤ sizeLine := by
      simp only [catV, List.flatMap_cons, List.length_append] at hz ⊢
      omega
    show wpAny _ A.in1 ((holding [Value.ref r.1] (binaryOp .Add (.ref Tt) (.ref r.1))).attempt >>= fun _ => _) _ _ _
    refine wpAny_bind (wpAny_attempt (wpAny_holding (PySem.P.add_list (s := { s with heap := h1 }) hto1 hro ?_ (by simp only [List.size_toArray]; omega))))
    have hso2 := IsL.push hso1 { cls := .type "list", data := .seq (tv.toArray ++ r.2.toArray) }
    have hnew := IsL.new h1 (tv.toArray ++ r.2.toArray)
    show wpAny _ A.in1 (updateSeq S (fun _ => #[.ref h1.objs.size]) >>= fun _ => _) _ _ _
    refine wpAny_bind (wpAny_updateSeq hso2 rfl ?_)
    have hso3 := IsL.update hso2 fun _ => #[.ref h1.objs.size]
    refine wpAny_bind (wpAny_letGo ?_)
    show wpAny _ A.in1 (updateSeq S (fun _ => #[.ref h1.objs.size]) >>= fun _ => _) _ _ _
    refine wpAny_bind (wpAny_updateSeq hso3 rfl ?_)
    have hso4 := IsL.update hso3 fun _ => #[.ref h1.objs.size]
    have hS1 : S < h1.objs.size := lt_sz hso1
    have hI1 : I < h1.objs.size := by
      obtain ⟨o, e, _⟩ := hit1
      exact lt_sz e
    refine wpAny_pure ⟨plainId_quiet F.plain_sum_loop _, ?_⟩
    have oth : ∀ b o, b ≠ S → h1.get? b = some o → (((h1.push { cls := .type "list", data := .seq (tv.toArray ++ r.2.toArray) }).update S (Obj.mapSeq fun _ => #[.ref h1.objs.size])).update S (Obj.mapSeq fun _ => #[.ref h1.objs.size])).get? b = some o := fun b o hb e =>
      (Heap.get?_update_other _ _ (Ne.symm hb)).trans ((Heap.get?_update_other _ _ (Ne.symm hb)).trans (Heap.get?_push_of_some _ e))
    have hnew4 : IsL (((h1.push { cls := .type "list", data := .seq (tv.toArray ++ r.2.toArray) }).update S (Obj.mapSeq fun _ => #[.ref h1.objs.size])).update S (Obj.mapSeq fun _ => #[.ref h1.objs.size])) h1.objs.size (tv ++ r.2).toArray 0 := by
      have := (hnew.update_other (l := S) (Nat.ne_of_lt hS1) (Obj.mapSeq fun _ => #[.ref h1.objs.size])).update_other (l := S) (Nat.ne_of_lt hS1) (Obj.mapSeq fun _ => #[.ref h1.objs.size])
      simpa using this
    refine sumL_loop hh hne hrows hI hS hIS hSx todo (done ++ [r]) _ h1.objs.size (tv ++ r.2) 0 _ (by rw [er]; simp) ?_ ?_ hso4 hnew4 (Nat.ne_of_gt hS1) (Nat.ne_of_gt hI1) ?_ ?_ (by rw [List.length_append]; exact zl) ?_
    · rw [List.length_append]
      exact hit1.at fun o e => oth I o (Ne.symm hIS) e
    · exact (hax.at fun o e => but ax o hne e).at fun o e => oth ax o (Ne.symm hSx) e
    · intro b o e
      have hb := lt_sz e
      exact oth b o (ne_old hb hS) (but b o (ne_old hb hI) (keep b o e))
    · show h0.objs.size ≤ (((h1.push { cls := .type "list", data := .seq (tv.toArray ++ r.2.toArray) }).update S (Obj.mapSeq fun _ => #[.ref h1.objs.size])).update S (Obj.mapSeq fun _ => #[.ref h1.objs.size])).objs.size
      rw [Heap.size_update, Heap.size_update, Heap.size_push]
      omega
    · intro h' tk T' c' k1 k2 k3 k4
      have := q h' tk T' c' k1 (by simpa [catV, List.append_assoc] using k2) (fun z => by cases z) (fun _ => by
        by_cases z : todo = []
        · rw [k3 z]; omega
        · exact k4 z)
      exact this
end
end Br
namespace Br
open PySem PySem.Spec PyProof.Rows L2
section
variable {prog : Program} {w : World} {A : Around} {E : Value → Shared → Prop} {s : Shared}
theorem args_sum_start (a v : Value) : argsOk "sum" ⟨[a], [(Str.ofString "start", v)]⟩ := by unfold argsOk; kernel_rfl
theorem call_sumL (hh : A.handled = none) {l z : Addr} {rows : List (Addr × List Value)} {cz : Nat} (hl : s.heap.IsList l (rows.map fun p => Value.ref p.1).toArray) (hz : PySem.IsL s.heap z #[] cz) (hrows : RowsIn s.heap rows) (hsz : (catV rows).length ≤ sizeLine) {Q : Value → Shared → Prop}
    (q : ∀ h' tk T' c', (∀ b o, s.heap.get? b = some o → h'.get? b = some o) → PySem.IsL h' T' (catV rows).toArray c' → (rows = [] → T' = z) → (rows ≠ [] → s.heap.objs.size ≤ T') → Q (.ref T') { s with heap := h', toks := tk }) :
    wpAny (model prog w) A (call (.builtin "sum") [.ref l] [(Str.ofString "start", .ref z)]) Q E s := by
  refine PyProof.Rows.kmk_tree F.kind_sum F.plain_sum F.entry_sum (args_sum_start _ _) ?_
  unfold Builtin.«sum»
  simp only [List.length_cons, List.length_nil]
  rw [if_neg (by decide)]
  refine wpAny_bind (wpAny_of_eq (show Builtin.Builtins.bindParams "sum" ["start"] 0 ⟨[], [(Str.ofString "start", .ref z)]⟩ = pure [some (.ref z)] from rfl) ?_)
  refine wpAny_bind (wpAny_pyIter_list hl ?_)
  refine wpAny_bind (wpAny_pure ?_)
  have hz1 := PySem.IsL.push hz { cls := .type "list_iterator", data := .fields #[.ref l, .int 0 0] }
  have ty : Shared.TypeIs { s with heap := s.heap.push { cls := .type "list_iterator", data := .fields #[.ref l, .int 0 0] } } (.ref z) "list" := hz1.isList.typeIs
  simp only [List.forIn_cons, List.forIn_nil]
  refine wpAny_bind (wpAny_bind (wpAny_bind (wpAny_isInstance (b := false) ty PySem.F.sub_list_str ?_)))
  simp only [Bool.false_eq_true, if_false]
  refine wpAny_pure (wpAny_bind (wpAny_bind (wpAny_isInstance (b := false) ty PySem.F.sub_list_bytes ?_)))
  simp only [Bool.false_eq_true, if_false]
  refine wpAny_pure (wpAny_bind (wpAny_bind (wpAny_isInstance (b := false) ty PySem.F.sub_list_bytearray ?_)))
  simp only [Bool.false_eq_true, if_false]
  refine wpAny_pure (wpAny_pure ?_)
  refine wpAny_bind (wpAny_newObj_type ?_)
  have hlt := lt_sz hz
  have hll : l < s.heap.objs.size := by
    obtain ⟨o, e, _⟩ := hl
    exact lt_sz e
  refine wpAny_pure ⟨plainId_quiet F.plain_sum_loop _, ?_⟩
  refine sumL_loop (A := A) (h0 := s.heap) (I := s.heap.objs.size) (ax := l) (S := (s.heap.push { cls := .type "list_iterator", data := .fields #[.ref l, .int 0 0] }).objs.size) hh (Nat.ne_of_lt hll) hrows (Nat.le_refl _) ?_ ?_ ?_ rows [] _ z [] cz 0 rfl ?_ ?_ ?_ ?_ ?_ ?_ ?_ ?_ (by simpa using hsz) ?_
  · rw [Heap.size_push]
    omega
  · rw [Heap.size_push]
    exact Nat.ne_of_gt (Nat.lt_succ_self _)
  · rw [Heap.size_push]
    exact Nat.ne_of_gt (Nat.lt_succ_of_lt hll)
  · exact ⟨_, Heap.get?_push_of_some _ (Heap.get?_push_size _ rfl), rfl, rfl⟩
  · exact (hl.push _).push _
  · exact Heap.get?_push_size _ rfl
  · exact PySem.IsL.push hz1 _
  · rw [Heap.size_push]
    exact Nat.ne_of_lt (Nat.lt_succ_of_lt hlt)
  · exact Nat.ne_of_lt hlt
  · exact fun b o e => Heap.get?_push_of_some _ (Heap.get?_push_of_some _ e)
  · show _ ≤ ((s.heap.push _).push _).objs.size
    rw [Heap.size_push, Heap.size_push]
    omega
  · exact fun h' tk T' c' k1 k2 k3 k4 => q h' tk T' c' k1 (by simpa using k2) k3 k4
end
section
variable {X : Cx} {T : Tb}
/-- sum(xs, start=[]), xs a list of lists -/
def rSumL (T : Tb) : List V → List V → Hp → VK → Prop := fun vs zs H Q => ∃ (a z : Addr) (G : Wd) (ds es : List D) (us : List V), vs = [.ref a] ∧ zs = [.ref z] ∧ SqL T.K H a us ∧ Reps T H G ds us ∧ H z = some (.lst []) ∧ catD ds = some es ∧ es.length ≤ sizeLine ∧
  (ds = [] → Q (.ref z) H) ∧ ∀ (ws : List V) (p : Addr), Reps T H G es ws → H p = none → Q (.ref p) (upd H p (.lst ws))
theorem Reps.split {H : Hp} {G : Wd} : ∀ {ds : List D} {es : List D} {us : List V}, catD ds = some es → Reps T H G ds us →
    ∃ rows : List (Addr × List V), us = rows.map (fun p => V.ref p.1) ∧ (∀ p ∈ rows, H p.1 = some (.lst p.2)) ∧ Reps T H G es (rows.flatMap (·.2)) ∧ (ds = [] → rows = []) ∧ (rows = [] → ds = [])
  | [], _, us, h, r => by
    cases h
    cases (show us = [] from r)
    exact ⟨[], rfl, fun p hp => (by cases hp), rfl, fun _ => rfl, fun _ => rfl⟩
  | d :: ds, es, us, h, r => by
    obtain ⟨v, vs, e, r1, rs⟩ := r
    cases d with
    | lst xs =>
      simp only [catD] at h
      cases q : catD ds with
      | none => rw [q] at h; cases h
      | some fs =>
        rw [q] at h
        cases h
        obtain ⟨rows, h1, h2, h3, _, _⟩ := Reps.split q rs
        obtain ⟨a, ws, ea, t, rr⟩ := r1
        subst ea e h1
        exact ⟨(a, ws) :: rows, rfl, fun p hp => by
          rcases List.mem_cons.mp hp with rfl | hp
          · exact t.1
          · exact h2 p hp, by simpa using rr.append h3, fun z => (by cases z), fun z => (by cases z)⟩
    | _ => cases h
theorem rows_raw {pins : List (Addr × Obj)} {σ : L2.St} {H : Hp} {s : Shared} (I : Inv X pins σ H s) : ∀ (rows : List (Addr × List V)), (∀ p ∈ rows, H p.1 = some (.lst p.2)) →
    ∃ raws : List (Addr × List Value), raws.map (·.1) = rows.map (·.1) ∧ RowsIn s.heap raws ∧ Vals (rows.flatMap (·.2)) (catV raws)
  | [], _ => ⟨[], rfl, fun p hp => (by cases hp), .nil⟩
  | p :: rows, h => by
    obtain ⟨raws, h1, h2, h3⟩ := rows_raw I rows fun q hq => h q (List.mem_cons_of_mem _ hq)
    obtain ⟨_, its, n, rv, e⟩ := I.hok _ _ (h p List.mem_cons_self)
    refine ⟨(p.1, its) :: raws, by simp [h1], fun q hq => ?_, ?_⟩
    · rcases List.mem_cons.mp hq with rfl | hq
      · exact ⟨n, e⟩
      · exact h2 q hq
    · simpa [catV] using rv.append h3
theorem vals_refs : ∀ {as : List Addr} {us : List Value}, Vals (as.map V.ref) us → us = as.map Value.ref
  | [], _, .nil => rfl
  | a :: as, _, .cons r t => by
    cases r
    rw [vals_refs t]
    rfl
theorem cr_sumL (hK : T.K = X.K) (hc : X.calm = true) : CallRK X (.builtin "sum") [Str.ofString "start"] (rSumL T) := by
  intro pins s σ H vs zs us ws Q I rv rz ⟨a, z, G, ds, es, xs, e1, e2, hs, r, hz, ec, hl, q0, q⟩
  subst e1 e2
  obtain rfl := Vals.ref1 rv
  obtain rfl := Vals.ref1 rz
  rw [hK] at hs
  obtain ⟨rows, h1, h2, h3, h4, h5⟩ := Reps.split ec r
  obtain ⟨raws, k1, k2, k3⟩ := rows_raw I rows h2
  obtain ⟨its, r2, hpl, _⟩ := I.list hs
  have e3 : its = raws.map fun p => Value.ref p.1 := by
    have e4 : xs = (rows.map (·.1)).map V.ref := by rw [h1, List.map_map]; rfl
    rw [e4] at r2
    rw [vals_refs r2, ← k1, List.map_map]
    rfl
  have hn : (catV raws).length = es.length := by rw [← k3.length, h3.length]
  obtain ⟨_, zi, cz, rzv, ez⟩ := I.hok _ _ hz
  cases rzv
  have nil : raws = [] ↔ rows = [] := by
    rw [← List.map_eq_nil_iff (f := (·.1)), k1, List.map_eq_nil_iff]
  refine call_sumL (I.ok.hd hc) (by rw [← e3]; exact hpl.isList) ez k2 (by rw [hn]; exact hl) fun h' tk T' c' keep hT n1 n2 => ?_
  by_cases hr : raws = []
  · have hT' := n1 hr
    subst hT'
    exact ⟨.ref T', H, I.kept keep, rfl, q0 (h5 (nil.mp hr))⟩
  · have hge := n2 hr
    exact ⟨.ref T', upd H T' (.lst (rows.flatMap (·.2))), I.laid (t' := tk) keep hge ⟨by rw [h3.length]; exact hl, _, c', k3, hT⟩, rfl, q _ _ h3 (I.hok.fresh hge)⟩
end
end Br

/-! Br3d: sorted(set(xs)). -/
namespace Br
open PySem PySem.Spec PyProof.Rows L2
theorem eqv_int (i j : Int) : PyData.eqv (.int i) (.int j) = decide (i = j) := by
  simp only [PyData.eqv]
  by_cases h : i = j <;> simp [h]
mutual
theorem numD_eq : ∀ {x y : D}, numD x = true → numD y = true → eqD x y = true → x = y
  | .int i, .int j, _, _, h => by
    have : i = j := by simpa [eqD, toPy, eqv_int] using h
    rw [this]
  | .tup xs, .tup ys, hx, hy, h => by
    have e : xs = ys := numsD_eq (by simpa [numD] using hx) (by simpa [numD] using hy) (by simpa [eqD, toPy, PyData.eqv] using h)
    rw [e]
  | .int _, .tup _, _, _, h => by simp [eqD, toPy, PyData.eqv] at h
  | .tup _, .int _, _, _, h => by simp [eqD, toPy, PyData.eqv] at h
  | .non, _, hx, _, _ => by cases hx
  | .bl _, _, hx, _, _ => by cases hx
  | .str _, _, hx, _, _ => by cases hx
  | .lst _, _, hx, _, _ => by cases hx
  | .kst _, _, hx, _, _ => by cases hx
  | .dct, _, hx, _, _ => by cases hx
  | .fn _, _, hx, _, _ => by cases hx
  | .int _, .non, _, hy, _ => by cases hy
  | .int _, .bl _, _, hy, _ => by cases hy
  | .int _, .str _, _, hy, _ => by cases hy
  | .int _, .lst _, _, hy, _ => by cases hy
  | .int _, .kst _, _, hy, _ => by cases hy
  | .int _, .dct, _, hy, _ => by cases hy
  | .int _, .fn _, _, hy, _ => by cases hy
  | .tup _, .non, _, hy, _ => by cases hy
  | .tup _, .bl _, _, hy, _ => by cases hy
  | .tup _, .str _, _, hy, _ => by cases hy
  | .tup _, .lst _, _, hy, _ => by cases hy
  | .tup _, .kst _, _, hy, _ => by cases hy
  | .tup _, .dct, _, hy, _ => by cases hy
  | .tup _, .fn _, _, hy, _ => by cases hy
theorem numsD_eq : ∀ {xs ys : List D}, numsD xs = true → numsD ys = true → PyData.eqvAll (toPys xs) (toPys ys) = true → xs = ys
  | [], [], _, _, _ => rfl
  | [], _ :: _, _, _, h => by simp [toPys, PyData.eqvAll] at h
  | _ :: _, [], _, _, h => by simp [toPys, PyData.eqvAll] at h
  | x :: xs, y :: ys, hx, hy, h => by
    simp only [numsD, Bool.and_eq_true] at hx hy
    simp only [toPys, PyData.eqvAll, Bool.and_eq_true] at h
    have e1 : x = y := numD_eq hx.1 hy.1 h.1
    have e2 : xs = ys := numsD_eq hx.2 hy.2 h.2
    rw [e1, e2]
end
mutual
theorem numD_refl : ∀ {x : D}, numD x = true → eqD x x = true
  | .int i, _ => by simp [eqD, toPy, eqv_int]
  | .tup xs, h => by simpa [eqD, toPy, PyData.eqv] using numsD_refl (xs := xs) (by simpa [numD] using h)
  | .non, h => by cases h
  | .bl _, h => by cases h
  | .str _, h => by cases h
  | .lst _, h => by cases h
  | .kst _, h => by cases h
  | .dct, h => by cases h
  | .fn _, h => by cases h
theorem numsD_refl : ∀ {xs : List D}, numsD xs = true → PyData.eqvAll (toPys xs) (toPys xs) = true
  | [], _ => by simp [toPys, PyData.eqvAll]
  | x :: xs, h => by
    simp only [numsD, Bool.and_eq_true] at h
    simp only [toPys, PyData.eqvAll, Bool.and_eq_true]
    exact ⟨numD_refl h.1, numsD_refl h.2⟩
end
theorem nubD_mem : ∀ {xs : List D}, (∀ x ∈ xs, numD x = true) → ∀ d, d ∈ nubD xs ↔ d ∈ xs
  | [], _, d => by simp [nubD]
  | x :: xs, h, d => by
    have ih := nubD_mem (fun y hy => h y (List.mem_cons_of_mem _ hy)) d
    simp only [nubD, List.mem_cons, List.mem_filter, ih]
    constructor
    · rintro (e | ⟨e, _⟩)
      · exact .inl e
      · exact .inr e
    · rintro (e | e)
      · exact .inl e
      · by_cases z : eqD d x = true
        · exact .inl (numD_eq (h d (List.mem_cons_of_mem _ e)) (h x List.mem_cons_self) z)
        · exact .inr ⟨e, by simpa using z⟩
theorem nubD_nodup : ∀ {xs : List D}, (∀ x ∈ xs, numD x = true) → (nubD xs).Nodup
  | [], _ => by simp [nubD]
  | x :: xs, h => by
    simp only [nubD, List.nodup_cons, List.mem_filter, not_and]
    refine ⟨fun _ => by simp [numD_refl (h x List.mem_cons_self)], (nubD_nodup fun y hy => h y (List.mem_cons_of_mem _ hy)).filter _⟩
/-- the order of alike numbers and tuples: who stands beside whom is settled -/
theorem le_anti {x y : D} (hx : numD x = true) (hy : numD y = true) (al : PySem.W.alike (toPy x) (toPy y) = true) (h1 : ltX x y = false) (h2 : ltX y x = false) : x = y := by
  have e : PySem.W.keyToks (toPy x) = PySem.W.keyToks (toPy y) := PyProof.Rows.lex_total (O := itemOrd) _ _ h1 h2
  refine numD_eq hx hy ?_
  cases q : eqD x y with
  | true => rfl
  | false =>
    exfalso
    have z := (PySem.W.toks_eqv _ _ al).2 q
    rw [e] at z
    have z1 := z [] [.inl 0]
    have z2 := z [.inl 0] []
    rw [PySem.W.lex_pre] at z1 z2
    have y1 : PyProof.Rows.lexLt itemOrd ([] : List (Int ⊕ List Nat)) [.inl 0] = true := by decide
    have y2 : PyProof.Rows.lexLt itemOrd [.inl 0] ([] : List (Int ⊕ List Nat)) = false := by decide
    rw [y1] at z1
    rw [y2] at z2
    rw [← z1] at z2
    cases z2
theorem ltX_neg (a b c : D) (h1 : ltX b a = false) (h2 : ltX c b = false) : ltX c a = false := by
  cases q : ltX c a with
  | false => rfl
  | true =>
    rcases PyProof.Rows.lex_negTrans (O := itemOrd) _ (PySem.W.keyToks (toPy b)) _ q with z | z
    · rw [show ltX c b = true from z] at h2; cases h2
    · rw [show ltX b a = true from z] at h1; cases h1
theorem ltX_asym (a b : D) (h : ltX a b = true) : ltX b a = false := by
  cases q : ltX b a with
  | false => rfl
  | true =>
    have z : ltX a a = true := PyProof.Rows.lex_trans (O := itemOrd) _ _ _ h q
    have y : ltX a a = false := PyProof.Rows.lex_irrefl (O := itemOrd) _
    rw [y] at z
    cases z
theorem sortD_perm (xs : List D) : (sortD xs).Perm xs := List.mergeSort_perm _ _
theorem sortD_sorted (xs : List D) : (sortD xs).Pairwise fun a b => ltX b a = false := by
  have := List.pairwise_mergeSort (le := fun a b : D => !ltX b a) (fun a b c h1 h2 => by
    rw [Bool.not_eq_true'] at h1 h2 ⊢
    exact ltX_neg a b c h1 h2) (fun a b => by
    cases q : ltX b a with
    | false => rfl
    | true => simp [ltX_asym b a q]) xs
  exact this.imp fun h => by simpa using h
/-- the one order -/
theorem sort_one {xs cs : List D} (num : ∀ x ∈ xs, numD x = true) (al : ∀ x ∈ xs, ∀ y ∈ xs, PySem.W.alike (toPy x) (toPy y) = true) (nd : cs.Nodup) (mem : ∀ d, d ∈ cs ↔ d ∈ xs) (st : cs.Pairwise fun a b => ltX b a = false) : cs = sortD (nubD xs) := by
  have pm : cs.Perm (sortD (nubD xs)) := ((List.perm_ext_iff_of_nodup nd (nubD_nodup num)).mpr fun d => (mem d).trans (nubD_mem num d).symm).trans (sortD_perm _).symm
  refine List.Perm.eq_of_pairwise (fun a b ha hb h1 h2 => ?_) st (sortD_sorted _) pm
  have ha' := (mem a).mp ha
  have hb' := (mem b).mp (pm.mem_iff.mpr hb)
  exact le_anti (num a ha') (num b hb') (al a ha' b hb') h2 h1
/-! ### data as keys -/
mutual
def keyD : D → NestedKey
  | .int i => .num i
  | .tup xs => .tup (keysD xs)
  | _ => .none
def keysD : List D → List NestedKey
  | [] => []
  | x :: r => keyD x :: keysD r
end
mutual
def dOf : NestedKey → D
  | .num i => .int i
  | .tup ks => .tup (dsOf ks)
  | _ => .non
def dsOf : List NestedKey → List D
  | [] => []
  | k :: r => dOf k :: dsOf r
end
mutual
theorem dOf_key : ∀ {x : D}, numD x = true → dOf (keyD x) = x
  | .int i, _ => rfl
  | .tup xs, h => by simp only [keyD, dOf, dsOf_key (xs := xs) (by simpa [numD] using h)]
  | .non, h => by cases h
  | .bl _, h => by cases h
  | .str _, h => by cases h
  | .lst _, h => by cases h
  | .kst _, h => by cases h
  | .dct, h => by cases h
  | .fn _, h => by cases h
theorem dsOf_key : ∀ {xs : List D}, numsD xs = true → dsOf (keysD xs) = xs
  | [], _ => rfl
  | x :: xs, h => by
    simp only [numsD, Bool.and_eq_true] at h
    simp only [keysD, dsOf, dOf_key h.1, dsOf_key h.2]
end
mutual
theorem keyD_depth : ∀ {x : D}, numD x = true → (keyD x).depth = (toPy x).depth
  | .int i, _ => by simp [keyD, toPy, NestedKey.depth, PyData.depth]
  | .tup xs, h => by
    have := keysD_depth (xs := xs) (by simpa [numD] using h)
    simp only [keyD, toPy, NestedKey.depth, PyData.depth, this]
  | .non, h => by cases h
  | .bl _, h => by cases h
  | .str _, h => by cases h
  | .lst _, h => by cases h
  | .kst _, h => by cases h
  | .dct, h => by cases h
  | .fn _, h => by cases h
theorem keysD_depth : ∀ {xs : List D}, numsD xs = true → NestedKey.depthAll (keysD xs) = PyData.depthAll (toPys xs)
  | [], _ => by simp [keysD, toPys, NestedKey.depthAll, PyData.depthAll]
  | x :: xs, h => by
    simp only [numsD, Bool.and_eq_true] at h
    simp only [keysD, toPys, NestedKey.depthAll, PyData.depthAll, keyD_depth h.1, keysD_depth h.2]
end
mutual
theorem keyD_num : ∀ {x : D}, numD x = true → numK (keyD x) = true
  | .int i, _ => rfl
  | .tup xs, h => by simpa [keyD, numK] using keysD_num (xs := xs) (by simpa [numD] using h)
  | .non, h => by cases h
  | .bl _, h => by cases h
  | .str _, h => by cases h
  | .lst _, h => by cases h
  | .kst _, h => by cases h
  | .dct, h => by cases h
  | .fn _, h => by cases h
theorem keysD_num : ∀ {xs : List D}, numsD xs = true → numsK (keysD xs) = true
  | [], _ => rfl
  | x :: xs, h => by
    simp only [numsD, Bool.and_eq_true] at h
    simp only [keysD, numsK, keyD_num h.1, keysD_num h.2, Bool.and_self]
end
section
variable {X : Cx} {T : Tb} {pins : List (Addr × Obj)} {σ : L2.St} {H : Hp} {s : Shared} {G : Wd}
mutual
theorem key_is (hK : T.K = X.K) (I : Inv X pins σ H s) : ∀ {d : D} {v : V} {u : Value}, numD d = true → Rep T H G d v → RelV v u → NestedIs s.heap (keyD d) u
  | .int i, v, u, _, r, rv => by
    cases (show v = .int i from r)
    obtain ⟨t, rfl⟩ := rv
    exact .int i t
  | .tup xs, v, u, h, ⟨a, us, e, t, r⟩, rv => by
    subst e
    cases rv
    have ts := t.sq
    rw [hK] at ts
    obtain ⟨its, r2, ⟨o, ho, hc, n, hd⟩, _⟩ := I.tuple ts
    exact .tup ho hc hd (keys_is hK I (by simpa [numD] using h) r r2)
  | .non, _, _, h, _, _ => by cases h
  | .bl _, _, _, h, _, _ => by cases h
  | .str _, _, _, h, _, _ => by cases h
  | .lst _, _, _, h, _, _ => by cases h
  | .kst _, _, _, h, _, _ => by cases h
  | .dct, _, _, h, _, _ => by cases h
  | .fn _, _, _, h, _, _ => by cases h
theorem keys_is (hK : T.K = X.K) (I : Inv X pins σ H s) : ∀ {ds : List D} {us : List V} {its : List Value}, numsD ds = true → Reps T H G ds us → Vals us its → NestedAll s.heap (keysD ds) its
  | [], us, its, _, h, rv => by
    cases (show us = [] from h)
    cases rv
    exact .nil
  | d :: ds, us, its, n, h, rv => by
    obtain ⟨v, vs, e, r, rs⟩ := h
    subst e
    simp only [numsD, Bool.and_eq_true] at n
    cases rv with
    | cons r1 r2 => exact .cons (key_is hK I n.1 r r1) (keys_is hK I n.2 rs r2)
end
end
/-- the set at a, its keys apart -/
def NSet0 (w : World) (h : Heap) (a : Addr) (L : List (Addr × NestedKey)) : Prop := ∃ (es : Array (Int × Value)) (ep : Nat) (t : SetTable), (∃ o, h.get? a = some o ∧ o.ExactSet ∧ o.data = .set es ep t) ∧ es.toList = L.map (entN w) ∧ TabOk t (L.map fun p => p.2.hash w) ∧
  (L.map (·.2)).Nodup ∧ t.plain = true ∧ (w.params.followText "set-order" = true ∨ t.led = true) ∧ t.mask = 7 ∧ L.length ≤ 4
def NSetO (w : World) (a : Addr) (L : List (Addr × NestedKey)) : HO := .ext fun h => NSet0 w h a L
theorem nsetO_ok {P : Program} {w : World} {H : Hp} {h : Heap} {a : Addr} {L : List (Addr × NestedKey)} (R : NSet0 w h a L) : ObjOk P w H h a (NSetO w a L) := by
  have ⟨es, ep, t, ⟨o, ho, r⟩, q⟩ := R
  refine ⟨R, ⟨o, ho⟩, fun h1 h2 p k => ?_⟩
  have ⟨es', ep', t', ⟨o', ho', r'⟩, q'⟩ := (show NSet0 w h1 a L from p)
  exact ⟨es', ep', t', ⟨o', k o' ho', r'⟩, q'⟩
theorem inv_perm {α β : Type} {f : α → β} : ∀ {out : List β} {l : List α}, out.Perm (l.map f) → ∃ l', List.Perm l' l ∧ out = l'.map f
  | [], l, h => by
    have : l = [] := by simpa using h.nil_eq.symm
    exact ⟨[], by rw [this], rfl⟩
  | v :: out, l, h => by
    obtain ⟨x, hx, e⟩ := List.mem_map.mp (h.mem_iff.mp List.mem_cons_self)
    obtain ⟨a, b, rfl⟩ := List.append_of_mem hx
    have pm : (a ++ x :: b).Perm (x :: (a ++ b)) := List.perm_middle
    have h2 : out.Perm ((a ++ b).map f) := by
      have := h.trans (pm.map f)
      rw [List.map_cons, e] at this
      exact this.cons_inv
    obtain ⟨l', p1, p2⟩ := inv_perm h2
    exact ⟨x :: l', (p1.cons x).trans pm.symm, by rw [List.map_cons, e, p2]⟩
mutual
theorem num_reads {h : Heap} : ∀ {d : D} {v : Value} {as : List Addr}, numD d = true → Reads h v (toPy d) as → as = []
  | .int i, v, as, _, r => by
    rw [toPy] at r
    cases r
    rfl
  | .tup xs, v, as, n, r => by
    rw [toPy] at r
    cases r with
    | tuple _ _ _ h4 => exact nums_reads (by simpa [numD] using n) h4
  | .non, _, _, n, _ => by cases n
  | .bl _, _, _, n, _ => by cases n
  | .str _, _, _, n, _ => by cases n
  | .lst _, _, _, n, _ => by cases n
  | .kst _, _, _, n, _ => by cases n
  | .dct, _, _, n, _ => by cases n
  | .fn _, _, _, n, _ => by cases n
theorem nums_reads {h : Heap} : ∀ {ds : List D} {vs : List Value} {as : List Addr}, numsD ds = true → ReadsAll h vs (toPys ds) as → as = []
  | [], vs, as, _, r => by
    rw [toPys] at r
    cases r
    rfl
  | d :: ds, vs, as, n, r => by
    rw [toPys] at r
    simp only [numsD, Bool.and_eq_true] at n
    cases r with
    | cons h1 h2 => rw [num_reads n.1 h1, nums_reads n.2 h2]; rfl
end
mutual
theorem num_plain : ∀ {d : D}, numD d = true → plain d = true
  | .int _, _ => rfl
  | .tup xs, n => by simpa [plain] using nums_plain (by simpa [numD] using n)
  | .non, n => by cases n
  | .bl _, n => by cases n
  | .str _, n => by cases n
  | .lst _, n => by cases n
  | .kst _, n => by cases n
  | .dct, n => by cases n
  | .fn _, n => by cases n
theorem nums_plain : ∀ {ds : List D}, numsD ds = true → plains ds = true
  | [], _ => rfl
  | d :: ds, n => by
    simp only [numsD, Bool.and_eq_true] at n
    simp only [plains, num_plain n.1, nums_plain n.2, Bool.and_self]
end
section
variable {X : Cx} {T : Tb}
theorem tup_rows {H : Hp} {G : Wd} : ∀ {ds : List D} {us : List V}, (∀ d ∈ ds, tupN d = true) → Reps T H G ds us → ∃ ps : List (Addr × D), us = ps.map (fun p => V.ref p.1) ∧ ds = ps.map (·.2) ∧ ∀ p ∈ ps, Rep T H G p.2 (.ref p.1)
  | [], us, _, h => ⟨[], h, rfl, fun p hp => (by cases hp)⟩
  | d :: ds, us, n, ⟨v, vs, e, r, rs⟩ => by
    obtain ⟨ps, h1, h2, h3⟩ := tup_rows (fun x hx => n x (List.mem_cons_of_mem _ hx)) rs
    have nd := n d List.mem_cons_self
    cases d with
    | tup xs =>
      obtain ⟨a, ws, ea, t, rr⟩ := r
      subst ea e h1 h2
      refine ⟨(a, .tup xs) :: ps, rfl, rfl, fun p hp => ?_⟩
      rcases List.mem_cons.mp hp with rfl | hp
      · exact ⟨a, ws, rfl, t, rr⟩
      · exact h3 p hp
    | _ => cases nd
def rSetN (T : Tb) (w : World) : List V → Hp → VK → Prop := fun vs H Q => ∃ (l : Addr) (G : Wd) (ds : List D) (us : List V), vs = [.ref l] ∧ (SqT T.K H l us ∨ SqL T.K H l us) ∧ Reps T H G ds us ∧ (∀ d ∈ ds, numD d = true ∧ tupN d = true ∧ (toPy d).depth ≤ 8) ∧ ds.length ≤ 4 ∧
  ∀ (a : Addr) (L : List (Addr × NestedKey)), H a = none → (L.map (·.2)).Nodup → (∀ p ∈ L, ∃ d ∈ ds, p.2 = keyD d ∧ Rep T H G d (.ref p.1)) → (∀ d ∈ ds, keyD d ∈ L.map (·.2)) → Q (.ref a) (upd H a (NSetO w a L))
theorem cr_setN {lvl : Nat} (hK : T.K = X.K) (hr : L2H.RoomH lvl X.A) (hc : X.calm = true) : CallR X (.type "set") (rSetN T X.w) := by
  intro pins s σ H vs us Q I rv ⟨l, G, ds, xs, e, hs, r, ok, few, q⟩
  subst e
  rw [Vals.ref1 rv]
  obtain ⟨ps, e1, e2, e3⟩ := tup_rows (fun d hd => (ok d hd).2.1) r
  have hn : H s.heap.objs.size = none := I.hok.fresh (Nat.le_refl _)
  have hks : ∀ p ∈ ps.map (fun p => (p.1, keyD p.2)), Nk s.heap p.2 p.1 := fun p hp => by
    obtain ⟨y, hy, rfl⟩ := List.mem_map.mp hp
    have hd : y.2 ∈ ds := by rw [e2]; exact List.mem_map.mpr ⟨y, hy, rfl⟩
    obtain ⟨n1, n2, n3⟩ := ok _ hd
    exact ⟨key_is hK I n1 (e3 y hy) rfl, by rw [keyD_depth n1]; exact n3, keyD_num n1⟩
  have lens : (ps.map fun p => (p.1, keyD p.2)).length ≤ 4 := by
    rw [List.length_map]
    rw [e2, List.length_map] at few
    exact few
  have fin : ∀ (h' : Heap) (tk : Nat) L es ep t, NSet X.w h' s.heap.objs.size L es ep t → Has (ps.map fun p => (p.1, keyD p.2)) (ps.map fun p => (p.1, keyD p.2)).length L → (∀ b o, s.heap.get? b = some o → h'.get? b = some o) →
      EP X pins σ Q (.ref s.heap.objs.size) { s with heap := h', toks := tk } := fun h' tk L es ep t R g kp => by
    refine ⟨.ref s.heap.objs.size, upd H s.heap.objs.size (NSetO X.w s.heap.objs.size L), I.laid (t' := tk) kp (Nat.le_refl _) (nsetO_ok ⟨es, ep, t, R.ob, R.ents, R.tab, R.diff, R.plain, R.led, R.mask, R.few⟩), rfl, q _ L hn R.diff (fun p hp => ?_) fun d hd => ?_⟩
    · obtain ⟨y, hy, rfl⟩ := List.mem_map.mp (List.mem_of_mem_take (g.sub p hp))
      exact ⟨y.2, by rw [e2]; exact List.mem_map.mpr ⟨y, hy, rfl⟩, rfl, e3 y hy⟩
    · rw [e2] at hd
      obtain ⟨y, hy, rfl⟩ := List.mem_map.mp hd
      exact g.all (y.1, keyD y.2) (by rw [List.take_length]; exact List.mem_map.mpr ⟨y, hy, rfl⟩)
  have refs : ∀ its : List Value, Vals xs its → its = (ps.map fun p => (p.1, keyD p.2)).map fun p => Value.ref p.1 := fun its hv => by
    have : xs = (ps.map (·.1)).map V.ref := by rw [e1, List.map_map]; rfl
    rw [this] at hv
    rw [vals_refs hv, List.map_map, List.map_map]
    rfl
  have room := hr.un
  rw [hK] at hs
  rcases hs with hs | hs
  · obtain ⟨its, r2, hl⟩ := tup_of I hs
    exact call_setN_tuple _ (I.ok.hd hc) hl (by simpa using refs its r2) hks lens (by omega) fin
  · obtain ⟨its, r2, hl, _⟩ := I.list hs
    exact call_setN_list _ (I.ok.hd hc) hl.isList (by simpa using refs its r2) hks lens (by omega) fin
/-- sorted(a set of keys) -/
def rSortN (T : Tb) (w : World) : List V → Hp → VK → Prop := fun vs H Q => ∃ (a : Addr) (L : List (Addr × NestedKey)) (G : Wd) (ds : List D), vs = [.ref a] ∧ H a = some (NSetO w a L) ∧ (∀ p ∈ L, ∃ d ∈ ds, p.2 = keyD d ∧ Rep T H G d (.ref p.1)) ∧ (∀ d ∈ ds, keyD d ∈ L.map (·.2)) ∧ setOk ds = true ∧ (∀ d ∈ ds, tupN d = true) ∧
  ∀ (ws : List V) (p : Addr), Reps T H G (sortD (nubD ds)) ws → H p = none → Q (.ref p) (upd H p (.lst ws))
/-- the members, as data, in any order -/
theorem mem_each {H : Hp} {s : Shared} {pins : List (Addr × Obj)} {σ : L2.St} (hK : T.K = X.K) (I : Inv X pins σ H s) {G : Wd} {ds : List D} : ∀ (L : List (Addr × NestedKey)), (∀ p ∈ L, ∃ d ∈ ds, numD d = true ∧ p.2 = keyD d ∧ Rep T H G d (.ref p.1)) →
    PySem.W.EachIs (fun u d => ∃ v, RelV v u ∧ Rep T H G d v) (L.map fun p => Value.ref p.1) (L.map fun p => dOf p.2) ∧ PySem.W.EachIs (fun u d => ∃ as, Reads s.heap u (toPy d) as) (L.map fun p => Value.ref p.1) (L.map fun p => dOf p.2)
  | [], _ => ⟨.nil, .nil⟩
  | p :: L, h => by
    obtain ⟨h1, h2⟩ := mem_each hK I L fun q hq => h q (List.mem_cons_of_mem _ hq)
    obtain ⟨d, hd, n, e, r⟩ := h p List.mem_cons_self
    have ed : dOf p.2 = d := by rw [e]; exact dOf_key n
    have r1 : Rep T H G (dOf p.2) (.ref p.1) := by rw [ed]; exact r
    have pn : plain (dOf p.2) = true := by rw [ed]; exact num_plain n
    exact ⟨.cons (a := Value.ref p.1) (b := dOf p.2) ⟨.ref p.1, rfl, r1⟩ h1, .cons (a := Value.ref p.1) (b := dOf p.2) (reads_one hK I pn r1 rfl) h2⟩
theorem cr_sortN {lvl : Nat} (hK : T.K = X.K) (hr : L2H.RoomH lvl X.A) (hc : X.calm = true) : CallR X (.builtin "sorted") (rSortN T X.w) := by
  intro pins s σ H vs us Q I rv ⟨a, L, G, ds, e, ha, back, all, ok, tn, q⟩
  subst e
  rw [Vals.ref1 rv]
  simp only [setOk, sorOk, Bool.and_eq_true, Bool.or_eq_true, List.all_eq_true, decide_eq_true_eq, flatD] at ok
  obtain ⟨⟨⟨⟨⟨al, flat⟩, so⟩, _⟩, num⟩, _⟩ := ok
  have ⟨es, ep, t, ⟨o, ho, hex, hd⟩, ents, tab, diff, pl, led, mask, few⟩ := (show NSet0 X.w s.heap a L from (I.hok a _ ha).1)
  have hsz : es.size = L.length := by
    have := congrArg List.length ents
    rwa [Array.length_toList, List.length_map] at this
  have psz : t.place.size = L.length := by
    have := tab.sz
    rwa [List.length_map] at this
  have fits : t.fits es.size = true := by
    unfold SetTable.fits SetTable.fill
    rw [tab.dm, Bool.and_eq_true, beq_iff_eq, decide_eq_true_eq]
    show t.place.size = es.size ∧ t.place.size + 0 ≤ t.mask
    omega
  have room := hr.un
  refine Calls.call_function_entry kind_sorted plain_sorted entry_sorted (args_sorted1 _) ?_
  unfold Builtin.«sorted»
  refine wpAny_bind (m := checkCount "sorted" 1 1 _) (wpAny_pure (wpAny_bind ?_))
  refine collect_set (A := X.A.in1) (I.ok.hd hc) ⟨o, ho, hex.1, hd⟩ fits (by unfold scanBound; omega) tab.ris led fun s1 vs keep more g1 o1 pm => ?_
  have em : es.toList.map (·.2) = L.map fun p => Value.ref p.1 := by
    rw [ents, List.map_map]
    rfl
  rw [em] at pm
  obtain ⟨L1, pl1, ev⟩ := inv_perm pm
  subst ev
  have nums : ∀ p ∈ L1, ∃ d ∈ ds, numD d = true ∧ p.2 = keyD d ∧ Rep T H G d (.ref p.1) := fun p hp => by
    obtain ⟨d, h1, h2, h3⟩ := back p (pl1.mem_iff.mp hp)
    exact ⟨d, h1, num d h1, h2, h3⟩
  obtain ⟨e1, e2⟩ := mem_each hK I L1 nums
  have mem : ∀ d, d ∈ L1.map (fun p => dOf p.2) ↔ d ∈ ds := fun d => by
    constructor
    · intro h
      obtain ⟨p, hp, rfl⟩ := List.mem_map.mp h
      obtain ⟨d, h1, h2, h3, _⟩ := nums p hp
      rw [h3, dOf_key h2]
      exact h1
    · intro h
      obtain ⟨p, hp, e⟩ := List.mem_map.mp (all d h)
      refine List.mem_map.mpr ⟨p, pl1.mem_iff.mpr hp, ?_⟩
      show dOf p.2 = d
      rw [show p.2 = keyD d from e, dOf_key (num d h)]
  have nd : (L1.map fun p => dOf p.2).Nodup := by
    have h1 : (L1.map (·.2)).Nodup := (pl1.map (·.2)).nodup_iff.mpr diff
    have e : L1.map (fun p => dOf p.2) = (L1.map (·.2)).map dOf := by rw [List.map_map]; rfl
    rw [e]
    refine List.pairwise_map.mpr (List.Pairwise.imp_of_mem (fun {x y} hx hy ne z => ?_) h1)
    obtain ⟨p, hp, rfl⟩ := List.mem_map.mp hx
    obtain ⟨r, hr, rfl⟩ := List.mem_map.mp hy
    obtain ⟨d, _, n1, k1, _⟩ := nums p hp
    obtain ⟨d', _, n2, k2, _⟩ := nums r hr
    rw [k1, k2, dOf_key n1, dOf_key n2] at z
    rw [k1, k2, z] at ne
    exact ne rfl
  have sub : ∀ d ∈ L1.map (fun p => dOf p.2), d ∈ ds := fun d h => (mem d).mp h
  have len : L1.length ≤ 4 := by rw [pl1.length_eq]; exact few
  have hal : PySem.W.AllAlike ((L1.map fun p => dOf p.2).map toPy) := by
    intro x hx y hy
    obtain ⟨d, hd, rfl⟩ := List.mem_map.mp hx
    obtain ⟨d', hd', rfl⟩ := List.mem_map.mp hy
    exact al d (sub d hd) d' (sub d' hd')
  have hk : PySem.W.Sortable ((L1.map fun p => dOf p.2).map toPy) := .inl fun x hx => by
    obtain ⟨d, hd, rfl⟩ := List.mem_map.mp hx
    have := tn d (sub d hd)
    unfold tupN at this
    split at this
    · exact ⟨_, _, by simp only [toPy, toPys]; rfl⟩
    · cases this
  refine wpAny_bind (wpAny_newList ?_ (by rw [List.length_map, sizeLine_eq]; omega))
  have hoL : (s1.heap.push (seqObj "list" (L1.map fun p => Value.ref p.1).toArray 0)).get? s1.heap.objs.size = some (seqObj "list" (L1.map fun p => Value.ref p.1).toArray 0) := Heap.get?_push_size _ rfl
  have er : PySem.W.EachIs (fun u d => ∃ as, Reads (s1.heap.push (seqObj "list" (L1.map fun p => Value.ref p.1).toArray 0)) u (toPy d) as ∧ s1.heap.objs.size ∉ as) (L1.map fun p => Value.ref p.1) (L1.map fun p => dOf p.2) :=
    (PySem.W.each_mem e2).mono fun u d ⟨⟨as, r⟩, hd⟩ => by
      refine ⟨as, PyProof.Rows.Reads.keeps (fun b u e => Heap.get?_push_of_some _ (keep b u e)) r, ?_⟩
      rw [num_reads (num d (sub d hd)) r]
      simp
  refine wpAny_bind (wpAny_holding (PySem.W.list_sort_data (s := { s1 with heap := s1.heap.push (seqObj "list" (L1.map fun p => Value.ref p.1).toArray 0) }) hoL e1 er hal hk (by rw [List.length_map, sizeLine_eq]; omega) (fun d hd => ?_) fun out hn ho2 => ?_))
  · have := (flat d (sub d hd)).2
    show X.A.units + 1 + 1 + _ < _
    omega
  · obtain ⟨ws, rw1, rr⟩ := of_each ho2
    obtain ⟨c, hc2⟩ := sortedHeap_at (vs := L1.map fun p => Value.ref p.1) (out := out.toArray) hoL
    have eo : (L1.map fun p => dOf p.2).mergeSort (PySem.W.dataLe false toPy) = sortD (nubD ds) := by
      have e3 : (L1.map fun p => dOf p.2).mergeSort (PySem.W.dataLe false toPy) = sortD (L1.map fun p => dOf p.2) := rfl
      rw [e3]
      refine sort_one num al ((sortD_perm _).nodup_iff.mpr nd) (fun d => ((sortD_perm _).mem_iff).trans (mem d)) (sortD_sorted _)
    rw [eo] at rr
    have hp : s.heap.objs.size ≤ s1.heap.objs.size := more
    have hn0 : H s1.heap.objs.size = none := I.hok.fresh hp
    have hlen : ws.length ≤ sizeLine := by
      rw [rw1.length, hn, List.length_map, sizeLine_eq]
      omega
    have keep2 : ∀ b u, s.heap.get? b = some u → (sortedHeap (s1.heap.push (seqObj "list" (L1.map fun p => Value.ref p.1).toArray 0)) s1.heap.objs.size (L1.map fun p => Value.ref p.1) out.toArray).get? b = some u := fun b u e => by
      have e2 := keep b u e
      have lt := lt_sz e2
      rw [sortedHeap_old (Nat.ne_of_lt lt) (by rw [size_push']; exact Nat.lt_succ_of_lt lt)]
      exact Heap.get?_push_of_some _ e2
    have J : Inv X pins σ (upd H s1.heap.objs.size (.lst ws)) { s with heap := sortedHeap (s1.heap.push (seqObj "list" (L1.map fun p => Value.ref p.1).toArray 0)) s1.heap.objs.size (L1.map fun p => Value.ref p.1) out.toArray, gens := s1.gens, drawn := s1.drawn, toks := s1.toks } :=
      I.call (ch := []) (Un.laid keep2 hp hn0) (I.hok.laid keep2 hp ⟨hlen, out, c, rw1, hc2⟩) (by rw [g1]; exact I.bare) fun _ z => nomatch z
    refine wpAny_pure ⟨_, rfl, .ref s1.heap.objs.size, upd H s1.heap.objs.size (.lst ws), ?_, rfl, q ws _ rr hn0⟩
    obtain ⟨h1, gg1, d1, t1, os1⟩ := s1
    have z : os1 = s.os := o1
    subst z
    exact J
/-! sets of whole numbers -/
def ISetO (w : World) (a : Addr) (ns : List Int) : HO := .ext fun h => ∃ c, SetR w h a (fun j => decide (j ∈ ns)) c ∧ c ≤ ns.length
theorem isetO_ok {P : Program} {w : World} {H : Hp} {h : Heap} {a : Addr} {ns : List Int} (R : ∃ c, SetR w h a (fun j => decide (j ∈ ns)) c ∧ c ≤ ns.length) : ObjOk P w H h a (ISetO w a ns) := by
  refine ⟨R, ?_, fun h1 h2 ⟨c, p, l⟩ k => ⟨c, SetR.at p k, l⟩⟩
  obtain ⟨c, p, l⟩ := R
  have ⟨o, _, _, _, ho, _⟩ := p
  exact ⟨o, ho⟩
def rSetI (T : Tb) (w : World) : List V → Hp → VK → Prop := fun vs H Q => ∃ (l : Addr) (ns : List Int), vs = [.ref l] ∧ SqT T.K H l (ns.map .int) ∧ ns.length < 60 ∧ ∀ a, H a = none → Q (.ref a) (upd H a (ISetO w a ns))
theorem cr_setI (hK : T.K = X.K) (hc : X.calm = true) : CallR X (.type "set") (rSetI T X.w) := by
  intro pins s σ H vs us Q I rv ⟨l, ns, e, hs, few, q⟩
  subst e
  rw [Vals.ref1 rv]
  rw [hK] at hs
  obtain ⟨its, r2, hl⟩ := tup_of I hs
  refine call_set_tupI ns (I.ok.hd hc) hl (by simpa using r2.ints) (by unfold scanBound; omega) fun h' tk c R lc keep => ?_
  exact ⟨.ref s.heap.objs.size, upd H s.heap.objs.size (ISetO X.w s.heap.objs.size ns), I.laid (t' := tk) keep (Nat.le_refl _) (isetO_ok ⟨c, R, lc⟩), rfl, q _ (I.hok.fresh (Nat.le_refl _))⟩
def rSortI (w : World) : List V → Hp → VK → Prop := fun vs H Q => ∃ (a : Addr) (ns : List Int), vs = [.ref a] ∧ H a = some (ISetO w a ns) ∧ ns.length < 60 ∧
  ∀ (ms : List Int) (p : Addr), ms.Pairwise (· < ·) → (∀ k, k ∈ ms ↔ k ∈ ns) → H p = none → Q (.ref p) (upd H p (.lst (ms.map .int)))
theorem cr_sortI (hc : X.calm = true) : CallR X (.builtin "sorted") (rSortI X.w) := by
  intro pins s σ H vs us Q I rv ⟨a, ns, e, ha, few, q⟩
  subst e
  rw [Vals.ref1 rv]
  have ⟨c, R, lc⟩ := (show ∃ c, SetR X.w s.heap a (fun j => decide (j ∈ ns)) c ∧ c ≤ ns.length from (I.hok a _ ha).1)
  refine sorted_set R (I.ok.hd hc) (by omega) fun s1 p out n ms keep g1 o1 hp hg him inc mem len => ?_
  have hn0 : H p = none := I.hok.fresh hp
  have hlen : (ms.map V.int).length ≤ sizeLine := by
    rw [List.length_map, sizeLine_eq]
    omega
  have J : Inv X pins σ (upd H p (.lst (ms.map V.int))) { s with heap := s1.heap, gens := s1.gens, drawn := s1.drawn, toks := s1.toks } :=
    I.call (ch := []) (Un.laid keep hp hn0) (I.hok.laid keep hp ⟨hlen, out.toList, n, vals_of_ints him, by simpa using hg⟩) (by rw [g1]; exact I.bare) fun _ z => nomatch z
  refine ⟨.ref p, upd H p (.lst (ms.map V.int)), ?_, rfl, q ms p inc (fun k => by rw [mem]; simp) hn0⟩
  obtain ⟨h1, gg1, d1, t1, os1⟩ := s1
  have z : os1 = s.os := o1
  subst z
  exact J
def rLenI (w : World) : List V → Hp → VK → Prop := fun vs H Q => ∃ (a : Addr) (ns : List Int), vs = [.ref a] ∧ H a = some (ISetO w a ns) ∧ ns.length < 60 ∧ Q (.int ((nubD (ns.map .int)).length : Nat)) H
theorem cr_lenI : CallR X (.builtin "len") (rLenI X.w) := by
  intro pins s σ H vs us Q I rv ⟨a, ns, e, ha, few, q⟩
  subst e
  rw [Vals.ref1 rv]
  have ⟨c, R, lc⟩ := (show ∃ c, SetR X.w s.heap a (fun j => decide (j ∈ ns)) c ∧ c ≤ ns.length from (I.hok a _ ha).1)
  obtain ⟨o, es, ep, t, ho, hex, hd, _, nd, hm, _, hf, hn, _⟩ := R
  have num : ∀ x ∈ ns.map D.int, numD x = true := fun x hx => by
    obtain ⟨i, _, rfl⟩ := List.mem_map.mp hx
    rfl
  have hl : (nubD (ns.map .int)).length = es.size := by
    have nd2 : ((es.toList.map keyOf).map D.int).Nodup := List.pairwise_map.mpr (nd.imp fun h e => h (by injection e))
    have pm : (nubD (ns.map .int)).Perm ((es.toList.map keyOf).map D.int) := (List.perm_ext_iff_of_nodup (nubD_nodup num) nd2).mpr fun d => by
      rw [nubD_mem num]
      constructor
      · intro h
        obtain ⟨i, hi, rfl⟩ := List.mem_map.mp h
        exact List.mem_map.mpr ⟨i, (hm i).mp (by simpa using hi), rfl⟩
      · intro h
        obtain ⟨i, hi, rfl⟩ := List.mem_map.mp h
        exact List.mem_map.mpr ⟨i, by simpa using (hm i).mpr hi, rfl⟩
    have := pm.length_eq
    simpa using this
  refine call_len_set ho hex hd hf (by omega) ⟨.int ((nubD (ns.map .int)).length : Nat), H, I.tok _, ⟨_, by rw [hl]⟩, q⟩
theorem ltX_int (i j : Int) : ltX (.int i) (.int j) = decide (i < j) := by
  have : ltX (.int i) (.int j) = (decide (i < j) || (!decide (j < i) && false)) := by
    simp only [ltX, toPy, PySem.W.dataLt, PySem.W.keyToks]
    rw [PyProof.Rows.lex_cons]
    rfl
  rw [this]
  simp
theorem ints_sort {ns ms : List Int} (inc : ms.Pairwise (· < ·)) (mem : ∀ k, k ∈ ms ↔ k ∈ ns) : sortD (nubD (ns.map .int)) = ms.map .int := by
  refine (sort_one (fun x hx => ?_) (fun x hx y hy => ?_) ?_ (fun d => ?_) ?_).symm
  · obtain ⟨i, _, rfl⟩ := List.mem_map.mp hx
    rfl
  · obtain ⟨i, _, rfl⟩ := List.mem_map.mp hx
    obtain ⟨j, _, rfl⟩ := List.mem_map.mp hy
    rfl
  · exact List.pairwise_map.mpr (inc.imp fun {a b} h e => by
      injection e with e
      omega)
  · constructor
    · intro h
      obtain ⟨i, hi, rfl⟩ := List.mem_map.mp h
      exact List.mem_map.mpr ⟨i, (mem i).mp hi, rfl⟩
    · intro h
      obtain ⟨i, hi, rfl⟩ := List.mem_map.mp h
      exact List.mem_map.mpr ⟨i, (mem i).mpr hi, rfl⟩
  · refine List.pairwise_map.mpr (inc.imp fun {a b} h => ?_)
    rw [ltX_int, decide_eq_false (by omega)]
theorem Reps.ints {H : Hp} {G : Wd} : ∀ ns : List Int, Reps T H G (ns.map .int) (ns.map .int)
  | [] => rfl
  | n :: ns => ⟨_, _, rfl, rfl, Reps.ints ns⟩
end
end Br

/-! Br3k: dicts of the program's own, written dicts, how many tuples of numbers differ. -/
namespace Br
open PySem PySem.Spec PyProof.Rows L2
section
variable {X : Cx} {T : Tb}
/-- sorted(d), whole numbers as keys, any number of them -/
def rSortDA : List V → Hp → VK → Prop := fun xs H Q => ∃ (a : Addr) (kvs : List (L2.Key × V)) (ks : List Int), xs = [.ref a] ∧ Rd H a (.dK kvs) ∧ kvs.map (·.1) = ks.map Sum.inl ∧
  ∀ (p : Addr), H p = none → Q (.ref p) (upd H p (.lst ((sortI ks).map V.int)))
theorem cr_sortDA (hcalm : X.calm = true) : CallR X (.builtin "sorted") rSortDA := by
  intro pins s σ H xs us Q I r q
  obtain ⟨a, kvs, ks, ex, hd, hks, q⟩ := q
  subst ex
  obtain ⟨u, eu, rx⟩ := vals1 r
  subst eu
  cases rx
  obtain ⟨z, lo, vs, rel, dd⟩ := dk_rd I.hok hd
  obtain ⟨ep, hat⟩ := dd.dictAt
  have hkeys : vs.map (·.1) = ks.map Sum.inl := rel.keys.symm.trans hks
  have hl : vs.length = ks.length := by
    have e := congrArg List.length hkeys
    rw [List.length_map, List.length_map] at e
    exact e
  have h16 : vs.length ≤ sizeLine := by rw [← rel.length]; exact z
  refine Calls.call_function_entry PyProof.Rows.kind_sorted PyProof.Rows.plain_sorted PyProof.Rows.entry_sorted (PyProof.Rows.args_sorted1 _) ?_
  unfold Builtin.«sorted»
  refine wpAny_bind (m := checkCount "sorted" 1 1 _) (wpAny_pure ?_)
  refine wpAny_bind (PySem.W.kdu_collect (A := X.A.in1) (PySem.W.kdl_dict (knd := mixKind X.prog X.w) (kvs := vs) (ep := ep) lo) (I.ok.hd hcalm) hat h16 fun h' tk acc hk hacc => ?_)
  have hal : acc.toList.length = ks.length := by rw [Array.length_toList, hacc.1, hl]
  have hS : IntsAre acc.toList ks := ints_each hal fun j v e => by
    obtain ⟨k, x, e1, e2⟩ := hacc.2 j v (by rw [← Array.getElem?_toList]; exact e)
    have e3 : (vs.map (·.1))[j]? = some k := by rw [List.getElem?_map, e1]; rfl
    rw [hkeys, List.getElem?_map] at e3
    cases e4 : ks[j]? with
    | none => rw [e4] at e3; cases e3
    | some y =>
      rw [e4] at e3
      have e5 : Sum.inl y = k := Option.some.inj e3
      subst e5
      rcases keyIs_shape (show keyIs (Sum.inl y) v = true from e2) with ⟨i, t, ek, ev⟩ | ⟨z, t, ek, ev⟩
      · cases ek
        exact ⟨y, t, rfl, ev⟩
      · cases ek
  have I1 : Inv X pins σ H { s with heap := h', toks := tk } := I.kept hk
  have hz' : acc.toList.length ≤ sizeLine := by rw [hal, ← hl]; exact h16
  refine wpAny_bind (wpAny_newList ?_ hz')
  have hoL : (h'.push (seqObj "list" acc.toList.toArray 0)).get? h'.objs.size = some (seqObj "list" acc.toList.toArray 0) := Heap.get?_push_size _ rfl
  show wpAny _ _ _ _ _ { s with heap := h'.push (seqObj "list" acc.toList.toArray 0), toks := tk }
  refine wpAny_bind (wpAny_holding (wpAny_call_entry PyProof.Rows.slot_list_sort ⟨_, hoL, rfl⟩ PyProof.Rows.entry_list_sort
    (SrtO.list_sort_ord (s := { s with heap := h'.push (seqObj "list" acc.toList.toArray 0), toks := tk }) SrtO.swo_int hoL hz' (fun h2 => SrtO.ints_sortable hS h2) fun out h1 h2 => ⟨_, rfl, ?_⟩) (PyProof.Rows.args_list_sort _)))
  obtain ⟨g1, g2, g3⟩ := SrtO.ints_out hS h1 h2
  obtain ⟨e', he'⟩ := PyProof.Rows.sortedHeap_at (vs := acc.toList) (out := out.toArray) hoL
  have eo : out.map SrtO.iv = sortI ks := PySem.W.os_sorted_mergeSort g2 g3
  rw [eo] at g1
  have hlen : ((sortI ks).map V.int).length ≤ sizeLine := by
    rw [List.length_map, ← eo, g2.length_eq, ← hal]
    exact hz'
  refine wpAny_pure ⟨_, rfl, .ref h'.objs.size, upd H h'.objs.size (.lst ((sortI ks).map V.int)), I1.laid (t' := tk) (fun b u e => ?_) (Nat.le_refl _)
    (show ObjOk X.prog X.w _ _ _ (.lst ((sortI ks).map V.int)) from ⟨hlen, out, e', vals_of_ints g1, he'⟩), rfl, q _ (I1.hok.fresh (Nat.le_refl _))⟩
  have hb : b < h'.objs.size := Heap.lt_size e
  rw [PyProof.Rows.sortedHeap_old (Nat.ne_of_lt hb) (by rw [size_push']; exact Nat.lt_succ_of_lt hb)]
  exact Heap.get?_push_of_some _ e
/-- for k in d: d is not written from here on -/
def iKeysL (td : TE) : TI := fun σ H R => td σ H fun x H1 => ∃ d kvs, x = .ref d ∧ H1 d = some (.dK kvs) ∧ ∀ o, R (Itk d o kvs) (upd H1 d (.frz o (.dK kvs)))
theorem pi_keysL {tg e : Expr} {td : TE} (he : PE X e td) : PI X tg e (iKeysL td) := by
  refine ⟨fun pins s σ H R I h => ?_⟩
  refine thn (he.run pins s σ H _ I h) fun u s1 ⟨x, H1, I0, rx, d, kvs, ex, hd0, q⟩ => ?_
  subst ex
  obtain rfl : u = Value.ref d := rx
  obtain ⟨o, I1⟩ := I0.lock hd0 True.intro
  have hd : upd H1 d (.frz o (.dK kvs)) d = some (.frz o (.dK kvs)) := upd_same
  obtain ⟨hs, hgd, hx, es, ep, vs, hdt, hsz, kv, hm⟩ := I1.frzK hd
  refine iter_keys hs hgd hx hdt (pi_one (tk := s1.toks) I1 _ (turn_keys _ hdt) ⟨_, Heap.get?_push_size _ rfl, rfl, ?_⟩ (q o))
  rw [hsz] <;> rfl
/-- len(set(xs)), xs a list of tuples of numbers -/
def rLenT (K : PySem.W.Frag) (P : Program) (w : World) : List V → Hp → VK → Prop := fun vs H Q => ∃ (a : Addr) (L : List (Addr × List Int)), vs = [.ref a] ∧ H a = some (SetTO P w a L) ∧ (∀ p ∈ L, SqT K H p.1 (p.2.map V.int)) ∧
  ((L.map (·.2)).Nodup → Q (.int L.length) H)
theorem cr_lenT : CallR X (.builtin "len") (rLenT X.K X.prog X.w) := by
  intro pins s σ H vs us Q I rv ⟨a, L, e, ha, tup, q⟩
  subst e
  rw [Vals.ref1 rv]
  have R0 : SetT0 X.prog X.w s.heap a L := (show SetT0 X.prog X.w s.heap a L from (I.hok a _ ha).1)
  obtain ⟨es, ep, t, R⟩ := R0.full fun p hp => I.isT (tup p hp)
  obtain ⟨o, ho, hex, hd⟩ := R.ob
  have hf := R.fits
  have hs := R.size
  have few := R.few
  refine call_len_set ho hex hd hf (by omega) ⟨.int L.length, H, I.tok _, ⟨_, by rw [hs]⟩, q R.nd⟩
/-! a written dict of the module: texts to whole numbers -/
def kdB : List DictEntry → List (Str × Int) → Bool
  | [], [] => true
  | e :: r, (x, i) :: q => (match e.key, e.val with
    | .str y _, .int j _ => decide (y = x) && decide (j = i)
    | _, _ => false) && kdB r q
  | _, _ => false
/-- a is the written dict -/
def KdOk (K : PySem.W.Frag) (w : World) (a : Addr) (kvs : List (Str × Int)) : Prop :=
  ∃ es n, K.lookup a = some ⟨.type "dict", none, .dict es n, #[]⟩ ∧ PySem.W.KeysLit w.params es.toList ∧ (a == sysModules) = false ∧ kdB es.toList kvs = true
theorem kdB_find {x : Str} : ∀ {l : List DictEntry} {kvs : List (Str × Int)}, kdB l kvs = true → ∃ r : Option Value, (l.find? fun d => Value.isStrOf x d.key).map (·.val) = r ∧ ((getS kvs x = none ∧ r = none) ∨ ∃ i t, getS kvs x = some i ∧ r = some (.int i t))
  | [], [], _ => ⟨_, rfl, .inl ⟨rfl, rfl⟩⟩
  | e :: l, (y, i) :: kvs, h => by
    simp only [kdB, Bool.and_eq_true] at h
    obtain ⟨h1, h2⟩ := h
    obtain ⟨r, e1, e2⟩ := kdB_find (x := x) h2
    split at h1
    · rename_i z t j t2 ek ev
      simp only [Bool.and_eq_true, decide_eq_true_eq] at h1
      obtain ⟨rfl, rfl⟩ := h1
      by_cases hx : z = x
      · subst hx
        refine ⟨_, rfl, .inr ⟨j, t2, ?_, ?_⟩⟩
        · simp [getS]
        · rw [List.find?_cons, ek]
          have : Value.isStrOf z (.str z t) = true := by simp [Value.isStrOf]
          rw [this]
          show some e.val = _
          rw [ev]
      · refine ⟨r, ?_, ?_⟩
        · rw [List.find?_cons, ek]
          have : Value.isStrOf x (.str z t) = false := by simp [Value.isStrOf, hx]
          rw [this]
          exact e1
        · have : getS ((z, j) :: kvs) x = getS kvs x := by simp [getS, List.find?_cons, hx]
          rw [this]
          exact e2
    · cases h1
  | [], _ :: _, h => by cases h
  | _ :: _, [], h => by cases h
theorem kd_at {pins : List (Addr × Obj)} {σ : L2.St} {H : Hp} {s : Shared} {a : Addr} {kvs : List (Str × Int)} (I : Inv X pins σ H s) (h : KdOk X.K X.w a kvs) (x : Str) :
    ∃ f, s.heap.MapOf (strKind X.prog X.w) a f ∧ ((getS kvs x = none ∧ f x = none) ∨ ∃ i t, getS kvs x = some i ∧ f x = some (.int i t)) := by
  obtain ⟨es, n, hl, hk, _, hb⟩ := h
  refine ⟨_, PySem.W.mapOf_K (prog := X.prog) (w := X.w) I.kIn hl hk, ?_⟩
  obtain ⟨r, e1, e2⟩ := kdB_find (x := x) hb
  have e3 : findBy Value.isStrOf es x = r := by
    obtain ⟨l⟩ := es
    rw [← e1]
    unfold findBy
    rw [List.find?_toArray]
  rw [e3]
  exact e2
/-- a in X, a not in X -/
def rGin (neg : Bool) (kvs : List (Str × Int)) (d : Addr) : R2 := fun x y H Q => ∃ z, x = .str z ∧ y = .ref d ∧ Q (.bl (neg != (getS kvs z).isSome)) H
theorem op_gin {d : Addr} {kvs : List (Str × Int)} (kd : KdOk X.K X.w d kvs) : OpR X (compareOp .In) (rGin false kvs d) := by
  intro pins s σ H x y v u Q I rx ry h
  obtain ⟨z, rfl, rfl, q⟩ := h
  obtain ⟨t, rfl⟩ := (show ∃ t, v = Value.str z t from rx)
  obtain rfl : u = Value.ref d := ry
  obtain ⟨f, hm, hf⟩ := kd_at I kd z
  have hd : (d == sysModules) = false := by obtain ⟨_, _, _, _, h, _⟩ := kd; exact h
  have e : (false != (getS kvs z).isSome) = (f z).isSome := by
    rcases hf with ⟨h1, h2⟩ | ⟨i, t, h1, h2⟩ <;> rw [h1, h2] <;> rfl
  exact wpAny_in_of (strKind_is X.prog X.w z t) hd hm ⟨_, H, I.tok _, by rw [e]; rfl, q⟩
theorem op_gnin {d : Addr} {kvs : List (Str × Int)} (kd : KdOk X.K X.w d kvs) : OpR X (compareOp .NotIn) (rGin true kvs d) := by
  intro pins s σ H x y v u Q I rx ry h
  obtain ⟨z, rfl, rfl, q⟩ := h
  obtain ⟨t, rfl⟩ := (show ∃ t, v = Value.str z t from rx)
  obtain rfl : u = Value.ref d := ry
  obtain ⟨f, hm, hf⟩ := kd_at I kd z
  have hd : (d == sysModules) = false := by obtain ⟨_, _, _, _, h, _⟩ := kd; exact h
  have e : (true != (getS kvs z).isSome) = !(f z).isSome := by
    rcases hf with ⟨h1, h2⟩ | ⟨i, t, h1, h2⟩ <;> rw [h1, h2] <;> rfl
  exact wpAny_notIn_of (strKind_is X.prog X.w z t) hd hm ⟨_, H, I.tok _, by rw [e]; rfl, q⟩
/-- X[a] -/
def rGix (kvs : List (Str × Int)) (d : Addr) : R2 := fun x y H Q => ∃ z i, x = .ref d ∧ y = .str z ∧ getS kvs z = some i ∧ Q (.int i) H
theorem ix_gix {d : Addr} {kvs : List (Str × Int)} (kd : KdOk X.K X.w d kvs) : IxR X (rGix kvs d) := by
  intro value slice pins s σ H x y v u Q I rx ry h hs
  obtain ⟨z, i, rfl, rfl, hi, q⟩ := h
  obtain rfl : v = Value.ref d := rx
  obtain ⟨t, rfl⟩ := (show ∃ t, u = Value.str z t from ry)
  obtain ⟨f, hm, hf⟩ := kd_at I kd z
  rcases hf with ⟨h1, h2⟩ | ⟨j, t2, h1, h2⟩
  · rw [h1] at hi
    cases hi
  · rw [h1] at hi
    cases hi
    exact tail_any hm.typeIs slot_dict_getitem.lookup (wpAny_getItem_of (strKind_is X.prog X.w z t) hm h2 ⟨.int _, H, I.tok _, ⟨_, rfl⟩, q⟩) hs
end
end Br

/-! Br3r: tuple(reversed(a tuple)). -/
namespace Br
open PySem PySem.Spec PyProof.Rows L2 RT
theorem nolen_rt : typeLookup (.type "reversed") "__len__" = pure none := by rw [typeLookup_type, builtinLookup_eq_fast]; kernel_rfl
theorem hint_rt : typeLookup (.type "reversed") "__length_hint__" = pure (some (.builtin "reversed.__length_hint__")) := by rw [typeLookup_type, builtinLookup_eq_fast]; kernel_rfl
theorem slot_rt_hint : Slot "reversed" "__length_hint__" "reversed.__length_hint__" := .of (owner := "reversed") (n := "__length_hint__") (by rw [typeLookup_type, builtinLookup_eq_fast]; kernel_rfl) (by decide +kernel) (by decide +kernel) (by decide +kernel) (by first | exact .inl (by decide +kernel) | exact .inr (by decide +kernel)) (by rw [isSubtype_type]; kernel_rfl)
theorem entry_rt_hint : entryFor table "reversed.__length_hint__" = some Builtin.«reversed.__length_hint__» := entryFor_of_tree (by kernel_rfl)
theorem args_rt_hint (a : Value) : argsOk "reversed.__length_hint__" ⟨[a], []⟩ := by unfold argsOk; rw [signature?_of (id := "reversed.__length_hint__") (n := ['_', '_', 't', 'n', 'i', 'h', '_', 'h', 't', 'g', 'n', 'e', 'l', '_', '_']) (o := ['d', 'e', 's', 'r', 'e', 'v', 'e', 'r']) (by kernel_rfl) owner_rt]; kernel_rfl
theorem tup_at {h h' : Heap} {t : Addr} {items : Array Value} (x : IsTup h t items) (e : ∀ o, h.get? t = some o → h'.get? t = some o) : IsTup h' t items := by
  obtain ⟨o, ho, r⟩ := x
  exact ⟨o, e _ ho, r⟩
section
variable {prog : Program} {w : World} {A : Around} {E : Value → Shared → Prop} {s : Shared}
theorem call_rt_hint {it t : Addr} {items : Array Value} {Q : Value → Shared → Prop} (hit : IsRt s.heap it t ((items.size : Int) - 1)) (ht : IsTup s.heap t items) (hn : items.size ≤ sizeLine) (h : ∀ k tk, Q (.int items.size k) { s with toks := tk }) : wpAny (model prog w) A (call (.builtin "reversed.__length_hint__") [.ref it]) Q E s := by
  obtain ⟨o, ho, hc, hd⟩ := id hit
  refine wpAny_call_entry slot_rt_hint hit.typeIs entry_rt_hint ?_ (args_rt_hint _)
  unfold Builtin.«reversed.__length_hint__»
  refine wpAny_bind (wpAny_of_eq (a := Value.ref it) rfl ?_)
  try dsimp only
  refine wpAny_bind (wpAny_field ho hd (x := .ref t) rfl ?_)
  try dsimp only
  rw [if_neg (by first | decide +revert | (intro z; cases z) | simp)]
  have l63 := line63
  refine wpAny_bind (len_tuple ht (by omega) ?_)
  refine wpAny_bind (wpAny_of_eq (a := some ((items.size : Nat) : Int)) rfl ?_)
  try dsimp only
  refine wpAny_bind (wpAny_field (s := { s with toks := s.toks + 1 + 1 }) ho hd (x := rawInt ((items.size : Int) - 1)) rfl ?_)
  show wpAny _ _ (if ((items.size : Nat) : Int) < (items.size : Int) - 1 + 1 then _ else _) _ _ _
  rw [if_neg (by omega)]
  have e1 : (items.size : Int) - 1 + 1 = items.size := by omega
  rw [e1]
  unfold retInt
  refine wpAny_bind (wpAny_mkInt ?_)
  exact wpAny_pure ⟨_, rfl, h _ _⟩
/-- what is walked: a tuple, from its end -/
theorem walks_rt (hh : A.handled = none) {I l : Addr} (hne : l ≠ I) {items : Array Value} (hz : items.size ≤ sizeLine) : Walks prog w A I [I, l] [I] items.size (fun i v => items[items.size - 1 - i]? = some v) (fun i h => i ≤ items.size ∧ IsRt h I l ((items.size : Int) - 1 - (i : Int)) ∧ IsTup h l items) where
  sub := fun b hb => List.mem_cons.mpr (.inl (List.mem_singleton.mp hb))
  frame := fun _ _ _ ⟨x1, x2, x3⟩ hk => ⟨x1, x2.at fun o e => hk I List.mem_cons_self o e, tup_at x3 fun o e => hk l (List.mem_cons_of_mem _ List.mem_cons_self) o e⟩
  item := fun i s Q E hi ⟨x1, x2, x3⟩ hQ => by
    have e : (items.size : Int) - 1 - (i : Int) = ((items.size - 1 - i : Nat) : Int) := by omega
    rw [e] at x2
    have hx := Array.getElem?_eq_getElem (xs := items) (i := items.size - 1 - i) (by omega)
    refine next_rt_item x2 x3 hx hz fun h' y1 y2 => ?_
    rw [show ((items.size - 1 - i : Nat) : Int) - 1 = (items.size : Int) - 1 - ((i + 1 : Nat) : Int) by omega] at y1
    exact hQ _ h' _ hx ⟨hi, y1, tup_at x3 fun o eo => (y2.2 l hne).trans eo⟩ fun b o hb eo => y2.extBut b o (fun z => hb (List.mem_singleton.mpr z)) eo
  done := fun s Q E ⟨x1, x2, x3⟩ hQ => by
    rw [show (items.size : Int) - 1 - (items.size : Int) = -1 by omega] at x2
    exact next_rt_end hh x2 fun h' y => hQ h' s.toks fun b o hb eo => y b o (fun z => hb (List.mem_singleton.mpr z)) eo
  self := fun _ _ _ _ ⟨_, x2, _⟩ hQ => iter_rt x2 hQ
/-- all of it, in a list -/
theorem collect_rt {it l : Addr} {items : Array Value} {Q : List Value → Shared → Prop} (hh : A.handled = none) (hit : IsRt s.heap it l ((items.size : Int) - 1)) (hl : IsTup s.heap l items) (hne : l ≠ it) (hn : items.size ≤ sizeLine)
    (hQ : ∀ (h' : Heap) (tk : Nat) (acc : Array Value), (∀ b o, b ≠ it → s.heap.get? b = some o → h'.get? b = some o) → ItemsOf (fun i v => items[items.size - 1 - i]? = some v) acc items.size → Q acc.toList { s with heap := h', toks := tk }) : wpAny (model prog w) A (collect (.ref it)) Q E s := by
  have W := (walks_rt (prog := prog) (w := w) (A := A.in1) hh hne hn).toS
  obtain ⟨oi, hoi, _⟩ := id hit
  obtain ⟨ol, hol, _⟩ := id hl
  have n1 : s.heap.objs.size ≠ it := Nat.ne_of_gt (Heap.lt_size hoi)
  have n2 : s.heap.objs.size ≠ l := Nat.ne_of_gt (Heap.lt_size hol)
  have n3 : s.heap.objs.size ∉ [it, l] := by simp [n1, n2]
  unfold collect
  refine wpAny_bind (wpAny_runValue (codeAny_builtin F.entry_proto_collect ?_)); rw [Around.under_plainId F.plain_proto_collect _]
  show wpAny _ A.in1 (newList [] >>= fun r => again (.builtin "list.__iadd__" ⟨[r, .ref it], []⟩)) _ _ s
  refine wpAny_bind (wpAny_newObj_type ?_); refine wpAny_pure ⟨plainId_quiet F.plain_list_iadd _, codeAny_builtin F.entry_list_iadd ?_⟩; rw [Around.under_plainId F.plain_list_iadd _]
  generalize hgz : s.heap.push { cls := .type "list", data := .seq ([] : List Value).toArray } = hz
  have y0 : hz.get? s.heap.objs.size = some { cls := .type "list", data := .seq ([] : List Value).toArray } := by rw [← hgz]; exact Heap.get?_push_size _ rfl
  have yk : ∀ b o, s.heap.get? b = some o → hz.get? b = some o := fun b o e => by rw [← hgz]; exact Heap.get?_push_of_some _ e
  have y1 : IsRt hz it l ((items.size : Int) - 1) := hit.at fun o e => yk _ _ e
  have y2 : IsTup hz l items := tup_at hl fun o e => yk _ _ e
  have yT : ({ s with heap := hz } : Shared).TypeIs (.ref it) "reversed" := IsRt.typeIs (s := { s with heap := hz }) y1
  show wpAny _ A.in1 (Builtin.List.listExtendWith (.ref s.heap.objs.size) (.ref it) (.ref s.heap.objs.size)) _ _ _
  unfold Builtin.List.listExtendWith
  refine wpAny_bind (wpAny_typeOf yT ?_)
  have hs : Builtin.List.listSameRef (.ref s.heap.objs.size) (.ref it) = false := by simp [Builtin.List.listSameRef, n1]
  rw [if_neg (by rw [hs]; decide)]
  refine wpAny_bind (iter_rt (s := { s with heap := hz }) y1 ?_)
  refine wpAny_bind (wpAny_holding ?_)
  unfold Builtin.List.listLengthHint
  refine wpAny_bind (wpAny_specialOf yT nolen_rt ?_)
  show wpAny _ A.in1 (specialOf (Value.ref it) (Str.ofString "__length_hint__") >>= _) _ _ _
  refine wpAny_bind (wpAny_specialOf yT hint_rt ?_)
  generalize hid : ("reversed.__length_hint__" : String) = id0
  wp_delta
  rw [show splitId id0 = some ("reversed", "__length_hint__") from by subst hid; decide +kernel]
  subst hid
  refine wpAny_bind (wpAny_isInstance (b := true) yT (by rw [isSubtype_type]; kernel_rfl) ?_)
  try dsimp only
  rw [if_neg (by decide)]
  refine wpAny_ite ?_
  split
  · rename_i hq
    exact absurd hq (by decide +kernel)
  refine wpAny_bind (wpAny_rule ?_); refine wpAny_bind (wpAny_of_eq (slot_rt_hint.bind _) ?_)
  try dsimp only
  refine wpAny_bind (wpAny_attempt (call_rt_hint (s := { s with heap := hz }) y1 y2 hn fun k tk => ?_))
  try dsimp only
  have ea : asInt? (Value.int (items.size : Int) k) = pure (some (items.size : Int)) := rfl
  refine wpAny_bind ?_
  rw [ea]
  refine wpAny_pure ?_
  have l63 := line63
  have f1 : ¬ ((!Builtin.List.listFitsIndex ((items.size : Nat) : Int)) = true) := by
    unfold Builtin.List.listFitsIndex
    simp only [Bool.not_eq_true', Bool.and_eq_false_iff, decide_eq_false_iff_not]
    omega
  have f2 : ¬ (Builtin.List.listTooLong ((items.size : Nat) : Int).toNat = true) := by
    unfold Builtin.List.listTooLong
    rw [Int.toNat_natCast, decide_eq_true_eq]
    omega
  try dsimp only
  rw [if_neg f1, if_neg (by omega), if_neg f2]
  refine wpAny_pure ?_
  have e0 : ((items.size : Nat) : Int) - 1 - ((0 : Nat) : Int) = (items.size : Int) - 1 := by omega
  refine wpAny_ite ?_
  split
  · refine wpAny_bind (wpAny_rule ?_)
    refine wpAny_bind ?_
    show wpAny _ A.in1 (updateSeq s.heap.objs.size (·.push .none) >>= fun _ => updateSeq s.heap.objs.size (·.pop)) _ _ _
    refine wpAny_bind (wpAny_updateSeq (s := { s with heap := hz, toks := tk }) y0 rfl ?_)
    have w2 := Heap.get?_update_self (Obj.mapSeq (·.push Value.none)) y0 rfl
    refine wpAny_updateSeq (s := { s with heap := hz.update s.heap.objs.size (Obj.mapSeq (·.push Value.none)), toks := tk }) (hz := by seq_fits) w2 rfl ?_
    have w3 := Heap.get?_update_self (Obj.mapSeq (·.pop)) w2 rfl
    generalize hgy : (hz.update s.heap.objs.size (Obj.mapSeq (·.push Value.none))).update s.heap.objs.size (Obj.mapSeq (·.pop)) = hy at w3
    have ok : ∀ b o, b ≠ s.heap.objs.size → hz.get? b = some o → hy.get? b = some o := fun b o hb e => by
      rw [← hgy]
      exact (Heap.get?_update_other _ _ (Ne.symm hb)).trans ((Heap.get?_update_other _ _ (Ne.symm hb)).trans e)
    refine wpAny_pure ⟨plainId_quiet F.plain_extend_loop _, codeAny_extend_loopS W hn _ n3 _ items.size 0 _ _ _ rfl (Nat.zero_le _) ⟨Nat.zero_le _, by rw [e0]; exact y1.at fun o e => ok _ _ (Ne.symm n1) e, tup_at y2 fun o e => ok _ _ (Ne.symm n2) e⟩ w3 (ItemsOf.nil _) fun s' acc' c' hm hS' hacc => ?_⟩
    show wpAny _ A (load s.heap.objs.size >>= _) _ _ s'
    refine wpAny_bind (wpAny_load hS' ?_); refine wpAny_pure ?_; rw [Moved.eq_with hm]
    refine hQ s'.heap s'.toks acc' (fun b o hb e => hm.heap b o (fun z => ?_) (ok _ _ (fun z => ?_) (yk _ _ e))) hacc
    · rcases List.mem_cons.mp z with z | z
      · exact absurd (Heap.lt_size e) (by rw [z]; exact Nat.lt_irrefl _)
      · exact hb (List.mem_singleton.mp z)
    · exact absurd (Heap.lt_size e) (by rw [z]; exact Nat.lt_irrefl _)
  · refine wpAny_pure ⟨plainId_quiet F.plain_extend_loop _, codeAny_extend_loopS W hn _ n3 _ items.size 0 _ _ _ rfl (Nat.zero_le _) ⟨Nat.zero_le _, by rw [e0]; exact y1, y2⟩ y0 (ItemsOf.nil _) fun s' acc' c' hm hS' hacc => ?_⟩
    show wpAny _ A (load s.heap.objs.size >>= _) _ _ s'
    refine wpAny_bind (wpAny_load hS' ?_); refine wpAny_pure ?_; rw [Moved.eq_with hm]
    refine hQ s'.heap s'.toks acc' (fun b o hb e => hm.heap b o (fun z => ?_) (yk _ _ e)) hacc
    rcases List.mem_cons.mp z with z | z
    · exact absurd (Heap.lt_size e) (by rw [z]; exact Nat.lt_irrefl _)
    · exact hb (List.mem_singleton.mp z)
theorem new_tuple_rt {it l : Addr} {items : Array Value} {Q₁ : Value → Shared → Prop} (hh : A.handled = none) (hit : IsRt s.heap it l ((items.size : Int) - 1)) (hl : IsTup s.heap l items) (hne : l ≠ it) (hn : items.size ≤ sizeLine)
    (h : ∀ (h' : Heap) (tk : Nat) (acc : Array Value), (∀ b o, b ≠ it → s.heap.get? b = some o → h'.get? b = some o) → ItemsOf (fun i v => items[items.size - 1 - i]? = some v) acc items.size → Q₁ (.ref h'.objs.size) { s with heap := h'.push { cls := .type "tuple", data := .seq acc }, toks := tk }) :
    codeAny (model prog w) A (.call (.builtin "tuple.__new__") ⟨[.type "tuple", .ref it], []⟩) (wants Q₁ E) s := by
  refine codeAny_of_tree ?_; show wpAny _ A.in1 (do checkBuiltinCall "tuple.__new__" ⟨[.type "tuple", .ref it], []⟩; again (.builtin "tuple.__new__" ⟨[.type "tuple", .ref it], []⟩)) _ _ s
  refine wpAny_bind (wpAny_of_eq (F.newCall_tuple_1 _) (wpAny_pure ⟨plainId_quiet F.plain_tuple_new _, codeAny_builtin F.entry_tuple_new ?_⟩)); rw [Around.under_plainId F.plain_tuple_new _]
  unfold Builtin.«tuple.__new__»
  have y1 := sub_tuple_self; have y2 := init_tuple_lookup; have y3 := madeHere_tuple
  have yT := IsRt.typeIs hit
  have yh : A.in1.handled = none := hh
  wp_walk using wpAny_typeOf yT, collect_rt (A := A.in1) yh hit hl hne hn
  intro h' tk acc hk hacc
  show wpAny _ _ (Builtin.Tuple.tupleExact acc.toList.toArray >>= fun v => ret v) _ _ _
  unfold Builtin.Tuple.tupleExact
  have e : acc.toList.toArray = acc := by simp
  refine wpAny_bind (wpAny_newObj_type ?_ (by show acc.toList.toArray.size ≤ sizeLine; rw [e, hacc.1]; exact hn)); refine wpAny_pure ?_; rw [e]
  exact h h' tk acc hk hacc
theorem call_tuple_rt {it l : Addr} {items : Array Value} {Q : Value → Shared → Prop} (hh : A.handled = none) (hit : IsRt s.heap it l ((items.size : Int) - 1)) (hl : IsTup s.heap l items) (hne : l ≠ it) (hn : items.size ≤ sizeLine)
    (hQ : ∀ (h' : Heap) (tk : Nat) (acc : Array Value), (∀ b o, b ≠ it → s.heap.get? b = some o → h'.get? b = some o) → ItemsOf (fun i v => items[items.size - 1 - i]? = some v) acc items.size → Q (.ref h'.objs.size) { s with heap := h'.push { cls := .type "tuple", data := .seq acc }, toks := tk }) :
    wpAny (model prog w) A (call (.type "tuple") [.ref it]) Q E s :=
  callType_codes (Q₁ := fun obj s₁ => s₁.TypeIs obj "tuple" ∧ Q obj s₁) F.called_tuple (F.typeCall_tuple_1 _) F.entry_object_init (new_tuple_rt (A := A.in1) hh hit hl hne hn fun h' tk acc hk hacc => ⟨⟨_, Heap.get?_push_size _ rfl, rfl⟩, hQ h' tk acc hk hacc⟩) fun obj s₁ h₁ =>
    ⟨h₁.1, F.args_object_init_2 obj _, object_init_meets F.called_tuple.init.lookup F.called_tuple.made (by decide) prog w A.in1 _ s₁ ⟨h₁.1, rfl, h₁.2⟩⟩
end
/-- tuple(reversed(x)), x a tuple: a new tuple -/
def tRevT (K : PySem.W.Frag) (te : TE) : TE := fun σ H Q => te σ H fun v H1 => ∃ (a : Addr) (xs : List V), v = .ref a ∧ SqT K H1 a xs ∧ ∀ q, H1 q = none → Q (.ref q) (upd H1 q (.tup xs.reverse))
section
variable {X : Cx}
theorem pe_revT {e : Expr} {te : TE} {p p2 pos pos2 : Pos} (hc : X.calm = true) (hg : Gl X "tuple") (hm : X.mg "tuple" = none) (hg2 : Gl X "reversed") (hm2 : X.mg "reversed" = none) (he : PE X e te) (hs : starEach [e] X.env = (false, eval e X.env) :: starEach [] X.env := by rfl)
    (hs2 : starEach [.Call (.Name "reversed" p2) [e] [] pos2] X.env = (false, eval (.Call (.Name "reversed" p2) [e] [] pos2) X.env) :: starEach [] X.env := by rfl) : PE X (.Call (.Name "tuple" p) [.Call (.Name "reversed" p2) [e] [] pos2] [] pos) (tRevT X.K te) := by
  refine ⟨fun pins s σ H Q I h => Call_ (ld_blt I hg hm boot_tuple (PyProof.Rows.callWith_type1 (args_cons (Call_ (ld_blt I hg2 hm2 PyProof.Rows.boot_reversed (PyProof.Rows.callWith_type1 (args_cons (thn (he.run pins s σ H _ I h) fun u s1 ⟨v, H1, I1, r1, q1⟩ => args_nil ?_) hs) hs rfl))) hs2) hs2 rfl))⟩
  obtain ⟨a, xs, rfl, hq, q⟩ := q1
  obtain rfl : u = Value.ref a := r1
  obtain ⟨its, rv, p', hz⟩ := I1.tuple hq
  have hl := rv.length
  have l63 := line63
  refine call_reversed_tup p' (fun A E Q k => len_tuple p' (by simp only [List.size_toArray] <;> omega) k) (args_nil ?_)
  generalize hgz : s1.heap.push (rtObj a ((its.toArray.size : Int) - 1)) = hz2
  have y0 : hz2.get? s1.heap.objs.size = some (rtObj a ((its.toArray.size : Int) - 1)) := by rw [← hgz]; exact Heap.get?_push_size _ rfl
  have k0 : ∀ b o, s1.heap.get? b = some o → hz2.get? b = some o := fun b o e => by rw [← hgz]; exact Heap.get?_push_of_some _ e
  have I2 : Inv X pins σ H1 { s1 with heap := hz2, toks := s1.toks + 1 + 1 } := I1.kept (t' := s1.toks + 1 + 1) k0
  obtain ⟨f0, f1, f2, f3, f4, f5⟩ := I1.fpOk (H' := H1) (b := s1.heap.objs.size) (Nat.le_refl _) (I1.hok.fresh (Nat.le_refl _))
  obtain ⟨ol, hol, _⟩ := id p'
  have hne : a ≠ s1.heap.objs.size := Nat.ne_of_lt (Heap.lt_size hol)
  have hn : its.toArray.size ≤ sizeLine := by rw [List.size_toArray, ← hl]; exact hz
  refine call_tuple_rt (s := { s1 with heap := hz2, toks := s1.toks + 1 + 1 }) (I1.ok.hd hc) ⟨_, y0, rfl, rfl⟩ (tup_at p' fun o e => k0 _ _ e) hne hn fun h' tk acc hk hi => ?_
  have I3 : Inv X pins σ H1 { s1 with heap := h', toks := tk } := I2.turned (t' := tk) (fun b o hb e => hk b o hb e) f0 f1 f3 f4 f5
  refine ⟨.ref h'.objs.size, upd H1 h'.objs.size (.tup xs.reverse), I3.laid (t' := tk) (fun c o e => Heap.get?_push_of_some _ e) (Nat.le_refl _) (show ObjOk X.prog X.w _ _ _ (.tup xs.reverse) from ⟨by rw [List.length_reverse]; exact hz, acc.toList, vals_rev rv hi, ?_⟩), rfl, q _ (I3.hok.fresh (Nat.le_refl _))⟩
  rw [Array.toArray_toList]; exact IsTup.new _ _
end
end Br

/-! Br3t: sorted(set(a tuple of pairs of ints)); min(a, b, c, d). -/
namespace Br
open PySem PySem.Spec PyProof.Rows L2
section
variable {P : Program} {w : World} {A : Around} {E : Value → Shared → Prop} {s : Shared}
/-- set(xs), xs a tuple of tuples of ints -/
theorem call_setT_tuple {l : Addr} {its : Array Value} (ks : List (Addr × List Int)) {Q : Value → Shared → Prop} (hh : A.handled = none) (hl : s.heap.IsTuple l its) (hit : its.toList = ks.map fun p => Value.ref p.1) (hk : ∀ p ∈ ks, L2.IsT P w s.heap p.2 p.1) (few : ks.length < 64) (room : A.units + 20 < cLine)
    (q : ∀ (h' : Heap) (tk : Nat) L es ep t, L2.SetTR P w h' s.heap.objs.size L es ep t → L2.Got ks ks.length L → (∀ b o, s.heap.get? b = some o → h'.get? b = some o) → Q (.ref s.heap.objs.size) { s with heap := h', toks := tk }) : wpAny (model P w) A (call (.type "set") [.ref l]) Q E s := by
  have hsz : its.size = ks.length := by
    have := congrArg List.length hit
    rwa [Array.length_toList, List.length_map] at this
  obtain ⟨_, _, hmro⟩ := F.called_set.mro
  have made := F.called_set.made
  have sub1 := F.called_set.sub
  refine wpAny_call (codeAny_of_tree ?_)
  show wpAny _ _ (callAny (.type "set") ⟨[.ref l], []⟩) _ _ s
  refine wpAny_pure ⟨Code.quiet_builtin _ (by decide +kernel), codeAny_builtin F.entry_type_call ?_⟩
  rw [Around.under_plain (weight_type_call_type "set" [Value.ref l] []) rfl]
  have not_type := F.called_set.notType
  have can := F.called_set.canCreate
  have tcall := F.typeCall_set_1 (.ref l)
  repeat any_goals (first | assumption | wp_step)
  refine codeAny_mono (code_set_led1 (.ref l) (E := E) (Q₁ := fun obj z => obj = .ref s.heap.objs.size ∧ z = { s with heap := s.heap.push (set0 w) }) ⟨rfl, rfl⟩) fun r z hr => ?_
  cases r with
  | error e => exact hr
  | ok fl =>
    cases fl with
    | ret obj =>
      obtain ⟨rfl, rfl⟩ := hr
      have hS : (s.heap.push (set0 w)).get? s.heap.objs.size = some (set0 w) := Heap.get?_push_size _ rfl
      have hT : Shared.TypeIs { s with heap := s.heap.push (set0 w) } (.ref s.heap.objs.size) "set" := ⟨_, hS, rfl⟩
      have look := F.called_set.init.lookup
      have bind1 := F.called_set.init.bind (.ref s.heap.objs.size)
      repeat any_goals (first | assumption | wp_step)
      refine codeAny_mono (codeAny_call_builtin (R := wants (fun r z => r = .none ∧ ∃ h' tk L es ep t, z = { s with heap := h', toks := tk } ∧ L2.SetTR P w h' s.heap.objs.size L es ep t ∧ L2.Got ks ks.length L ∧ (∀ b o, s.heap.get? b = some o → h'.get? b = some o)) E)
        F.called_set.init.plain F.entry_set_init (check_set_init_1 hT ?_)) fun r2 z2 hr2 => ?_
      · obtain ⟨⟨oc, od, odt, os⟩, hol, hcl, nl, hdl⟩ := hl
        simp only at hcl hdl
        subst hcl hdl
        have hol2 : (s.heap.push (set0 w)).get? l = some { cls := .type "tuple", dict := od, data := .seq its nl, slots := os } := Heap.get?_push_of_some _ hol
        have no1 := F.sub_tuple_set
        have no2 := F.sub_tuple_frozenset
        have no3 : (Value.type "tuple" == Value.type "dict") = false := by decide
        have hl2 : (s.heap.push (set0 w)).IsTuple l its := ⟨_, hol2, rfl, nl, rfl⟩
        unfold Builtin.«set.__init__» noKeywords Builtin.Frozenset.updateFrom
        generalize hPI : pyIter = PI
        wp_walk
        subst hPI
        refine wpAny_pyIter_tuple hl2 (wpAny_bind (wpAny_runValue ?_))
        have hlS : l < s.heap.objs.size := lt_sz hol
        have hh3 : A.in1.in1.in1.handled = none := by simp [hh]
        have sz1 : (s.heap.push (set0 w)).objs.size = s.heap.objs.size + 1 := Heap.size_push ..
        have neI : l ≠ (s.heap.push (set0 w)).objs.size := by
          rw [sz1]
          exact Nat.ne_of_lt (Nat.lt_succ_of_lt hlS)
        have off : s.heap.objs.size ∉ [(s.heap.push (set0 w)).objs.size, l] := by
          rw [sz1]
          simp only [List.mem_cons, List.not_mem_nil, or_false, not_or]
          exact ⟨Nat.ne_of_lt (Nat.lt_succ_self _), Nat.ne_of_gt hlS⟩
        have val : ∀ (i : Nat) (v : Value), its[i]? = some v → ∃ p, ks[i]? = some p ∧ v = .ref p.1 := fun i v hv => by
          have e : its.toList[i]? = some v := by rw [Array.getElem?_toList]; exact hv
          rw [hit, List.getElem?_map] at e
          cases ek : ks[i]? with
          | none => rw [ek] at e; cases e
          | some p =>
            rw [ek] at e
            exact ⟨p, rfl, (Option.some.inj e).symm⟩
        have gone : ∀ b, s.heap.objs.size ≤ b → s.heap.get? b = none := fun b hb => by
          cases e : s.heap.get? b with
          | none => rfl
          | some o => exact absurd (Nat.lt_of_lt_of_le (lt_sz e) hb) (Nat.lt_irrefl _)
        have get0 : ((s.heap.push (set0 w)).push { cls := .type "tuple_iterator", data := .fields #[.ref l, .int 0 0] }).get? s.heap.objs.size = some (set0 w) := Heap.get?_push_of_some _ hS
        refine L2.set_update_tups ((Walks.tuple hh3 _ l neI its).toS) s.heap.objs.size off ks hsz few val s.heap hk (gone _ (Nat.le_refl _)) (fun b hb => gone b (by
            rw [List.mem_singleton.mp hb, sz1]
            exact Nat.le_succ _)) (by first | omega | (simp; omega)) (its.size - 0) 0 _ (by omega) (Nat.zero_le _)
          ⟨⟨_, Heap.get?_push_size _ rfl, rfl, rfl⟩, (hl2.push _)⟩ (fun b o e => Heap.get?_push_of_some _ (Heap.get?_push_of_some _ e)) ⟨[], #[], 0, _, L2.setTR_fresh get0, L2.Got.zero ks⟩ ?_
        intro y L es ep t mv hS2 g kp
        obtain ⟨h', g2, d', tk, os'⟩ := y
        have e1 : g2 = s.gens := mv.gens
        have e2 : d' = s.drawn := mv.drawn
        have e3 : os' = s.os := mv.os
        subst e1 e2 e3
        show wpAny _ _ _ _ _ _
        refine wpAny_pure ?_
        show wpAny _ _ (ret Value.none) _ _ _
        rw [hsz] at g
        exact wpAny_pure ⟨rfl, h', tk, L, es, ep, t, rfl, hS2, g, kp⟩
      · cases r2 with
        | error e => exact hr2
        | ok fl2 =>
          cases fl2 with
          | ret r =>
            obtain ⟨rfl, h', tk, L, es, ep, t, rfl, hS2, g, kp⟩ := hr2
            repeat any_goals (first | assumption | wp_step)
            exact q _ _ _ _ _ _ hS2 g kp
          | _ => exact hr2.elim
    | _ => exact hr.elim
/-- min of four numbers -/
theorem args_min4 (a b c d : Value) : argsOk "min" ⟨[a, b, c, d], []⟩ := by unfold argsOk; kernel_rfl
theorem min_four {a b c d : Int} {t1 t2 t3 t4 : Tok} {Q : Value → Shared → Prop} (hh : A.handled = none)
    (q : ∀ h' tk M u, (∀ b o, s.heap.get? b = some o → h'.get? b = some o) → M ∈ [a, b, c, d] → (∀ x ∈ [a, b, c, d], M ≤ x) → Q (.int M u) { s with heap := h', toks := tk }) :
    wpAny (model P w) A (call (.builtin "min") [.int a t1, .int b t2, .int c t3, .int d t4]) Q E s := by
  have nm : (toString "min" ++ toString ".loop" : String) = "min.loop" := by decide
  refine call_function_tree F.kind_min F.plain_min F.entry_min (args_min4 _ _ _ _) (show wpAny _ A.in1 (Builtin.Builtins.bindParams "min" ["key", "default"] 0 ⟨[], []⟩ >>= _) _ _ s from wpAny_bind (wpAny_of_eq (show Builtin.Builtins.bindParams "min" ["key", "default"] 0 ⟨[], []⟩ = pure [none, none] from rfl) ?_))
  show wpAny _ A.in1 (newTuple [.int a t1, .int b t2, .int c t3, .int d t4] >>= _) _ _ s
  have hT : (s.heap.push { cls := .type "tuple", data := .seq #[.int a t1, .int b t2, .int c t3, .int d t4] }).IsTuple s.heap.objs.size (intItems #[(a, t1), (b, t2), (c, t3), (d, t4)]) := ⟨_, Heap.get?_push_size _ rfl, rfl, 0, by simp [intItems]⟩
  have z1 : (s.heap.push { cls := .type "tuple", data := .seq #[.int a t1, .int b t2, .int c t3, .int d t4] }).objs.size = s.heap.objs.size + 1 := Heap.size_push ..
  have old : ∀ y o, s.heap.get? y = some o → (s.heap.push { cls := .type "tuple", data := .seq #[.int a t1, .int b t2, .int c t3, .int d t4] }).get? y = some o := fun y o e => Heap.get?_push_of_some _ e
  have nums : ∀ j, j < 4 → numAt #[(a, t1), (b, t2), (c, t3), (d, t4)] j ∈ [a, b, c, d] := fun j hj => by
    match j, hj with
    | 0, _ => simp [numAt]
    | 1, _ => simp [numAt]
    | 2, _ => simp [numAt]
    | 3, _ => simp [numAt]
  have nums2 : ∀ x ∈ [a, b, c, d], ∃ j, j ≤ 3 ∧ numAt #[(a, t1), (b, t2), (c, t3), (d, t4)] j = x := fun x hx => by
    simp only [List.mem_cons, List.not_mem_nil, or_false] at hx
    rcases hx with rfl | rfl | rfl | rfl
    · exact ⟨0, by omega, by simp [numAt]⟩
    · exact ⟨1, by omega, by simp [numAt]⟩
    · exact ⟨2, by omega, by simp [numAt]⟩
    · exact ⟨3, by omega, by simp [numAt]⟩
  have n4 : (intItems #[(a, t1), (b, t2), (c, t3), (d, t4)]).size = 4 := by simp [intItems]
  refine wpAny_bind (wpAny_newObj_type (wpAny_bind (wpAny_pyIter_tuple hT (wpAny_bind (wpAny_newObj_type ?_)))))
  rw [nm]
  generalize hg : s.heap.push { cls := .type "tuple", data := .seq #[.int a t1, .int b t2, .int c t3, .int d t4] } = g1 at hT z1 old
  have neI : s.heap.objs.size ≠ g1.objs.size := by omega
  have Wk := Walks.tuple (prog := P) (w := w) (A := A.in1) hh g1.objs.size s.heap.objs.size neI (intItems #[(a, t1), (b, t2), (c, t3), (d, t4)])
  have z2 : (g1.push { cls := .type "tuple_iterator", data := .fields #[.ref s.heap.objs.size, .int 0 0] }).objs.size = g1.objs.size + 1 := Heap.size_push ..
  refine wpAny_pure ⟨plainId_quiet F.plain_min_loop _, codeAny_min_loop_first Wk _ (CmpOf.ints_lt (numAt #[(a, t1), (b, t2), (c, t3), (d, t4)]) fun _ _ => intItems_at) _ ?_ (by rw [n4]; decide) ⟨⟨_, Heap.get?_push_of_some _ (Heap.get?_push_size _ rfl), rfl, rfl⟩, (hT.push _).push _⟩ (Heap.get?_push_size _ rfl) fun v h' tk hP hk => ?_⟩
  · simp only [List.mem_cons, List.not_mem_nil, or_false, not_or]
    constructor
    · show (g1.push _).objs.size ≠ _
      rw [z2]
      omega
    · show (g1.push _).objs.size ≠ _
      rw [z2]
      omega
  · obtain ⟨u, rfl⟩ := intItems_at hP
    rw [n4] at *
    obtain ⟨h1, h2⟩ := argBest_lt (numAt #[(a, t1), (b, t2), (c, t3), (d, t4)]) (4 - 1)
    refine q h' tk _ u (fun y o e => ?_) (nums _ (by omega)) fun x hx => ?_
    · have e1 := old y o e
      have lt1 := Heap.lt_size e
      refine hk y o ?_ ?_ (Heap.get?_push_of_some _ (Heap.get?_push_of_some _ e1))
      · rw [List.mem_singleton]
        intro z
        have lt2 : g1.objs.size < s.heap.objs.size := (show y = g1.objs.size from z) ▸ lt1
        rw [z1] at lt2
        exact absurd lt2 (Nat.not_lt_of_le (Nat.le_succ _))
      · intro z
        have lt2 : (g1.push { cls := .type "tuple_iterator", data := .fields #[.ref s.heap.objs.size, .int 0 0] }).objs.size < s.heap.objs.size := (show y = _ from z) ▸ lt1
        rw [z2, z1] at lt2
        exact absurd lt2 (Nat.not_lt_of_le (Nat.le_trans (Nat.le_succ _) (Nat.le_succ _)))
    · obtain ⟨j, hj, rfl⟩ := nums2 x hx
      exact h2 j (by omega)
end
section
variable {X : Cx}
theorem call_min4 (hc : X.calm = true) : CallR X (.builtin "min") (fun xs H Q => ∃ a b c d, xs = [.int a, .int b, .int c, .int d] ∧ Q (.int (min (min (min a b) c) d)) H) := by
  intro pins s σ H xs us Q I r h
  obtain ⟨a, b, c, d, rfl, q⟩ := h
  cases r with
  | cons r1 r => cases r with
    | cons r2 r => cases r with
      | cons r3 r => cases r with
        | cons r4 r =>
          cases r
          obtain ⟨t1, rfl⟩ := r1
          obtain ⟨t2, rfl⟩ := r2
          obtain ⟨t3, rfl⟩ := r3
          obtain ⟨t4, rfl⟩ := r4
          refine min_four (I.ok.hd hc) fun h' tk M u kp hm hl => ?_
          have e : M = min (min (min a b) c) d := by
            have l1 := hl a (by simp)
            have l2 := hl b (by simp)
            have l3 := hl c (by simp)
            have l4 := hl d (by simp)
            simp only [List.mem_cons, List.not_mem_nil, or_false] at hm
            omega
          rw [← e] at q
          exact ⟨.int M, H, I.kept kp, ⟨_, rfl⟩, q⟩
/-- set(xs), xs a tuple of tuples of ints -/
def rSetP (K : PySem.W.Frag) (P : Program) (w : World) : List V → Hp → VK → Prop := fun xs H Q => ∃ (l : Addr) (ks : List (Addr × List Int)), xs = [V.ref l] ∧ SqT K H l (ks.map fun p => V.ref p.1) ∧ (∀ p ∈ ks, SqT K H p.1 (p.2.map V.int)) ∧ ks.length < 60 ∧
  ∀ a L, H a = none → (∀ p ∈ L, p ∈ ks) → (∀ p ∈ ks, p.2 ∈ L.map (·.2)) → Q (.ref a) (upd H a (SetTO P w a L))
theorem cr_setP (hc : X.calm = true) (hu : X.A.units + 20 < cLine) : CallR X (.type "set") (rSetP X.K X.prog X.w) := by
  intro pins s σ H xs us Q I r h
  obtain ⟨l, ks, rfl, hl, hk, hf, q⟩ := h
  rw [Vals.ref1 r]
  obtain ⟨its, rv, pl⟩ := tup_of I hl
  have hn : H s.heap.objs.size = none := I.hok.fresh (Nat.le_refl _)
  refine call_setT_tuple (P := X.prog) (w := X.w) ks (I.ok.hd hc) pl (by simpa using refs_of_vals rv) (fun p hp => I.isT (hk p hp)) (by omega) hu fun h' tk L es ep t R g k => ?_
  refine ⟨.ref s.heap.objs.size, upd H s.heap.objs.size (SetTO X.prog X.w s.heap.objs.size L), I.laid (t' := tk) k (Nat.le_refl _) (setTO_new R.t0), rfl, q _ L hn (fun p hp => List.mem_of_mem_take (g.sub p hp)) fun p hp => g.all p (by rw [List.take_length]; exact hp)⟩
end
/-! pairs as data -/
def pairI : D → List Int
  | .tup [.int a, .int b] => [a, b]
  | _ => []
def pairO : List Int → D
  | [a, b] => .tup [.int a, .int b]
  | _ => .non
theorem pair_is {d : D} (h : pair64 d = true) : ∃ a b : Int, d = .tup [.int a, .int b] ∧ 0 ≤ a ∧ a < 64 ∧ 0 ≤ b ∧ b < 64 := by
  unfold pair64 at h
  split at h
  · rename_i a b
    exact ⟨a, b, rfl, of_decide_eq_true h⟩
  · cases h
theorem ltX_pair (a b c d : Int) : ltX (.tup [.int a, .int b]) (.tup [.int c, .int d]) = decide (a < c ∨ (a = c ∧ b < d)) := by
  have h := PySem.W.dataLt_ints [a, b] [c, d]
  simp only [ltX, toPy, toPys, PySem.W.dataLt_tuple]
  refine Eq.trans h ?_
  rw [decide_eq_decide, List.cons_lt_cons_iff, List.cons_lt_cons_iff]
  simp
theorem pairO_num (k : List Int) (h : k.length = 2) : numD (pairO k) = true := by
  match k, h with
  | [a, b], _ => rfl
theorem pairO_I {d : D} (h : pair64 d = true) : pairO (pairI d) = d := by
  obtain ⟨a, b, rfl, _⟩ := pair_is h
  rfl
theorem pairI_O {k : List Int} (h : k.length = 2) : pairI (pairO k) = k := by
  match k, h with
  | [a, b], _ => rfl
/-- pairs that rise by their code stand in their order -/
theorem pair_order {a b : D} (ha : pair64 a = true) (hb : pair64 b = true) (h : TS.code 64 (pairI a) ≤ TS.code 64 (pairI b)) : ltX b a = false := by
  obtain ⟨x, y, rfl, x0, x1, y0, y1⟩ := pair_is ha
  obtain ⟨z, w, rfl, z0, z1, w0, w1⟩ := pair_is hb
  have h : TS.code 64 [x, y] ≤ TS.code 64 [z, w] := h
  rw [code_pair, code_pair] at h
  rw [ltX_pair, decide_eq_false_iff_not]
  omega
/-- the pairs of a tuple, with their places -/
theorem pair_reps {T : Tb} {H : Hp} {G : Wd} {xs : List D} {us : List V} (h : ∀ d ∈ xs, pair64 d = true) (r : Reps T H G xs us) : ∃ ps : List (Addr × D), us = ps.map (fun p => V.ref p.1) ∧ xs = ps.map (·.2) ∧ ∀ p ∈ ps, Rep T H G p.2 (.ref p.1) ∧ pair64 p.2 = true := by
  obtain ⟨ps, h1, h2, h3⟩ := tup_rows (fun d hd => by
    obtain ⟨a, b, rfl, _⟩ := pair_is (h d hd)
    rfl) r
  exact ⟨ps, h1, h2, fun p hp => ⟨h3 p hp, h _ (by rw [h2]; exact List.mem_map.mpr ⟨p, hp, rfl⟩)⟩⟩
theorem pair_sq {T : Tb} {H : Hp} {G : Wd} {d : D} {a : Addr} (h : pair64 d = true) (r : Rep T H G d (.ref a)) : SqT T.K H a ((pairI d).map V.int) := by
  obtain ⟨x, y, rfl, _⟩ := pair_is h
  obtain ⟨b, us, e, t, v1, vs1, e1, r1, v2, vs2, e2, r2, e3⟩ := r
  cases e
  have r1 : v1 = .int x := r1
  have r2 : v2 = .int y := r2
  subst r1 r2 e3 e2 e1
  exact t.sq
theorem pair_len {d : D} (h : pair64 d = true) : (pairI d).length = 2 ∧ TS.Bd 64 (pairI d) := by
  obtain ⟨x, y, rfl, x0, x1, y0, y1⟩ := pair_is h
  refine ⟨rfl, fun m hm => ?_⟩
  have hm : m ∈ [x, y] := hm
  simp only [List.mem_cons, List.not_mem_nil, or_false] at hm
  omega
end Br

/-! Br4: terms stand for the text's expressions, and come to what the evaluator says. -/
namespace Br
open PySem PySem.Spec PyProof.Rows L2

/-! ### the text and the terms -/
structure FnI where
  name : Str
  np : Nat
  N : List Str
  /-- may run while an exception is handled -/
  hot : Bool
  body : Ss
  /-- a method, no name of the module -/
  m : Bool
def FnI.gn (f : FnI) : Option Str := if f.m then none else some f.name
theorem gn_ok {f : FnI} {x : Str} (h : f.gn = some x) : f.m = false ∧ f.name = x := by
  unfold FnI.gn at h
  split at h
  · cases h
  · rename_i hz
    exact ⟨by simpa using hz, Option.some.inj h⟩
/-- an own class: its name, its instances' fields, its __init__, its methods -/
structure Ocl where
  name : Str
  flds : List Str
  ini : Nat
  ms : List (Str × Nat)
structure Pg where
  fns : List FnI
  cls : List Str
  gr : Option Nat
  glb : List (Str × D)
  blt : List Str
  /-- written dicts -/
  kds : List (Str × List (Str × Int)) := []
  ocl : List Ocl := []
def Pg.fn (P : Pg) : List Fn := P.fns.map fun f => ⟨f.np, f.N.length, f.body⟩

def vis (sc : Scope) (x : Str) : Bool := match sc.names.lookup x with
  | some .local => true
  | some .cell => true
  | some .free => true
  | _ => false
theorem vis_ok {sc : Scope} {x : Str} (h : vis sc x = true) : Vis sc x := by
  unfold vis at h
  split at h <;> first | (cases h; done) | skip
  · exact .inl (by assumption)
  · exact .inr (.inl (by assumption))
  · exact .inr (.inr (by assumption))
def loc (sc : Scope) (x : Str) : Bool := match sc.names.lookup x with
  | some .local => true
  | some .cell => true
  | _ => false
theorem loc_ok {sc : Scope} {x : Str} (h : loc sc x = true) : Loc sc x := by
  unfold loc at h
  split at h <;> first | (cases h; done) | skip
  · exact .inl (by assumption)
  · exact .inr (by assumption)
def plainName (x : Str) : Bool := !(x == ("__debug__" : Str)) && !(x == ("__classdict__" : Str)) && !(x == ("__name__" : Str))
def slotOk (N : List Str) (sc : Scope) (i : Nat) (x : Str) : Bool := decide (N[i]? = some x) && vis sc x && plainName x
def glOk (sc : Scope) (x : Str) : Bool := (match sc.names.lookup x with
  | some .globalImplicit => true
  | _ => false) && plainName x
def bltOk (P : Pg) (sc : Scope) (x : Str) : Bool := glOk sc x && P.blt.contains x
def ownP (N : List Str) (own : List Nat) : List (Str × Nat) := own.filterMap fun i => N[i]?.map fun x => (x, i)
def conD : Const → Option D
  | .none => some .non
  | .bool b => some (.bl b)
  | .int i => some (.int i)
  | .str s => if okStr s then some (.str s) else none
  | _ => none
def conOk : D → Const → Bool
  | .non, .none => true
  | .bl b, .bool c => b == c
  | .int i, .int j => i == j
  | .str s, .str t => decide (s = t) && okStr s
  | _, _ => false
def b1N : B1 → Str
  | .len => "len" | .int => "int" | .all => "all" | .any => "any" | .sum => "sum"
  | .tuple => "tuple" | .list => "list" | .sorted => "sorted" | .min => "min" | .max => "max" | .str => "str"
  | .range => "range" | _ => ""
def b2N : B2 → Str
  | .min => "min" | .max => "max" | .range => "range"
def noSet : Expr → Bool
  | .Set .. => false
  | _ => true
def tgNames (N : List Str) (sc : Scope) : List Nat → List Expr → Bool
  | [], [] => true
  | i :: is, .Name x _ :: es => decide (N[i]? = some x) && loc sc x && plainName x && tgNames N sc is es
  | _, _ => false
def chkT (N : List Str) (sc : Scope) : Tg → Expr → Bool
  | .name i, .Name x _ => decide (N[i]? = some x) && loc sc x && plainName x
  | .names is, .Tuple es _ _ => tgNames N sc is es
  | _, _ => false
mutual
def beqD : D → D → Bool
  | .non, .non => true
  | .bl a, .bl b => a == b
  | .int a, .int b => a == b
  | .str a, .str b => decide (a = b)
  | .tup a, .tup b => beqDs a b
  | .lst a, .lst b => beqDs a b
  | .kst a, .kst b => beqDs a b
  | .dct, .dct => true
  | .fn a, .fn b => a == b
  | _, _ => false
def beqDs : List D → List D → Bool
  | [], [] => true
  | a :: r, b :: q => beqD a b && beqDs r q
  | _, _ => false
end
mutual
theorem beqD_eq : ∀ (x y : D), beqD x y = true → x = y
  | .non, y, h => by cases y <;> simp [beqD] at h <;> rfl
  | .bl a, y, h => by cases y <;> simp [beqD] at h <;> simp [h]
  | .int a, y, h => by cases y <;> simp [beqD] at h <;> simp [h]
  | .str a, y, h => by cases y <;> simp [beqD] at h <;> simp [h]
  | .dct, y, h => by cases y <;> simp [beqD] at h <;> rfl
  | .fn a, y, h => by cases y <;> simp [beqD] at h <;> simp [h]
  | .xc a b, y, h => by cases y <;> simp [beqD] at h
  | .tup a, y, h => by
    cases y with
    | tup b => simp only [beqD] at h; rw [beqDs_eq a b h]
    | _ => simp [beqD] at h
  | .lst a, y, h => by
    cases y with
    | lst b => simp only [beqD] at h; rw [beqDs_eq a b h]
    | _ => simp [beqD] at h
  | .kst a, y, h => by
    cases y with
    | kst b => simp only [beqD] at h; rw [beqDs_eq a b h]
    | _ => simp [beqD] at h
theorem beqDs_eq : ∀ (x y : List D), beqDs x y = true → x = y
  | [], y, h => by cases y <;> simp [beqDs] at h <;> rfl
  | a :: r, y, h => by
    cases y with
    | nil => simp [beqDs] at h
    | cons b q =>
      simp only [beqDs, Bool.and_eq_true] at h
      rw [beqD_eq a b h.1, beqDs_eq r q h.2]
end
/-! shapes -/
def opt {α : Type} (o : Option α) (f : α → Bool) : Bool := match o with
  | some x => f x
  | none => false
theorem opt_ok {α : Type} {o : Option α} {f : α → Bool} (h : opt o f = true) : ∃ x, o = some x ∧ f x = true := by
  cases o with
  | none => cases h
  | some x => exact ⟨x, rfl, h⟩
def asName : Expr → Option Str
  | .Name x _ => some x
  | _ => none
theorem asName_ok {e : Expr} {x : Str} (h : asName e = some x) : ∃ p, e = .Name x p := by
  cases e <;> simp only [asName, reduceCtorEq, Option.some.injEq] at h
  subst h
  exact ⟨_, rfl⟩
def asCon : Expr → Option Const
  | .Constant c _ _ => some c
  | _ => none
theorem asCon_ok {e : Expr} {x : Const} (h : asCon e = some x) : ∃ k p, e = .Constant x k p := by
  cases e <;> simp only [asCon, reduceCtorEq, Option.some.injEq] at h
  subst h
  exact ⟨_, _, rfl⟩
def asBin : Expr → Option (Expr × Operator × Expr)
  | .BinOp a o b _ => some (a, o, b)
  | _ => none
theorem asBin_ok {e : Expr} {x : Expr × Operator × Expr} (h : asBin e = some x) : ∃ p, e = .BinOp x.1 x.2.1 x.2.2 p := by
  cases e <;> simp only [asBin, reduceCtorEq, Option.some.injEq] at h
  subst h
  exact ⟨_, rfl⟩
def asCmp : Expr → Option (Expr × CmpOp × Expr)
  | .Compare a [o] [b] _ => some (a, o, b)
  | _ => none
theorem asCmp_ok {e : Expr} {x : Expr × CmpOp × Expr} (h : asCmp e = some x) : ∃ p, e = .Compare x.1 [x.2.1] [x.2.2] p := by
  unfold asCmp at h
  split at h
  · cases h
    exact ⟨_, rfl⟩
  · cases h
def asCmp2 : Expr → Option (Expr × CmpOp × Expr × CmpOp × Expr)
  | .Compare a [o, p] [b, c] _ => some (a, o, b, p, c)
  | _ => none
theorem asCmp2_ok {e : Expr} {x : Expr × CmpOp × Expr × CmpOp × Expr} (h : asCmp2 e = some x) : ∃ p, e = .Compare x.1 [x.2.1, x.2.2.2.1] [x.2.2.1, x.2.2.2.2] p := by
  unfold asCmp2 at h
  split at h
  · cases h
    exact ⟨_, rfl⟩
  · cases h
def asUn : Expr → Option (UnaryOp × Expr)
  | .UnaryOp o a _ => some (o, a)
  | _ => none
theorem asUn_ok {e : Expr} {x : UnaryOp × Expr} (h : asUn e = some x) : ∃ p, e = .UnaryOp x.1 x.2 p := by
  cases e <;> simp only [asUn, reduceCtorEq, Option.some.injEq] at h
  subst h
  exact ⟨_, rfl⟩
/-- a and b (and ..): the first, and the rest -/
def asBo : Expr → Option (PySem.BoolOp × Expr × Expr)
  | .BoolOp o [a, b] _ => some (o, a, b)
  | .BoolOp o (a :: b :: c :: r) p => some (o, a, .BoolOp o (b :: c :: r) p)
  | _ => none
theorem asBo_ok {e : Expr} {x : PySem.BoolOp × Expr × Expr} (h : asBo e = some x) : (∃ p, e = .BoolOp x.1 [x.2.1, x.2.2] p) ∨ ∃ b c r p, e = .BoolOp x.1 (x.2.1 :: b :: c :: r) p ∧ x.2.2 = .BoolOp x.1 (b :: c :: r) p := by
  unfold asBo at h
  split at h
  · cases h
    exact .inl ⟨_, rfl⟩
  · cases h
    exact .inr ⟨_, _, _, _, rfl, rfl⟩
  · cases h
def asIf : Expr → Option (Expr × Expr × Expr)
  | .IfExp c a b _ => some (c, a, b)
  | _ => none
theorem asIf_ok {e : Expr} {x : Expr × Expr × Expr} (h : asIf e = some x) : ∃ p, e = .IfExp x.1 x.2.1 x.2.2 p := by
  cases e <;> simp only [asIf, reduceCtorEq, Option.some.injEq] at h
  subst h
  exact ⟨_, rfl⟩
def asTup : Expr → Option (List Expr)
  | .Tuple es _ _ => some es
  | _ => none
theorem asTup_ok {e : Expr} {x : List Expr} (h : asTup e = some x) : ∃ k p, e = .Tuple x k p := by
  cases e <;> simp only [asTup, reduceCtorEq, Option.some.injEq] at h
  subst h
  exact ⟨_, _, rfl⟩
def asLst : Expr → Option (List Expr)
  | .List es _ => some es
  | _ => none
theorem asLst_ok {e : Expr} {x : List Expr} (h : asLst e = some x) : ∃ p, e = .List x p := by
  cases e <;> simp only [asLst, reduceCtorEq, Option.some.injEq] at h
  subst h
  exact ⟨_, rfl⟩
def asSub : Expr → Option (Expr × Expr)
  | .Subscript a i _ => some (a, i)
  | _ => none
theorem asSub_ok {e : Expr} {x : Expr × Expr} (h : asSub e = some x) : ∃ p, e = .Subscript x.1 x.2 p := by
  cases e <;> simp only [asSub, reduceCtorEq, Option.some.injEq] at h
  subst h
  exact ⟨_, rfl⟩
def asSl : Expr → Option (Option Expr × Option Expr)
  | .Slice a b none _ => some (a, b)
  | _ => none
theorem asSl_ok {e : Expr} {x : Option Expr × Option Expr} (h : asSl e = some x) : ∃ p, e = .Slice x.1 x.2 none p := by
  unfold asSl at h
  split at h
  · cases h
    exact ⟨_, rfl⟩
  · cases h
def asCall : Expr → Option (Str × List Expr)
  | .Call (.Name x _) es [] _ => some (x, es)
  | _ => none
theorem asCall_ok {e : Expr} {x : Str × List Expr} (h : asCall e = some x) : ∃ p q, e = .Call (.Name x.1 p) x.2 [] q := by
  unfold asCall at h
  split at h
  · cases h
    exact ⟨_, _, rfl⟩
  · cases h
def as1 : List Expr → Option Expr
  | [a] => some a
  | _ => none
theorem as1_ok {e : List Expr} {x : Expr} (h : as1 e = some x) : e = [x] := by
  unfold as1 at h
  split at h
  · cases h
    rfl
  · cases h
def as2 : List Expr → Option (Expr × Expr)
  | [a, b] => some (a, b)
  | _ => none
theorem as2_ok {e : List Expr} {x : Expr × Expr} (h : as2 e = some x) : e = [x.1, x.2] := by
  unfold as2 at h
  split at h
  · cases h
    rfl
  · cases h
structure CompV where
  elt : Expr
  tg : Expr
  iter : Expr
  ifs : List Expr
  scope : Scope
def asComp : Expr → Option CompV
  | .ListComp f [⟨tg, iter, ifs, 0⟩] scope _ => some ⟨f, tg, iter, ifs, scope⟩
  | _ => none
theorem asComp_ok {e : Expr} {x : CompV} (h : asComp e = some x) : ∃ p, e = .ListComp x.elt [⟨x.tg, x.iter, x.ifs, 0⟩] x.scope p := by
  unfold asComp at h
  split at h
  · cases h
    exact ⟨_, rfl⟩
  · cases h
def asDct0 : Expr → Bool
  | .Dict [] [] _ => true
  | _ => false
def asAttr : Expr → Option (Expr × Str)
  | .Attribute a n _ => some (a, n)
  | _ => none
theorem asAttr_ok {e : Expr} {x : Expr × Str} (h : asAttr e = some x) : ∃ p, e = .Attribute x.1 x.2 p := by
  cases e <;> simp only [asAttr, reduceCtorEq, Option.some.injEq] at h
  subst h
  exact ⟨_, rfl⟩
/-- an expression as an index, an argument -/
def ixOk : Expr → Bool
  | .Slice .. => false
  | .Starred .. => false
  | _ => true
/-- o.n(es) -/
structure MethV where
  o : Expr
  n : Str
  ap : Pos
  as : List Expr
  cp : Pos
def asMeth : Expr → Option MethV
  | .Call (.Attribute o n ap) as [] cp => some ⟨o, n, ap, as, cp⟩
  | _ => none
theorem asMeth_ok {e : Expr} {x : MethV} (h : asMeth e = some x) : e = .Call (.Attribute x.o x.n x.ap) x.as [] x.cp := by
  unfold asMeth at h
  split at h
  · cases h
    rfl
  · cases h
def noAttr : Expr → Bool
  | .Call _ _ _ _ => false
  | _ => true
theorem noAttr_ok {o : Expr} {x : Str} {env : PySem.Env} {w : Sem Value} (h : noAttr o = true) : attributeBase o x env w = w := by
  cases o <;> first | rfl | cases h
def methOk (y : MethV) : Bool := (y.ap.endLine == y.cp.line) && noAttr y.o
/-- f(es) where f is a local name, or a[i] -/
inductive CalV where
  | nm (x : Str) (p : Pos) (es : List Expr) (q : Pos)
  | sub (a i : Expr) (p : Pos) (es : List Expr) (q : Pos)
def CalV.fn : CalV → Expr
  | .nm x p _ _ => .Name x p
  | .sub a i p _ _ => .Subscript a i p
def CalV.args : CalV → List Expr
  | .nm _ _ es _ => es
  | .sub _ _ _ es _ => es
def CalV.pos : CalV → Pos
  | .nm _ _ _ q => q
  | .sub _ _ _ _ q => q
def asCal : Expr → Option CalV
  | .Call (.Name x p) es [] q => some (.nm x p es q)
  | .Call (.Subscript a i p) es [] q => some (.sub a i p es q)
  | _ => none
theorem asCal_ok {e : Expr} {x : CalV} (h : asCal e = some x) : e = .Call x.fn x.args [] x.pos := by
  unfold asCal at h
  split at h
  · cases h
    rfl
  · cases h
    rfl
  · cases h
def CalV.good (N : List Str) (sc : Scope) : CalV → Bool
  | .nm x _ _ _ => vis sc x && plainName x && N.contains x
  | .sub .. => true
def asDct : Expr → Option (List (Option Expr) × List Expr)
  | .Dict ks vs _ => some (ks, vs)
  | _ => none
theorem asDct_ok {e : Expr} {x : List (Option Expr) × List Expr} (h : asDct e = some x) : ∃ p, e = .Dict x.1 x.2 p := by
  cases e <;> simp only [asDct, reduceCtorEq, Option.some.injEq] at h
  subst h
  exact ⟨_, rfl⟩
/-- a written key -/
def keyE : L2.Key → Option Expr → Bool
  | .inl i, some (.Constant (.int j) _ _) => decide (i = j)
  | .inr s, some (.Constant (.str t) _ _) => decide (s = t)
  | _, _ => false
def numE (i : Int) : Expr → Bool
  | .Constant (.int j) _ _ => decide (i = j)
  | _ => false
/-- written keys -/
def dKeys : List L2.Key → List (Option Expr) → Bool
  | [], [] => true
  | k :: r, o :: q => keyE k o && dKeys r q
  | _, _ => false
/-- written keys and numbers -/
def dPairs : List (Str × Int) → List (Option Expr) → List Expr → Bool
  | [], [], [] => true
  | p :: r, o :: q, e :: u => keyE (.inr p.1) o && numE p.2 e && dPairs r q u
  | _, _, _ => false
/-- sum(a, start=[]) -/
def asSum0 : Expr → Option (Expr × Pos × Pos × Pos × Pos)
  | .Call (.Name "sum" p) [a] [⟨some "start", .List [] p2, p3⟩] q => some (a, p, p2, p3, q)
  | _ => none
theorem asSum0_ok {e : Expr} {x : Expr × Pos × Pos × Pos × Pos} (h : asSum0 e = some x) : e = .Call (.Name "sum" x.2.1) [x.1] [⟨some "start", .List [] x.2.2.1, x.2.2.2.1⟩] x.2.2.2.2 := by
  unfold asSum0 at h
  split at h
  · cases h
    rfl
  · cases h
/-- a[::-1] -/
def asRev : Expr → Option (Expr × Nat × Pos × Pos × Pos × Pos)
  | .Subscript a (.Slice none none (some (.UnaryOp .USub (.Constant (.int 1) k p1) p2)) p3) p => some (a, 0, p1, p2, p3, p)
  | _ => none
theorem asRev_ok {e : Expr} {x : Expr × Nat × Pos × Pos × Pos × Pos} (h : asRev e = some x) : ∃ k, e = .Subscript x.1 (.Slice none none (some (.UnaryOp .USub (.Constant (.int 1) k x.2.2.1) x.2.2.2.1)) x.2.2.2.2.1) x.2.2.2.2.2 := by
  unfold asRev at h
  split at h
  · cases h
    exact ⟨_, rfl⟩
  · cases h
def l1N : L1 → Str
  | .sorted => "sorted" | .sortset => "sorted" | .sumcat => "sum" | .range => "list" | .sortpairs => "sorted"
def m1N : M1 → Str
  | .count => "count" | .index => "index" | .split => "split" | .join => "join" | .bitlen => ""
def l1Ok : L1 → Bool
  | .sorted => true
  | _ => false
def m1Ok : M1 → Bool
  | .count | .index => true
  | _ => false
/-- terms that stand where a truth is asked -/
def tOk : E → Bool
  | .frz _ => false
  | .ite .. => false
  | .and a b => tOk a && tOk b
  | .or a b => tOk a && tOk b
  | .not a => tOk a
  | _ => true
def fldOk (P : Pg) (c : Nat) (f : Str) : Bool := opt P.ocl[c]? fun o => o.flds.contains f
def iniOk (P : Pg) (c k : Nat) (x : Str) : Bool := opt P.ocl[c]? fun o => decide (o.ini = k) && decide (o.name = x) && decide (k < P.fns.length)
def metOk (P : Pg) (c : Nat) (m : Str) (k : Nat) : Bool := opt P.ocl[c]? fun o => o.ms.contains (m, k) && decide (k < P.fns.length)
def b1Ok : B1 → Bool
  | .len | .int | .all | .any | .sum | .tuple | .list | .max | .min => true
  | _ => false
def b2Ok : B2 → Bool
  | .min | .max => true
  | _ => false
def tgSlots : Tg → List Nat
  | .name i => [i]
  | .names is => is
mutual
def chkE (P : Pg) (N : List Str) : E → Scope → Expr → Bool
  | .var i, sc, e => opt (asName e) fun x => slotOk N sc i x
  | .con d, _, e => opt (asCon e) fun c => conOk d c
  | .glb x v, sc, e => opt (asName e) fun y => decide (x = y) && glOk sc y && opt (P.glb.lookup x) fun w => beqD w v
  | .op o a b, sc, e => opt (asBin e) fun x => decide (x.2.1 = bop o) && chkE P N a sc x.1 && chkE P N b sc x.2.2
  | .cmp o a b, sc, e => opt (asCmp e) fun x => decide (x.2.1 = cop o) && noSet x.2.2 && chkE P N a sc x.1 && chkE P N b sc x.2.2
  | .cmp2 o o' a b c, sc, e => opt (asCmp2 e) fun x => decide (x.2.1 = cop o) && decide (x.2.2.2.1 = cop o') && noSet x.2.2.2.2 && chkE P N a sc x.1 && chkE P N b sc x.2.2.1 && chkE P N c sc x.2.2.2.2
  | .isN a, sc, e => opt (asCmp e) fun x => decide (x.2.1 = .Is) && decide (asCon x.2.2 = some .none) && chkE P N a sc x.1
  | .notN a, sc, e => opt (asCmp e) fun x => decide (x.2.1 = .IsNot) && decide (asCon x.2.2 = some .none) && chkE P N a sc x.1
  | .neg a, sc, e => opt (asUn e) fun x => decide (x.1 = .USub) && chkE P N a sc x.2
  | .not a, sc, e => opt (asUn e) fun x => decide (x.1 = .Not) && chkE P N a sc x.2
  | .and a b, sc, e => opt (asBo e) fun x => decide (x.1 = .And) && chkE P N a sc x.2.1 && chkE P N b sc x.2.2
  | .or a b, sc, e => opt (asBo e) fun x => decide (x.1 = .Or) && chkE P N a sc x.2.1 && chkE P N b sc x.2.2
  | .ite c a b, sc, e => opt (asIf e) fun x => tOk c && chkE P N c sc x.1 && chkE P N a sc x.2.1 && chkE P N b sc x.2.2
  | .tup es, sc, e => opt (asTup e) fun x => chkEs P N es sc x
  | .lst _ es, sc, e => opt (asLst e) fun x => chkEs P N es sc x
  | .idx a i, sc, e => opt (asSub e) fun x => ixOk x.2 && chkE P N a sc x.1 && chkE P N i sc x.2
  | .sl a lo hi, sc, e => opt (asSub e) fun x => opt (asSl x.2) fun y => chkE P N a sc x.1 && chkO P N lo sc y.1 && chkO P N hi sc y.2
  | .rev a, sc, e => opt (asRev e) fun x => chkE P N a sc x.1
  | .b1 f a, sc, e => opt (asCall e) fun x => opt (as1 x.2) fun y => b1Ok f && decide (x.1 = b1N f) && bltOk P sc x.1 && ixOk y && chkE P N a sc y
  | .cpy a, sc, e => opt (asCall e) fun x => opt (as1 x.2) fun y => decide (x.1 = "list") && bltOk P sc x.1 && ixOk y && chkE P N a sc y
  | .b2 f a b, sc, e => opt (asCall e) fun x => opt (as2 x.2) fun y => b2Ok f && decide (x.1 = b2N f) && bltOk P sc x.1 && ixOk y.1 && ixOk y.2 && chkE P N a sc y.1 && chkE P N b sc y.2
  | .isi a t, sc, e => opt (asCall e) fun x => opt (as2 x.2) fun y => opt (asName y.2) fun z => decide (x.1 = "isinstance") && bltOk P sc x.1 && decide (z = Str.ofString (tyN t)) && bltOk P sc z && ixOk y.1 && chkE P N a sc y.1
  | .call k es, sc, e => opt (asCall e) fun x => decide (P.fns[k]?.bind (·.gn) = some x.1) && glOk sc x.1 && !x.2.isEmpty && chkEs P N es sc x.2
  | .callo k es, sc, e => opt (asCall e) fun x => decide (P.fns[k]?.bind (·.gn) = some x.1) && glOk sc x.1 && !x.2.isEmpty && chkEs P N es sc x.2
  | .pick _ _ _, _, _ => false
  | .dct0, _, e => asDct0 e
  | .frz a, sc, e => chkE P N a sc e
  | .comp _ e t it c own, sc, f => opt (asComp f) fun x =>
    chkI P N it sc x.iter x.tg && chkT N x.scope t x.tg && blkC N sc x.scope (ownP N own) && decide ((ownP N own).map (·.2) = own) && chkT N (relS x.scope sc) t x.tg && noSet x.iter && (tgSlots t).all (fun i => own.contains i) &&
      chkC P N c (relS x.scope sc) x.ifs && chkE P N e (relS x.scope sc) x.elt
  | .stuck, _, _ => true
  | .fnv k, sc, e => opt (asName e) fun x => decide (P.fns[k]?.bind (·.gn) = some x) && glOk sc x
  | .calle f es, sc, e => opt (asCal e) fun x => x.good N sc && !x.args.isEmpty && chkE P N f sc x.fn && chkEs P N es sc x.args
  | .l1 _ f a, sc, e => (opt (asCall e) fun x => opt (as1 x.2) fun y => l1Ok f && decide (x.1 = l1N f) && bltOk P sc x.1 && ixOk y && chkE P N a sc y) || ((decide (f = .sumcat) && opt (asSum0 e) fun x => bltOk P sc "sum" && ixOk x.1 && chkE P N a sc x.1)
    || ((decide (f = .sortset ∨ f = .sortpairs) && opt (asCall e) fun x => opt (as1 x.2) fun y => opt (asCall y) fun z => opt (as1 z.2) fun w => decide (x.1 = "sorted") && bltOk P sc "sorted" && decide (z.1 = "set") && bltOk P sc "set" && ixOk w && chkE P N a sc w)
    || (decide (f = .range) && opt (asCall e) fun x => opt (as1 x.2) fun y => opt (asCall y) fun z => opt (as1 z.2) fun w => decide (x.1 = "list") && bltOk P sc "list" && decide (z.1 = "range") && bltOk P sc "range" && ixOk w && chkE P N a sc w)))
  | .m1 f a b, sc, e => opt (asMeth e) fun y => opt (as1 y.as) fun z => m1Ok f && decide (y.n = m1N f) && methOk y && ixOk z && chkE P N a sc y.o && chkE P N b sc z
  | .popi a i, sc, e => opt (asMeth e) fun y => opt (as1 y.as) fun z => decide (y.n = "pop") && methOk y && ixOk z && chkE P N a sc y.o && chkE P N i sc z
  | .trange a, sc, e => opt (asCall e) fun x => opt (as1 x.2) fun y => opt (asCall y) fun z => opt (as1 z.2) fun w => decide (x.1 = "tuple") && bltOk P sc x.1 && decide (z.1 = "range") && bltOk P sc z.1 && ixOk w && chkE P N a sc w
  | .trange2 a b, sc, e => opt (asCall e) fun x => opt (as1 x.2) fun y => opt (asCall y) fun z => opt (as2 z.2) fun w => decide (x.1 = "tuple") && bltOk P sc x.1 && decide (z.1 = "range") && bltOk P sc z.1 && ixOk w.1 && ixOk w.2 && chkE P N a sc w.1 && chkE P N b sc w.2
  | .compr e t it own, sc, f => opt (asComp f) fun x =>
    chkI P N it sc x.iter x.tg && chkT N x.scope t x.tg && blkC N sc x.scope (ownP N own) && decide ((ownP N own).map (·.2) = own) && chkT N (relS x.scope sc) t x.tg && noSet x.iter && (tgSlots t).all (fun i => own.contains i) &&
      x.ifs.isEmpty && chkE P N e (relS x.scope sc) x.elt
  | .idxr a i, sc, e => opt (asSub e) fun x => ixOk x.2 && chkE P N a sc x.1 && chkE P N i sc x.2
  | .isx a y, sc, e => opt (asCall e) fun x => opt (as2 x.2) fun w => opt (asName w.2) fun z => decide (x.1 = "isinstance") && bltOk P sc x.1 && decide (P.cls[y]? = some z) && glOk sc z && ixOk w.1 && chkE P N a sc w.1
  | .isv a, sc, e => opt (asCall e) fun x => opt (as2 x.2) fun w => opt (asName w.2) fun z => decide (x.1 = "isinstance") && bltOk P sc x.1 && decide (z = "ValueError") && bltOk P sc z && ixOk w.1 && chkE P N a sc w.1
  | .fld a b, sc, e => opt (asAttr e) fun x => decide (x.2 = if b then "many" else "most") && noAttr x.1 && chkE P N a sc x.1
  | .callz k es, sc, e => opt (asCall e) fun x => decide (P.fns[k]?.bind (·.gn) = some x.1) && glOk sc x.1 && !x.2.isEmpty && chkEs P N es sc x.2
  | .opo a b, sc, e => opt (asBin e) fun x => decide (x.2.1 = bop .add) && chkE P N a sc x.1 && chkE P N b sc x.2.2
  | .join o a, sc, e => opt (asMeth e) fun y => opt (as1 y.as) fun z => decide (y.n = "join") && methOk y && ixOk z && chkE P N o sc y.o && chkE P N a sc z
  | .strI a, sc, e => opt (asCall e) fun x => opt (as1 x.2) fun y => decide (x.1 = "str") && bltOk P sc "str" && ixOk y && chkE P N a sc y
  | .rep a, sc, e => opt (asCall e) fun x => opt (as1 x.2) fun y => decide (x.1 = "repr") && bltOk P sc "repr" && ixOk y && chkE P N a sc y
  | .revt a, sc, e => opt (asCall e) fun x => opt (as1 x.2) fun y => opt (asCall y) fun z => opt (as1 z.2) fun w => decide (x.1 = "tuple") && bltOk P sc "tuple" && decide (z.1 = "reversed") && bltOk P sc "reversed" && ixOk w && chkE P N a sc w
  | .lens a, sc, e => opt (asCall e) fun x => opt (as1 x.2) fun y => opt (asCall y) fun z => opt (as1 z.2) fun w => decide (x.1 = "len") && bltOk P sc "len" && decide (z.1 = "set") && bltOk P sc "set" && ixOk w && chkE P N a sc w
  | .bits a, sc, e => opt (asMeth e) fun y => y.as.isEmpty && decide (y.n = "bit_length") && methOk y && chkE P N a sc y.o
  | .dnw ks es, sc, e => opt (asDct e) fun x => dKeys ks x.1 && decide (x.2.length = ks.length) && decide (ks.length ≤ 15) && chkEs P N es sc x.2
  | .sortd _ a, sc, e => opt (asCall e) fun x => opt (as1 x.2) fun y => decide (x.1 = "sorted") && bltOk P sc "sorted" && ixOk y && chkE P N a sc y
  | .dget d k x, sc, e => opt (asMeth e) fun y => opt (as2 y.as) fun z => decide (y.n = "get") && methOk y && ixOk z.1 && ixOk z.2 && chkE P N d sc y.o && chkE P N k sc z.1 && chkE P N x sc z.2
  | .dgetK kvs k x, sc, e => opt (asMeth e) fun y => opt (as2 y.as) fun z => opt (asDct y.o) fun d => decide (y.n = "get") && methOk y && ixOk z.1 && ixOk z.2 && dPairs kvs d.1 d.2 && decide (0 < kvs.length) && decide (kvs.length ≤ 15) && decide (kvs.map (·.1)).Nodup && chkE P N k sc z.1 && chkE P N x sc z.2
  | .gin neg a x kvs, sc, e => opt (asCmp e) fun y => opt (asName y.2.2) fun z => decide (y.2.1 = if neg then .NotIn else .In) && decide (z = x) && glOk sc z && decide (P.kds.lookup x = some kvs) && chkE P N a sc y.1
  | .gix x kvs a, sc, e => opt (asSub e) fun y => opt (asName y.1) fun z => ixOk y.2 && decide (z = x) && glOk sc z && decide (P.kds.lookup x = some kvs) && chkE P N a sc y.2
  | .minN es, sc, e => opt (asCall e) fun x => decide (x.1 = "min") && bltOk P sc "min" && !x.2.isEmpty && chkEs P N es sc x.2
  | .lsd _ a, sc, e => opt (asCall e) fun x => opt (as1 x.2) fun y => decide (x.1 = "list") && bltOk P sc "list" && ixOk y && chkE P N a sc y
  | .emp a, sc, e => opt (asCmp e) fun x => decide (x.2.1 = .Eq) && asDct0 x.2.2 && chkE P N a sc x.1
  | .splt _ a b, sc, e => opt (asMeth e) fun y => opt (as1 y.as) fun z => decide (y.n = "split") && methOk y && ixOk z && chkE P N a sc y.o && chkE P N b sc z
  | .fldI c a f, sc, e => opt (asAttr e) fun x => decide (x.2 = f) && fldOk P c f && noAttr x.1 && chkE P N a sc x.1
  | .new c k es, sc, e => opt (asCall e) fun x => iniOk P c k x.1 && glOk sc x.1 && chkEs P N es sc x.2
  | .meth _ c m k a es, sc, e => opt (asMeth e) fun y => decide (y.n = m) && metOk P c m k && methOk y && decide (y.as.length < 25) && chkE P N a sc y.o && chkEs P N es sc y.as
  | .isB neg a b, sc, e => opt (asCmp e) fun x => decide (x.2.1 = if neg then .IsNot else .Is) && decide (asCon x.2.2 = some (.bool b)) && chkE P N a sc x.1
def chkEs (P : Pg) (N : List Str) : Es → Scope → List Expr → Bool
  | .nil, _, fs => fs.isEmpty
  | .cons e es, sc, fs => opt fs.head? fun f => ixOk f && chkE P N e sc f && chkEs P N es sc fs.tail
def chkO (P : Pg) (N : List Str) : Eo → Scope → Option Expr → Bool
  | .none, _, o => o.isNone
  | .some e, sc, o => opt o fun f => chkE P N e sc f
/-- a comprehension's test -/
def chkC (P : Pg) (N : List Str) : Eo → Scope → List Expr → Bool
  | .none, _, fs => fs.isEmpty
  | .some e, sc, fs => opt (as1 fs) fun f => tOk e && chkE P N e sc f
def chkI (P : Pg) (N : List Str) : It → Scope → Expr → Expr → Bool
  | .seq e, sc, f, _ => chkE P N e sc f
  | .range1 e, sc, f, _ => opt (asCall f) fun x => opt (as1 x.2) fun y => decide (x.1 = "range") && bltOk P sc x.1 && ixOk y && chkE P N e sc y
  | .range2 a b, sc, f, _ => opt (asCall f) fun x => opt (as2 x.2) fun y => decide (x.1 = "range") && bltOk P sc x.1 && ixOk y.1 && ixOk y.2 && chkE P N a sc y.1 && chkE P N b sc y.2
  | .enum e, sc, f, tg => opt (asTup tg) fun _ => opt (asCall f) fun x => opt (as1 x.2) fun y => decide (x.1 = "enumerate") && bltOk P sc x.1 && ixOk y && chkE P N e sc y
  | .zip a b, sc, f, tg => opt (asTup tg) fun _ => opt (asCall f) fun x => opt (as2 x.2) fun y => decide (x.1 = "zip") && bltOk P sc x.1 && ixOk y.1 && ixOk y.2 && chkE P N a sc y.1 && chkE P N b sc y.2
  | .rev e, sc, f, _ => opt (asCall f) fun x => opt (as1 x.2) fun y => decide (x.1 = "reversed") && bltOk P sc x.1 && ixOk y && chkE P N e sc y
  | .seqr e, sc, f, _ => chkE P N e sc f
  | .keys e, sc, f, _ => chkE P N e sc f
end
/-! ### slots -/
def EnvOk (T : Tb) (H : Hp) (G : Wd) (ρ : Env) (σ : L2.St) : Prop := ρ.length = σ.length ∧ ∀ (i : Nat) d, ρ[i]? = some (some d) → ∃ v, σ[i]? = some (some v) ∧ RepV T H G d v
section
variable {T : Tb} {H H' : Hp} {G G' : Wd} {ρ : Env} {σ : L2.St}
theorem EnvOk.mono (x : MonA H G H' G') (h : EnvOk T H G ρ σ) : EnvOk T H' G' ρ σ := ⟨h.1, fun i d e => let ⟨v, e1, r⟩ := h.2 i d e; ⟨v, e1, r.mono x⟩⟩
theorem EnvOk.set (h : EnvOk T H G ρ σ) (i : Nat) {d : Vl} {v : V} (r : RepV T H G d v) : EnvOk T H G (ρ.set i (some d)) (σ.set i (some v)) := by
  refine ⟨by rw [List.length_set, List.length_set]; exact h.1, fun j e q => ?_⟩
  by_cases hj : i = j
  · subst hj
    by_cases hl : i < ρ.length
    · rw [List.getElem?_set_self hl] at q
      cases q
      exact ⟨v, List.getElem?_set_self (by rw [← h.1]; exact hl), r⟩
    · rw [List.getElem?_eq_none (by rw [List.length_set]; omega)] at q
      cases q
  · rw [List.getElem?_set_ne hj] at q ⊢
    exact h.2 j e q
theorem EnvOk.wipe (h : EnvOk T H G ρ σ) : ∀ own : List Nat, EnvOk T H G (Br.wipe ρ own) (L2.wipe σ own)
  | [] => h
  | v :: vs => by
    have ih := EnvOk.wipe h vs
    refine ⟨by show ((Br.wipe ρ vs).set v none).length = ((L2.wipe σ vs).set v none).length; rw [List.length_set, List.length_set]; exact ih.1, fun j e q => ?_⟩
    have q : ((Br.wipe ρ vs).set v none)[j]? = some (some e) := q
    show ∃ w, ((L2.wipe σ vs).set v none)[j]? = some (some w) ∧ _
    by_cases hj : v = j
    · subst hj
      by_cases hl : v < (Br.wipe ρ vs).length
      · rw [List.getElem?_set_self hl] at q
        cases q
      · rw [List.getElem?_eq_none (by rw [List.length_set]; omega)] at q
        cases q
    · rw [List.getElem?_set_ne hj] at q ⊢
      exact ih.2 j e q
end
/-! ### ends -/
def XRep (T : Tb) (H : Hp) (G : Wd) (fs : List D) (dx : Option Addr) : Prop :=
  (fs = [] ∧ dx = none) ∨ ∃ d x y v w, fs = [x, y] ∧ dx = some d ∧ H d = some (.xd [("most", w), ("many", v)]) ∧ ¬ Mu G d ∧ Rep T H G x v ∧ Rep T H G y w
def Post {α : Type} (T : Tb) (W : WX) (H : Hp) (G : Wd) (r : Res α) (K : α → Hp → Wd → Prop) : Prop := match r with
  | .ok a st' => ∀ H' G', G'.st = st' → Ext H G H' G' → Sim T H' G' → K a H' G'
  | .exc c fs st' => ∀ σ' dx H' G', G'.st = st' → Ext H G H' G' → Sim T H' G' → XRep T H' G' fs dx → W (.ref (T.ca c)) dx σ' H'
  | .bad => False
section
variable {T : Tb} {W : WX} {H H1 : Hp} {G G1 : Wd} {α β : Type} {r : Res α}
theorem Post.ext {K : α → Hp → Wd → Prop} (x : Ext H G H1 G1) (h : Post T W H G r K) : Post T W H1 G1 r K := by
  cases r with
  | ok a st => exact fun H' G' e y S => h H' G' e (x.trans y) S
  | exc c fs st => exact fun σ' dx H' G' e y S q => h σ' dx H' G' e (x.trans y) S q
  | bad => exact h
theorem Post.bind {f : α → Store → Res β} {K : β → Hp → Wd → Prop} {K1 : α → Hp → Wd → Prop} (h : Post T W H G (r.bind f) K) (k : ∀ a H1 G1, Ext H G H1 G1 → Sim T H1 G1 → Post T W H1 G1 (f a G1.st) K → K1 a H1 G1) : Post T W H G r K1 := by
  cases r with
  | ok a st =>
    intro H' G' e y S
    subst e
    exact k a H' G' y S (Post.ext y h)
  | exc c fs st => exact h
  | bad => exact h
theorem Post.mono {K K1 : α → Hp → Wd → Prop} (h : Post T W H G r K) (k : ∀ a H1 G1, Ext H G H1 G1 → Sim T H1 G1 → K a H1 G1 → K1 a H1 G1) : Post T W H G r K1 := by
  cases r with
  | ok a st => exact fun H' G' e y S => k a H' G' y S (h H' G' e y S)
  | exc c fs st => exact h
  | bad => exact h
theorem Post.here {a : α} {K : α → Hp → Wd → Prop} (h : Post T W H G (.ok a G.st) K) (S : Sim T H G) : K a H G := h H G rfl (Ext.refl H G) S
theorem Post.test {r : Res Vl} {f : Bool → Store → Res β} {K : β → Hp → Wd → Prop} {K1 : Vl → Hp → Wd → Prop} (h : Post T W H G (r.test f) K) (k : ∀ b H1 G1, Ext H G H1 G1 → Sim T H1 G1 → Post T W H1 G1 (f b G1.st) K → K1 (.d (.bl b)) H1 G1) : Post T W H G r K1 := by
  refine Post.bind h fun v H1 G1 x S q => ?_
  unfold tr at q
  split at q
  · rename_i b e
    split at e
    · cases e
      exact k _ H1 G1 x S q
    · cases e
  · exact q.elim
end
end Br

/-! Br4g: defs where no repr is under way. -/
namespace Br
open PySem PySem.Spec PyProof.Rows L2
/-- what a def promises where no repr is under way -/
structure FnG (P : Program) (w : World) (K : PySem.W.Frag) (mg : Str → Option Value) (base : Heap) (CX : CXT) (k : Nat) (f : Addr) (fd : FuncData) (ps : List Str) (sp : Sp) : Prop where
  len : ∀ vs H Q E, sp vs H Q E → vs.length = ps.length
  run : ∀ (A : Around) (out : List PySem.Env) (s : Shared) (H : Hp) (ar : Args) (us : List Value) (vs : List V) (Q : VK) (E : XK), Room k A → A.guards = some [] → Env0 P w K mg base A out s H →
    BindsTo s fd ar (ps.zip us) → Vals vs us → sp vs H Q E → codeAny (model P w) A (.call (.ref f) ar) (CR CX out P w H s Q E) s
theorem FnG.imp {P : Program} {w : World} {K : PySem.W.Frag} {mg : Str → Option Value} {base : Heap} {CX : CXT} {k : Nat} {f : Addr} {fd : FuncData} {ps : List Str} {sp sp' : Sp} (F : FnG P w K mg base CX k f fd ps sp)
    (h : ∀ vs H Q E, sp' vs H Q E → sp vs H Q E) : FnG P w K mg base CX k f fd ps sp' :=
  ⟨fun vs H Q E z => F.len vs H Q E (h vs H Q E z), fun A out s H ar us vs Q E rm gd e0 bd rv z => F.run A out s H ar us vs Q E rm gd e0 bd rv (h vs H Q E z)⟩
section
variable {X : Cx} {CX : CXT} {k : Nat} {f : Addr} {fd : FuncData} {ps : List Str} {sp : Sp} {Ex : L2.St → XK} {x : Str} {p q : Pos} {e : Expr} {es : List Expr} {t : TA}
theorem run_fnG {pn : List (Addr × Obj)} {σ : L2.St} {H : Hp} {s : Shared} {Q : VK} {us : List Value} {vs : List V} (F : FnG X.prog X.w X.K X.mg X.base CX k f fd ps sp) (rm : Room k X.A) (gd : X.A.guards = some []) (bd : Binds X.K fd ps []) (px : PassesAt CX X σ (Ex σ))
    (I : Inv X pn σ H s) (rv : Vals vs us) (z : sp vs H Q (Ex σ)) : wpAny (model X.prog X.w) X.A (call (.ref f) us) (EP X pn σ Q) X.xe s := by
  have nv : us.length = ps.length := (rv.length).symm.trans (F.len _ _ _ _ z)
  have b := bd s us I.kIn (by rw [List.append_nil, nv])
  rw [List.append_nil] at b
  refine wpAny_call (codeAny_mono (F.run X.A X.stack s H ⟨us, []⟩ us vs Q (Ex σ) rm gd I.env0 b rv z) fun r s2 hq => ?_)
  cases r with
  | error u => exact px pn H s u s2 I hq
  | ok fl =>
    cases fl with
    | ret u => exact I.after hq
    | next => cases hq
    | brk => cases hq
    | cont => cases hq
theorem pe_callG (F : FnG X.prog X.w X.K X.mg X.base CX k f fd ps sp) (rm : Room k X.A) (gd : X.A.guards = some []) (hg : Gl X x) (hm : X.mg x = some (.ref f)) (kp : PySem.W.keepIn X.K (.ref f) = true) (bd : Binds X.K fd ps []) (px : ∀ σ, PassesAt CX X σ (Ex σ))
    (pa : PA X (e :: es) t) (nd : (x == ("__debug__" : Str)) = false) (st : starEach (e :: es) X.env = (false, eval e X.env) :: starEach es X.env) (pl : (backTo q (starEach es X.env)).any (·.1) = false) :
    PE X (.Call (.Name x p) (e :: es) [] q) (tCallS sp Ex t) := by
  refine ⟨fun pn s σ H Q I z => wpAny_Call_Name_kw (ld_glob I hg hm ?_ nd)⟩
  exact PySem.W.callWith_K (h₀ := X.base) I.ok.mod.kin kp (thn (pa.run q pn s σ H _ I z) fun us s1 ⟨vs, H1, J, rv, zz⟩ => ⟨J.kIn, run_fnG F rm gd bd (px σ) J rv zz⟩) st pl
/-! ### own classes -/
/-- o.m(..) on one line -/
theorem meth_eq {o : Expr} {m : Str} {ap cp : Pos} {as : List Expr} {env : PySem.Env} (nb : attributeBase o m env (eval o env) = eval o env) (few : methodCallForm (as.length + ([] : List Keyword).length) (backTo cp (starEach as env)) (backToKw cp (keywordEach [] env)) = true) (ln : (ap.endLine == cp.line) = true) :
    eval (.Call (.Attribute o m ap) as [] cp) env = (eval o env >>= fun ov => standAt ap.atName >>= fun _ => holding [ov] (getMethod ov m (plainOf o env)) >>= fun z => callWith cp z.1 z.2 (backTo cp (starEach as env)) (backToKw cp (keywordEach [] env))) := by
  rw [arm_eval_Call, nb]
  refine congrArg (eval o env >>= ·) (funext fun ov => ?_)
  refine congrArg (standAt ap.atName >>= ·) (funext fun _ => ?_)
  exact mcall_line few ln
/-- what o.m(..) asks of the method's promise -/
def tMethS (D : Addr) (m : Str) (sp : Sp) (Ex : L2.St → XK) (ta : TE) (t : TA) : TE := fun σ H Q => ta σ H fun x H1 => ∃ (a dx : Addr) (fs : List (Str × V)), x = .ref a ∧ H1 a = some (.ins D dx fs) ∧ fs.lookup m = none ∧ t σ H1 fun vs H2 => sp (x :: vs) H2 Q (Ex σ)
theorem pe_methG {D : Addr} {m : Str} {o : Expr} {ta : TE} {ap : Pos} (ho : PE X o ta) (cl : Cls X.K D) (mt : Meth X.K D m f) (F : FnG X.prog X.w X.K X.mg X.base CX k f fd ps sp) (rm : Room k X.A) (gd : X.A.guards = some []) (bd : Binds X.K fd ps []) (px : ∀ σ, PassesAt CX X σ (Ex σ))
    (pa : PA X (e :: es) t) (nb : attributeBase o m X.env (eval o X.env) = eval o X.env) (few : methodCallForm ((e :: es).length + ([] : List Keyword).length) (backTo q (starEach (e :: es) X.env)) (backToKw q (keywordEach [] X.env)) = true) (ln : (ap.endLine == q.line) = true)
    (st : starEach (e :: es) X.env = (false, eval e X.env) :: starEach es X.env) (pl : (backTo q (starEach es X.env)).any (·.1) = false) :
    PE X (.Call (.Attribute o m ap) (e :: es) [] q) (tMethS D m sp Ex ta t) := by
  refine ⟨fun pn s σ H Q I z => PySem.W.methodCall_KW (pl := plainOf o X.env) (thn (ho.run pn s σ H _ I z) fun u s1 ⟨x, H1, J, rx, a, dx, fs, ex, ea, l, zz⟩ => ?_) (meth_eq nb few ln)⟩
  subst ex
  obtain rfl : u = Value.ref a := rx
  refine getmeth_ok J ea cl mt l ?_
  refine PySem.W.callWith_K (h₀ := X.base) (first := [.ref a]) I.ok.mod.kin mt.kp (thn (pa.run q pn s1 σ H1 _ J zz) fun us s2 ⟨vs, H2, J2, rv, z2⟩ => ⟨J2.kIn, ?_⟩) st pl
  exact run_fnG (vs := .ref a :: vs) (us := .ref a :: us) F rm gd bd (px σ) J2 (.cons rfl rv) z2
theorem pe_methG0 {D : Addr} {m : Str} {o : Expr} {ta : TE} {ap : Pos} (ho : PE X o ta) (cl : Cls X.K D) (mt : Meth X.K D m f) (F : FnG X.prog X.w X.K X.mg X.base CX k f fd ps sp) (rm : Room k X.A) (gd : X.A.guards = some []) (bd : Binds X.K fd ps []) (px : ∀ σ, PassesAt CX X σ (Ex σ))
    (nb : attributeBase o m X.env (eval o X.env) = eval o X.env) (ln : (ap.endLine == q.line) = true) :
    PE X (.Call (.Attribute o m ap) [] [] q) (tMethS D m sp Ex ta tNil) := by
  refine ⟨fun pn s σ H Q I z => PySem.W.methodCall_KW (pl := plainOf o X.env) (thn (ho.run pn s σ H _ I z) fun u s1 ⟨x, H1, J, rx, a, dx, fs, ex, ea, l, zz⟩ => ?_) (meth_eq nb rfl ln)⟩
  subst ex
  obtain rfl : u = Value.ref a := rx
  refine getmeth_ok J ea cl mt l ?_
  exact PySem.W.callWith_K0 (first := [.ref a]) J.kIn mt.kp (run_fnG (vs := [.ref a]) (us := [.ref a]) F rm gd bd (px σ) J (.cons rfl .nil) zz)
/-- room for a class's maker between the caller and the def -/
def MkRoom (k : Nat) (A : Around) : Prop := ∀ (D : Addr) (us : List Value), Room k (A.under (.builtin "type.__call__" ⟨.ref D :: us, []⟩)) ∧ (A.under (.builtin "type.__call__" ⟨.ref D :: us, []⟩)).guards = some []
theorem mk_guards {A : Around} {ar : Args} (g : A.guards = some []) : (A.under (.builtin "type.__call__" ar)).guards = some [] := by
  have e : (Code.builtin "type.__call__" ar).guards = [] := by
    first | rfl | decide | simp [Code.guards, Code.isGuard, guardIds]
  show pushGuards (Code.builtin "type.__call__" ar).guards A.guards = some []
  rw [e, g]
  rfl
theorem mkRoom_of {k : Nat} {A : Around} {env : PySem.Env} (rm : Room (k + 1) A) (gd : A.guards = some []) : MkRoom k (A.deeper env) := fun D us => by
  refine ⟨⟨rm.hd, ?_, ?_⟩, mk_guards gd⟩
  · have z := rm.dp
    rw [make_depth]
    show A.depth + 1 + 1 + 3 * k + 5 < _
    omega
  · have z := rm.un
    rw [make_units]
    show A.units + 3 + 1 + 16 * k + 200 < _
    omega
theorem run_makeG {D : Addr} {pn : List (Addr × Obj)} {σ : L2.St} {H : Hp} {s : Shared} {Q : VK} {us : List Value} {vs : List V} (M : Mk X.K D f) (F : FnG X.prog X.w X.K X.mg X.base CX k f fd ps sp) (mr : MkRoom k X.A) (bd : Binds X.K fd ps []) (px : PassesAt CX X σ (Ex σ))
    (I : Inv X pn σ H s) (rv : Vals vs us)
    (z : ∀ x dx, H x = none → H dx = none → dx ≠ x → sp (.ref x :: vs) (upd (upd H dx (.own x)) x (.ins D dx [])) (fun v H2 => v = .non ∧ Q (.ref x) H2) (Ex σ)) :
    wpAny (model X.prog X.w) X.A (call (.ref D) us) (EP X pn σ Q) X.xe s := by
  have J := Inv.made (C := D) I
  have zz := z (s.heap.objs.size + 1) s.heap.objs.size (I.hok.fresh (Nat.le_succ _)) (I.hok.fresh (Nat.le_refl _)) (Nat.ne_of_lt (Nat.lt_succ_self _))
  have rw2 : Vals (V.ref (s.heap.objs.size + 1) :: vs) (Value.ref (s.heap.objs.size + 1) :: us) := .cons rfl rv
  have nv : (Value.ref (s.heap.objs.size + 1) :: us).length = ps.length := (rw2.length).symm.trans (F.len _ _ _ _ zz)
  have b := bd _ (Value.ref (s.heap.objs.size + 1) :: us) J.kIn (by rw [List.append_nil, nv])
  rw [List.append_nil] at b
  have e0 := J.env0.make D us []
  refine wpAny_call (make_map (f := f) I.kIn M.makes M.init (beq_iff_eq.mp M.fn) (codeAny_mono (F.run _ X.stack _ _ ⟨Value.ref (s.heap.objs.size + 1) :: us, []⟩ _ _ _ _ (mr D us).1 (mr D us).2 e0 b rw2 zz) fun r s2 hq => ?_))
  cases r with
  | error u => exact px pn _ _ u s2 J hq
  | ok fl =>
    cases fl with
    | next => cases hq
    | brk => cases hq
    | cont => cases hq
    | ret u =>
      obtain ⟨v, H2, J2, r2, ev, zq⟩ := J.after hq
      subst ev
      exact ⟨r2, V.ref (s.heap.objs.size + 1), H2, J2, rfl, zq⟩
/-- what C(..) asks of its __init__ -/
def tMakeS (D : Addr) (sp : Sp) (Ex : L2.St → XK) (t : TA) : TE := fun σ H Q => t σ H fun vs H1 => ∀ x dx, H1 x = none → H1 dx = none → dx ≠ x → sp (.ref x :: vs) (upd (upd H1 dx (.own x)) x (.ins D dx [])) (fun v H2 => v = .non ∧ Q (.ref x) H2) (Ex σ)
theorem pe_makeG {D : Addr} (M : Mk X.K D f) (F : FnG X.prog X.w X.K X.mg X.base CX k f fd ps sp) (mr : MkRoom k X.A) (hg : Gl X x) (hm : X.mg x = some (.ref D)) (bd : Binds X.K fd ps []) (px : ∀ σ, PassesAt CX X σ (Ex σ))
    (pa : PA X (e :: es) t) (nd : (x == ("__debug__" : Str)) = false) (st : starEach (e :: es) X.env = (false, eval e X.env) :: starEach es X.env) (pl : (backTo q (starEach es X.env)).any (·.1) = false) :
    PE X (.Call (.Name x p) (e :: es) [] q) (tMakeS D sp Ex t) := by
  refine ⟨fun pn s σ H Q I z => wpAny_Call_Name_kw (ld_glob I hg hm ?_ nd)⟩
  exact PySem.W.callWith_K (h₀ := X.base) I.ok.mod.kin M.kp (thn (pa.run q pn s σ H _ I z) fun us s1 ⟨vs, H1, J, rv, zz⟩ => ⟨J.kIn, run_makeG M F mr bd (px σ) J rv zz⟩) st pl
theorem pe_makeG0 {D : Addr} (M : Mk X.K D f) (F : FnG X.prog X.w X.K X.mg X.base CX k f fd ps sp) (mr : MkRoom k X.A) (hg : Gl X x) (hm : X.mg x = some (.ref D)) (bd : Binds X.K fd ps []) (px : ∀ σ, PassesAt CX X σ (Ex σ)) (nd : (x == ("__debug__" : Str)) = false) :
    PE X (.Call (.Name x p) [] [] q) (tMakeS D sp Ex tNil) := by
  refine ⟨fun pn s σ H Q I z => wpAny_Call_Name_kw (ld_glob I hg hm ?_ nd)⟩
  exact PySem.W.callWith_K0 I.kIn M.kp (run_makeG (us := []) M F mr bd (px σ) I .nil z)
end
end Br

/-! Br5: expressions. -/
namespace Br
open PySem PySem.Spec PyProof.Rows L2

def spOf (T : Tb) (P : Pg) (C : Oracle) (k : Nat) : Sp := fun vs H Q E => ∃ ds G f, P.fns[k]? = some f ∧ ds.length = f.np ∧ RepVs T H G ds vs ∧ Sim T H G ∧
  Post T (fun c d _ H => E c d H) H G (C k ds G.st) fun x H' G' => ∀ v, RepV T H' G' x v → Q v H'
/-! ### classes -/
/-- ValueError's chain -/
def veL : List Value := [.type "ValueError", .type "Exception", .type "BaseException", .type "object"]
/-- what the written part says of an exception class -/
structure ClsOk (K : PySem.W.Frag) (D : Addr) : Prop where
  kp : PySem.W.keepIn K (.ref D) = true
  sb : PySem.W.subIn K (.ref D) (.type "BaseException") = some true
  ty : PySem.W.typeIn K (.ref D) = some (.type "type")
  hga : PySem.W.findIn K (.ref D) "__getattribute__" = some (some (.builtin "BaseException.__getattribute__"))
  hgg : PySem.W.findIn K (.ref D) "__getattr__" = some none
  hdt : PySem.W.hasDictIn K D = true
  hcl : PySem.W.findIn K (.ref D) "__class__" = some (some (.builtin "object.__class__"))
  hmr : PySem.W.mroIn K D (.type "object") = some true
  ve : PySem.W.kitOne K (.ref D) (.type "ValueError") = some true
  nm : PySem.W.findIn K (.ref D) "many" = some none
  ns : PySem.W.findIn K (.ref D) "most" = some none
def clsOkB (K : PySem.W.Frag) (D : Addr) : Bool :=
  PySem.W.keepIn K (.ref D) && (PySem.W.subIn K (.ref D) (.type "BaseException") == some true) && (PySem.W.typeIn K (.ref D) == some (.type "type")) &&
  (PySem.W.findIn K (.ref D) "__getattribute__" == some (some (.builtin "BaseException.__getattribute__"))) && (PySem.W.findIn K (.ref D) "__getattr__" == some none) && PySem.W.hasDictIn K D &&
  (PySem.W.findIn K (.ref D) "__class__" == some (some (.builtin "object.__class__"))) && (PySem.W.mroIn K D (.type "object") == some true) && (PySem.W.kitOne K (.ref D) (.type "ValueError") == some true) &&
  (PySem.W.findIn K (.ref D) "many" == some none) && (PySem.W.findIn K (.ref D) "most" == some none)
theorem clsOkB_ok {K : PySem.W.Frag} {D : Addr} (h : clsOkB K D = true) : ClsOk K D := by
  simp only [clsOkB, Bool.and_eq_true, beq_iff_eq] at h
  obtain ⟨⟨⟨⟨⟨⟨⟨⟨⟨⟨h1, h2⟩, h3⟩, h4⟩, h5⟩, h6⟩, h7⟩, h8⟩, h9⟩, h10⟩, h11⟩ := h
  exact ⟨h1, h2, h3, h4, h5, h6, h7, h8, h9, h10, h11⟩
/-- the classes, the first is every other's base -/
structure ClsG (K : PySem.W.Frag) (ca : Nat → Addr) (n : Nat) (gr : Option Nat) : Prop where
  ok : ∀ c, c < n → ClsOk K (ca c)
  mx : ∀ c, c < n → gr ≠ some c → PySem.W.excIn K (ca c) veL "ValueError.__new__" = true
  pr : ∀ c y, c < n → y < n → PySem.W.kitOne K (.ref (ca c)) (.ref (ca y)) = some (c == y || y == 0)
  ex : ∀ c, c < n → PySem.W.exmOne K (.ref (ca c)) (.ref (ca 0)) = some true
  hn : 0 < n → PySem.W.specialIn K (.builtin "object.__class__") "__get__" = some (some (.builtin "getset_descriptor.__get__"))
  ht : 0 < n → PySem.W.takesIn K (.builtin "object.__class__") = some true
def clsAllB (K : PySem.W.Frag) (cs : List Addr) (gr : Option Nat) : Bool :=
  (cs.zipIdx.all fun p => clsOkB K p.1 && (gr == some p.2 || PySem.W.excIn K p.1 veL "ValueError.__new__") && (PySem.W.exmOne K (.ref p.1) (.ref (cs.getD 0 0)) == some true) &&
    (cs.zipIdx.all fun q => PySem.W.kitOne K (.ref p.1) (.ref q.1) == some (p.2 == q.2 || q.2 == 0))) &&
  (cs.isEmpty || ((PySem.W.specialIn K (.builtin "object.__class__") "__get__" == some (some (.builtin "getset_descriptor.__get__"))) && (PySem.W.takesIn K (.builtin "object.__class__") == some true)))
theorem clsAllB_ok {K : PySem.W.Frag} {cs : List Addr} {gr : Option Nat} (h : clsAllB K cs gr = true) : ClsG K (fun c => cs.getD c 0) cs.length gr := by
  simp only [clsAllB, Bool.and_eq_true, List.all_eq_true, beq_iff_eq, Bool.or_eq_true] at h
  obtain ⟨h, h0⟩ := h
  have mem : ∀ c, c < cs.length → (cs.getD c 0, c) ∈ cs.zipIdx := fun c hc => by
    rw [List.mk_mem_zipIdx_iff_getElem?, List.getD_eq_getElem?_getD, List.getElem?_eq_getElem hc]
    rfl
  refine ⟨fun c hc => clsOkB_ok (h _ (mem c hc)).1.1.1, fun c hc hg => ?_, fun c y hc hy => (h _ (mem c hc)).2 _ (mem y hy), fun c hc => (h _ (mem c hc)).1.2, fun hn => ?_, fun hn => ?_⟩
  · rcases (h _ (mem c hc)).1.1.2 with z | z
    · exact absurd z hg
    · exact z
  · rcases h0 with z | z
    · rw [List.isEmpty_iff.mp z] at hn
      exact absurd hn (by simp)
    · exact z.1
  · rcases h0 with z | z
    · rw [List.isEmpty_iff.mp z] at hn
      exact absurd hn (by simp)
    · exact z.2
/-- __init__ of the class with two fields -/
def spIni (K : PySem.W.Frag) (D : Addr) : Sp := fun vs H Q _ => ∃ (a : Addr) (v w : V), vs = [.ref a, v, w] ∧ H a = some (exo a D none) ∧
  ∀ d, H d = none → d ≠ a → Q .non (upd (upd (upd H d (exd d [("many", v)])) a (exo a D (some d))) d (exd d [("most", w), ("many", v)]))
/-- what the written part says of the class with two fields -/
structure GrOk (P : Program) (w : World) (K : PySem.W.Frag) (mg : Str → Option Value) (base : Heap) (D : Addr) : Prop where
  oc : OexC K D
  ini : ∃ fI fd, PySem.W.findIn K (.ref D) "__init__" = some (some (.ref fI)) ∧ PySem.W.typeIn K (.ref fI) = some (.type "function") ∧
    FnOk P w K mg base CX0 1 fI fd ["self", "many", "most"] (spIni K D) ∧ Binds K fd ["self", "many", "most"] []

/-- what stands of an own class -/
structure OcOk (K : PySem.W.Frag) (mg : Str → Option Value) (fa : Nat → Addr) (D : Addr) (o : Ocl) : Prop where
  mgc : mg o.name = some (.ref D)
  cl : Cls K D
  mkd : Mk K D (fa o.ini)
  fl : ∀ f ∈ o.flds, NoAttr K D f
  ms : ∀ p ∈ o.ms, Meth K D p.1 (fa p.2)
/-- what holds while an exception is handled, too -/
structure XLt (T : Tb) (P : Pg) (lvl : Nat) (X : Cx) : Prop where
  K : T.K = X.K
  room : L2H.RoomH lvl X.A
  nd : X.N.Nodup
  blt : ∀ x, x ∈ P.blt → X.mg x = none
  cls : ∀ c x, P.cls[c]? = some x → X.mg x = some (.ref (T.ca c))
  cg : ClsG X.K T.ca P.cls.length P.gr
structure XOk (T : Tb) (P : Pg) (C : Oracle) (lvl : Nat) (W : WX) (X : Cx) : Prop extends XLt T P lvl X where
  calm : X.calm = true
  glb : ∀ x v, P.glb.lookup x = some v → ∃ u w, X.mg x = some u ∧ RelV w u ∧ ∀ H G, Rep T H G v w
  cold : T.xa = none
  rm : Room lvl X.A
  gd : X.A.guards = some []
  two : 2 ≤ lvl
  mkr : MkRoom lvl X.A
  oc : ∀ c o, P.ocl[c]? = some o → OcOk X.K X.mg T.fa (T.oa c) o
  fn : ∀ k f, P.fns[k]? = some f → (f.m = false → X.mg f.name = some (.ref (T.fa k))) ∧ PySem.W.keepIn X.K (.ref (T.fa k)) = true ∧ ∃ fd ps, FnG X.prog X.w X.K X.mg X.base (L2N.CX X.prog X.w) lvl (T.fa k) fd ps (spOf T P C k) ∧ Binds X.K fd ps []
  len : ∀ k vs st, C k vs st ≠ .bad → ∃ f, P.fns[k]? = some f ∧ vs.length = f.np
  takes : L2N.Takes X W
  kd : ∀ x kvs, P.kds.lookup x = some kvs → ∃ a, X.mg x = some (.ref a) ∧ KdOk X.K X.w a kvs
  gr : ∀ c, P.gr = some c → GrOk X.prog X.w X.K X.mg X.base (T.ca c)

section
variable {T : Tb} {P : Pg} {C : Oracle} {lvl : Nat} {W : WX}
theorem XOk.blk {X : Cx} (h : XOk T P C lvl W X) (s : Shared) (H : Hp) (scope : Scope) (ce : PySem.Env) (fp : List Addr) : XOk T P C lvl (fun _ _ _ _ => False) (X.blk s H scope ce fp) :=
  { K := h.K, room := h.room, nd := h.nd, glb := h.glb, blt := h.blt, cls := h.cls, cg := h.cg, calm := h.calm, cold := h.cold, rm := h.rm, gd := h.gd, two := h.two, fn := h.fn, len := h.len, gr := h.gr, kd := h.kd, mkr := h.mkr, oc := h.oc
    takes := fun _ _ x => by
      obtain ⟨_, _, _, _, _, _, _, _, _, _, _, _, _, _, _, _, z⟩ := x
      exact z.elim }

def tE (T : Tb) (C : Oracle) (W : WX) (m : E) : TE := fun σ H Q => ∃ ρ G, EnvOk T H G ρ σ ∧ Sim T H G ∧ Post T W H G (evE C m ρ G.st) fun x H' G' => ∀ v, RepV T H' G' x v → Q v H'
def tEs (T : Tb) (C : Oracle) (W : WX) (m : Es) : TA := fun σ H Q => ∃ ρ G, EnvOk T H G ρ σ ∧ Sim T H G ∧ Post T W H G (evEs C m ρ G.st) fun xs H' G' => ∀ vs, RepVs T H' G' xs vs → Q vs H'
def tDs (T : Tb) (C : Oracle) (W : WX) (m : Es) : TA := fun σ H Q => ∃ ρ G, EnvOk T H G ρ σ ∧ Sim T H G ∧ Post T W H G (evDs C m ρ G.st) fun xs H' G' => ∀ vs, Reps T H' G' xs vs → Q vs H'
def tO (T : Tb) (C : Oracle) (W : WX) (m : Eo) : TO := fun σ H Q => ∃ ρ G, EnvOk T H G ρ σ ∧ Sim T H G ∧ Post T W H G (evO C m ρ G.st) fun x H' G' => Q x H'
def tT (T : Tb) (C : Oracle) (W : WX) (m : E) : TT := fun σ H Q => ∃ ρ G, EnvOk T H G ρ σ ∧ Sim T H G ∧ Post T W H G (evE C m ρ G.st) fun x H' G' => ∃ b, x = .d (.bl b) ∧ Q b H'
/-- what is walked -/
structure Turns (T : Tb) (J : L2.It) (xs : List Vl) (H : Hp) (G : Wd) : Prop where
  goes : ∀ (i : Nat) H2 G2, MonA H G H2 G2 → Sim T H2 G2 → i < xs.length → J.go i H2
  stops : ∀ H2 G2, MonA H G H2 G2 → Sim T H2 G2 → J.stop xs.length H2
  yields : ∀ (i : Nat) H2 G2 x H3, MonA H G H2 G2 → Sim T H2 G2 → i < xs.length → J.yld i H2 x H3 → ∃ d, xs[i]? = some d ∧ Ext H2 G2 H3 G2 ∧ Sim T H3 G2 ∧ RepV T H3 G2 d x
def tI (T : Tb) (C : Oracle) (W : WX) (m : It) : TI := fun σ H R => ∃ ρ G, EnvOk T H G ρ σ ∧ Sim T H G ∧ Post T W H G (evI C m ρ G.st) fun xs H' G' => ∀ J, Turns T J xs H' G' → R J H'

theorem PE.imp {X : Cx} {e : Expr} {t t' : TE} (h : PE X e t) (f : ∀ σ H Q, t' σ H Q → t σ H Q) : PE X e t' := ⟨fun pins s σ H Q I q => h.run pins s σ H Q I (f σ H Q q)⟩
theorem PT.imp {X : Cx} {e : Expr} {t t' : TT} (h : PT X e t) (f : ∀ σ H Q, t' σ H Q → t σ H Q) : PT X e t' := ⟨fun pins s σ H Q I q => h.run pins s σ H Q I (f σ H Q q)⟩
theorem PW.imp {X : Cx} {e : Expr} {t t' : TT} (h : PW X e t) (f : ∀ σ H Q, t' σ H Q → t σ H Q) : PW X e t' := ⟨fun w pins s σ H Q I q => h.run w pins s σ H Q I (f σ H Q q)⟩
theorem PA.imp {X : Cx} {e : List Expr} {t t' : TA} (h : PA X e t) (f : ∀ σ H Q, t' σ H Q → t σ H Q) : PA X e t' := ⟨fun p pins s σ H Q I q => h.run p pins s σ H Q I (f σ H Q q)⟩
theorem PO.imp {X : Cx} {e : Option Expr} {t t' : TO} (h : PO X e t) (f : ∀ σ H Q, t' σ H Q → t σ H Q) : PO X e t' := ⟨fun pins s σ H Q I q => h.run pins s σ H Q I (f σ H Q q)⟩
theorem PI.imp {X : Cx} {tg e : Expr} {t t' : TI} (h : PI X tg e t) (f : ∀ σ H Q, t' σ H Q → t σ H Q) : PI X tg e t' := ⟨fun pins s σ H Q I q => h.run pins s σ H Q I (f σ H Q q)⟩
theorem PI.or {X : Cx} {tg e : Expr} {t t' : TI} (h : PI X tg e t) (h' : PI X tg e t') : PI X tg e (fun σ H R => t σ H R ∨ t' σ H R) :=
  ⟨fun pins s σ H Q I q => q.elim (h.run pins s σ H Q I) (h'.run pins s σ H Q I)⟩

/-- one operand -/
theorem tE_bind {α : Type} {m : E} {σ : L2.St} {H : Hp} {G : Wd} {ρ : Env} {f : Vl → Store → Res α} {K : α → Hp → Wd → Prop} {Q : VK} (he : EnvOk T H G ρ σ) (hs : Sim T H G) (h : Post T W H G ((evE C m ρ G.st).bind f) K)
    (k : ∀ x v H1 G1, Ext H G H1 G1 → Sim T H1 G1 → EnvOk T H1 G1 ρ σ → RepV T H1 G1 x v → Post T W H1 G1 (f x G1.st) K → Q v H1) : tE T C W m σ H Q :=
  ⟨ρ, G, he, hs, Post.bind h fun x H1 G1 y S q v r => k x v H1 G1 y S (he.mono y.mon) r q⟩
theorem tT_test {α : Type} {m : E} {σ : L2.St} {H : Hp} {G : Wd} {ρ : Env} {f : Bool → Store → Res α} {K : α → Hp → Wd → Prop} {Q : Bool → Hp → Prop} (he : EnvOk T H G ρ σ) (hs : Sim T H G) (h : Post T W H G ((evE C m ρ G.st).test f) K)
    (k : ∀ b H1 G1, Ext H G H1 G1 → Sim T H1 G1 → EnvOk T H1 G1 ρ σ → Post T W H1 G1 (f b G1.st) K → Q b H1) : tT T C W m σ H Q :=
  ⟨ρ, G, he, hs, Post.test h fun b H1 G1 y S q => ⟨b, rfl, k b H1 G1 y S (he.mono y.mon) q⟩⟩
theorem tE_test {α : Type} {m : E} {σ : L2.St} {H : Hp} {G : Wd} {ρ : Env} {f : Bool → Store → Res α} {K : α → Hp → Wd → Prop} {Q : VK} (he : EnvOk T H G ρ σ) (hs : Sim T H G) (h : Post T W H G ((evE C m ρ G.st).test f) K)
    (k : ∀ b H1 G1, Ext H G H1 G1 → Sim T H1 G1 → EnvOk T H1 G1 ρ σ → Post T W H1 G1 (f b G1.st) K → Q (.bl b) H1) : tE T C W m σ H Q :=
  ⟨ρ, G, he, hs, Post.test h fun b H1 G1 y S q v r => by rw [show v = .bl b from r]; exact k b H1 G1 y S (he.mono y.mon) q⟩
theorem one_ok {α : Type} {H : Hp} {G : Wd} {x : Vl} {v : V} {f : D → Res α} {K : α → Hp → Wd → Prop} (S : Sim T H G) (r : RepV T H G x v) (h : Post T W H G (one G.st x f) K) : ∃ d, RdD T H G d v ∧ Post T W H G (f d) K := by
  unfold one at h
  split at h
  · rename_i a e
    exact ⟨a, dr_rd S r e, h⟩
  · exact h.elim
theorem two_ok {α : Type} {H : Hp} {G : Wd} {x y : Vl} {v u : V} {f : D → D → Res α} {K : α → Hp → Wd → Prop} (S : Sim T H G) (r : RepV T H G x v) (r2 : RepV T H G y u) (h : Post T W H G (two G.st x y f) K) :
    ∃ d e, RdD T H G d v ∧ RdD T H G e u ∧ Post T W H G (f d e) K := by
  unfold two at h
  split at h
  · rename_i a b e1 e2
    exact ⟨a, b, dr_rd S r e1, dr_rd S r2 e2, h⟩
  · exact h.elim
theorem rD_ok {H : Hp} {G : Wd} {o : Option D} {Q : VK} (S : Sim T H G) (h : Post T W H G (rD G.st o) fun x H' G' => ∀ v, RepV T H' G' x v → Q v H') : ∃ r, o = some r ∧ ∀ v H', Ext H G H' G → Sim T H' G → Rep T H' G r v → Q v H' := by
  cases o with
  | none => exact h.elim
  | some r => exact ⟨r, rfl, fun v H' x S' rr => h H' G rfl x S' v rr⟩
theorem rB_ok {H : Hp} {G : Wd} {o : Option Bool} {K : Vl → Hp → Wd → Prop} (S : Sim T H G) (h : Post T W H G (rB G.st o) K) : ∃ b, o = some b ∧ K (.d (.bl b)) H G := by
  cases o with
  | none => exact h.elim
  | some b => exact ⟨b, rfl, h.here S⟩
theorem Ext.app {p : Addr} {c : Cell} {H H1 : Hp} {G G1 : Wd} (x : Ext H G H1 G1) (hp : H p = none) : Ext H G H1 ⟨G1.g ++ [(p, c)], G1.ex⟩ := by
  have pre : ∀ (n : Nat) q, G1.g[n]? = some q → (G1.g ++ [(p, c)])[n]? = some q := fun n q e => by
    rw [List.getElem?_append_left (List.getElem?_eq_some_iff.mp e).1]
    exact e
  refine ⟨x.keep, x.there, fun n a d e => ?_, fun n a d d' e e' l => ?_, fun n a d e l => ?_, x.ex⟩
  · obtain ⟨d', e'⟩ := x.addr n a d e
    exact ⟨d', pre n _ e'⟩
  · obtain ⟨d2, e2⟩ := x.addr n a d e
    have e3 := pre n _ e2
    have e' : (G1.g ++ [(p, c)])[n]? = some (a, d') := e'
    rw [e3] at e'
    cases e'
    exact x.live n a d _ e e2 l
  · have e : (G1.g ++ [(p, c)])[n]? = some (a, d) := e
    by_cases hn : n < G1.g.length
    · rw [List.getElem?_append_left hn] at e
      exact x.new n a d e l
    · rw [List.getElem?_append_right (by omega)] at e
      have z : n - G1.g.length = 0 := by
        have := (List.getElem?_eq_some_iff.mp e).1
        simp at this
        omega
      rw [z] at e
      cases e
      exact .inr hp
/-- a new list -/
theorem mk_ok {o : Bool} {ds : List D} {us : List V} {p : Addr} {H H1 : Hp} {G G1 : Wd} {Q : VK} (h : Post T W H G (mk o ds G1.st) fun x H' G' => ∀ v, RepV T H' G' x v → Q v H') (hp : H p = none) (x : Ext H G H1 G1) (S : Sim T H1 (G1.priv p))
    (e : H1 p = some (.lst us)) (r : Reps T H1 (G1.priv p) ds us) : Q (.ref p) H1 := by
  have nl : ¬ Lv G1 p := S.apart p List.mem_cons_self
  have nx : p ∉ G1.ex := (List.nodup_cons.mp S.exn).1
  cases o with
  | false => exact h H1 G1 rfl x S.exit _ ⟨p, us, rfl, ⟨e, fun m => m.elim nl nx⟩, r.mono Mon.exit.toMon⟩
  | true =>
    refine h H1 ⟨G1.g ++ [(p, .lst ds)], G1.ex⟩ (by simp [Wd.st]) (x.app hp) (S.cell_new e r) _ ⟨p, .lst ds, rfl, ?_⟩
    show (G1.g ++ [(p, Cell.lst ds)])[G1.st.length]? = _
    rw [Wd.st_len, List.getElem?_append_right (Nat.le_refl _), Nat.sub_self]
    rfl
/-- .. just made -/
theorem mk_new {o : Bool} {ds : List D} {us : List V} {H : Hp} {G : Wd} {Q : VK} (h : Post T W H G (mk o ds G.st) fun x H' G' => ∀ v, RepV T H' G' x v → Q v H') (S : Sim T H G) (r : Reps T H G ds us) :
    ∀ p, H p = none → Q (.ref p) (upd H p (.lst us)) := fun p hp =>
  mk_ok h hp (Ext.obj _ hp) (S.enter _ hp) upd_same (r.mono (Mon.enter _ hp).toMon)
/-- what a call leaves -/
theorem Ext.back {H H1 : Hp} {G G1 : Wd} (x : Ext H G H1 G1) : Ext H G H1 ⟨G1.g.take G.g.length, G1.ex⟩ := by
  have tk : ∀ (n : Nat) q, (G1.g.take G.g.length)[n]? = some q → n < G.g.length ∧ G1.g[n]? = some q := fun n q e => by
    by_cases hn : n < G.g.length
    · rw [List.getElem?_take_of_lt hn] at e
      exact ⟨hn, e⟩
    · rw [List.getElem?_eq_none (by rw [List.length_take]; omega)] at e
      cases e
  refine ⟨x.keep, x.there, fun n a d e => ?_, fun n a d d' e e' l => ?_, fun n a d e l => .inl (tk n _ e).1, x.ex⟩
  · obtain ⟨d', e'⟩ := x.addr n a d e
    exact ⟨d', by show (G1.g.take G.g.length)[n]? = _; rw [List.getElem?_take_of_lt (List.getElem?_eq_some_iff.mp e).1]; exact e'⟩
  · exact x.live n a d d' e (tk n _ e').2 l
theorem below_rep {T : Tb} {H : Hp} {G : Wd} {n : Nat} {ex' : List Addr} {x : Vl} {v : V} (r : RepV T H G x v) (h : x.below n = true) : RepV T H ⟨G.g.take n, ex'⟩ x v ∨ ∃ d, x = .d d := by
  cases x with
  | d d => exact .inr ⟨d, rfl⟩
  | r k =>
    obtain ⟨a, c, e, q⟩ := r
    exact .inl ⟨a, c, e, by show (G.g.take n)[k]? = _; rw [List.getElem?_take_of_lt (of_decide_eq_true h)]; exact q⟩
theorem mon_takeX {H : Hp} {G : Wd} (n : Nat) {ex' : List Addr} (hx : ∀ b ∈ ex', Mu G b) : Mon H G H ⟨G.g.take n, ex'⟩ := by
  refine ⟨fun _ _ e _ => e, fun a m => .inl (m.elim (fun l => .inl ?_) (hx a))⟩
  obtain ⟨k, c, e, l⟩ := l
  have e : (G.g.take n)[k]? = some (a, c) := e
  by_cases hk : k < n
  · rw [List.getElem?_take_of_lt hk] at e
    exact ⟨k, c, e, l⟩
  · rw [List.getElem?_eq_none (by rw [List.length_take]; omega)] at e
    cases e
theorem mon_take {H : Hp} {G : Wd} (n : Nat) : Mon H G H ⟨G.g.take n, G.ex⟩ := mon_takeX n fun _ h => .inr h
theorem repVs_below {T : Tb} {H : Hp} {G : Wd} {n : Nat} {ex' : List Addr} (hx : ∀ b ∈ ex', Mu G b) : ∀ {xs : List Vl} {us : List V}, RepVs T H G xs us → (∀ x ∈ xs, x.below n = true) → RepVs T H ⟨G.g.take n, ex'⟩ xs us
  | [], _, h, _ => h
  | x :: xs, _, ⟨v, vs, e, r, rs⟩, h => ⟨v, vs, e, by
    rcases below_rep r (h x List.mem_cons_self) with q | ⟨d, q⟩
    · exact q
    · subst q
      exact Rep.mono (mon_takeX n hx) r, repVs_below hx rs fun y hy => h y (List.mem_cons_of_mem _ hy)⟩
theorem cell_below {T : Tb} {H : Hp} {G : Wd} {n : Nat} {a : Addr} {ex' : List Addr} (hx : ∀ b ∈ ex', Mu G b) : ∀ {c : Cell}, c.below n = true → CellOk T H G a c → CellOk T H ⟨G.g.take n, ex'⟩ a c
  | .lst _, _, ⟨us, e, r⟩ => ⟨us, e, r.mono (mon_takeX n hx)⟩
  | .lsr ns, h, ⟨us, e, r⟩ => ⟨us, e, repVs_below hx r fun x hx => by
    obtain ⟨k, hk, rfl⟩ := List.mem_map.mp hx
    exact List.all_eq_true.mp h k hk⟩
  | .dic _, _, ⟨us, e, q, r⟩ => ⟨us, e, q, r.mono (mon_takeX n hx)⟩
  | .ins _ fs, h, ⟨dx, us, e, q, r⟩ => ⟨dx, us, e, q, repVs_below hx r fun x hx => by
    obtain ⟨p, hp, rfl⟩ := List.mem_map.mp hx
    exact List.all_eq_true.mp h p hp⟩
  | .dead, _, _ => trivial
theorem below_of {T : Tb} {H : Hp} {G : Wd} {a : Addr} : ∀ {c : Cell}, CellOk T H G a c → c.below G.g.length = true := by
  have key : ∀ {xs : List Vl} {us : List V}, RepVs T H G xs us → ∀ x ∈ xs, x.below G.g.length = true := by
    intro xs
    induction xs with
    | nil => intro us _ x hx; cases hx
    | cons y ys ih =>
      intro us r x hx
      obtain ⟨v, vs, e, r1, rs⟩ := r
      rcases List.mem_cons.mp hx with rfl | hx
      · cases x with
        | d _ => rfl
        | r k =>
          obtain ⟨a, c, _, q⟩ := r1
          exact decide_eq_true (List.getElem?_eq_some_iff.mp q).1
      · exact ih rs x hx
  intro c
  cases c with
  | lst _ => exact fun _ => rfl
  | dic _ => exact fun _ => rfl
  | dead => exact fun _ => rfl
  | lsr ns =>
    rintro ⟨us, e, r⟩
    exact List.all_eq_true.mpr fun k hk => key r (.r k) (List.mem_map.mpr ⟨k, hk, rfl⟩)
  | ins c fs =>
    rintro ⟨dx, us, e, q, r⟩
    exact List.all_eq_true.mpr fun p hp => key r p.2 (List.mem_map.mpr ⟨p, hp, rfl⟩)
theorem Sim.backX {T : Tb} {H H1 : Hp} {G G1 : Wd} {ex' : List Addr} (S : Sim T H G) (S1 : Sim T H1 G1) (x : Ext H G H1 G1) (f : FinOk G.st G1.st) (hx : ∀ b ∈ ex', Mu G1 b) (ha : ∀ a ∈ ex', ¬ Lv ⟨G1.g.take G.g.length, ex'⟩ a) (he : ∀ a ∈ ex', ∃ o, H1 a = some o) (hn : ex'.Nodup) : Sim T H1 ⟨G1.g.take G.g.length, ex'⟩ := by
  have tk : ∀ (n : Nat) q, (G1.g.take G.g.length)[n]? = some q → n < G.g.length ∧ G1.g[n]? = some q := fun n q e => by
    by_cases hn : n < G.g.length
    · rw [List.getElem?_take_of_lt hn] at e
      exact ⟨hn, e⟩
    · rw [List.getElem?_eq_none (by rw [List.length_take]; omega)] at e
      cases e
  refine ⟨fun n a c e => ?_, fun n m a c c' e e' l l' => S1.inj n m a c c' (tk n _ e).2 (tk m _ e').2 l l', ha, he, hn⟩
  obtain ⟨hn, e1⟩ := tk n _ e
  refine cell_below hx ?_ (S1.cell n a c e1)
  have es : G1.st[n]? = some c := by unfold Wd.st; rw [List.getElem?_map, e1]; rfl
  rcases f n (by rw [Wd.st_len]; exact hn) with h | ⟨c', h, hb⟩
  · obtain ⟨⟨a0, c0⟩, e0⟩ : ∃ p, G.g[n]? = some p := ⟨_, List.getElem?_eq_getElem hn⟩
    have es0 : G.st[n]? = some c0 := by unfold Wd.st; rw [List.getElem?_map, e0]; rfl
    rw [es, es0] at h
    cases h
    exact below_of (S.cell n a0 c e0)
  · rw [es] at h
    cases h
    rw [Wd.st_len] at hb
    exact hb
theorem Sim.back {T : Tb} {H H1 : Hp} {G G1 : Wd} (S : Sim T H G) (S1 : Sim T H1 G1) (x : Ext H G H1 G1) (f : FinOk G.st G1.st) : Sim T H1 ⟨G1.g.take G.g.length, G1.ex⟩ := by
  refine S.backX S1 x f (fun _ h => .inr h) (fun a h l => ?_) S1.exs S1.exn
  obtain ⟨n, c, e, l⟩ := l
  have e : (G1.g.take G.g.length)[n]? = some (a, c) := e
  by_cases hn : n < G.g.length
  · rw [List.getElem?_take_of_lt hn] at e
    exact S1.apart a h ⟨n, c, e, l⟩
  · rw [List.getElem?_eq_none (by rw [List.length_take]; omega)] at e
    cases e
/-- the end of a call -/
theorem fin_ok {T : Tb} {W : WX} {H : Hp} {G : Wd} {r : Res Vl} {Q : VK} (S : Sim T H G) (h : Post T W H G (fin G.st r) fun x H' G' => ∀ v, RepV T H' G' x v → Q v H') : Post T W H G r fun x H' G' => ∀ v, RepV T H' G' x v → Q v H' := by
  cases r with
  | bad => exact h
  | exc c fs st =>
    intro σ' dx H' G' e x S' q
    unfold fin at h
    by_cases hf : FinOk G.st st
    · simp only [hf, if_true] at h
      subst e
      refine h σ' dx H' ⟨G'.g.take G.g.length, G'.ex⟩ ?_ x.back (S.back S' x hf) ?_
      · rw [Wd.st_len]; simp [Wd.st]
      · rcases q with q | ⟨d, y, z, v, w, q1, q2, q3, qm, q4, q5⟩
        · exact .inl q
        · exact .inr ⟨d, y, z, v, w, q1, q2, q3, nomu (mon_take _) q3 qm, q4.mono (mon_take _), q5.mono (mon_take _)⟩
    · simp only [hf, if_false] at h
      exact h.elim
  | ok v st =>
    intro H' G' e x S' u r
    unfold fin at h
    by_cases hf : FinOk G.st st
    · simp only [hf, if_true] at h
      subst e
      have est : (⟨G'.g.take G.g.length, G'.ex⟩ : Wd).st = G'.st.take G.st.length := by rw [Wd.st_len]; simp [Wd.st]
      cases v with
      | d d => exact h H' ⟨G'.g.take G.g.length, G'.ex⟩ est x.back (S.back S' x hf) u (Rep.mono (mon_take _) r)
      | r k =>
        by_cases hk : k < G.st.length
        · simp only [hk, if_true] at h
          obtain ⟨a, c, e1, q⟩ := r
          exact h H' ⟨G'.g.take G.g.length, G'.ex⟩ est x.back (S.back S' x hf) u ⟨a, c, e1, by
            show (G'.g.take G.g.length)[k]? = _
            rw [List.getElem?_take_of_lt (by rw [Wd.st_len] at hk; exact hk)]
            exact q⟩
        · simp only [hk, if_false] at h
          obtain ⟨a, c, e1, q⟩ := r
          have es : G'.st[k]? = some c := by unfold Wd.st; rw [List.getElem?_map, q]; rfl
          rw [es] at h
          cases c with
          | lst xs =>
            obtain ⟨us, q1, q2⟩ := S'.cell k a _ q
            have hk' : ¬ k < G.g.length := by rw [Wd.st_len] at hk; exact hk
            refine h H' ⟨G'.g.take G.g.length, G'.ex⟩ est x.back (S.back S' x hf) u ⟨a, us, e1, ⟨q1, fun m => ?_⟩, q2.mono (mon_take _)⟩
            rcases m with ⟨n, c, e, l⟩ | m
            · have e : (G'.g.take G.g.length)[n]? = some (a, c) := e
              by_cases hn : n < G.g.length
              · rw [List.getElem?_take_of_lt hn] at e
                have := S'.inj n k a c _ e q l rfl
                omega
              · rw [List.getElem?_eq_none (by rw [List.length_take]; omega)] at e
                cases e
            · exact S'.apart a m ⟨k, _, q, rfl⟩
          | lsr _ => exact h.elim
          | dic _ => exact h.elim
          | ins _ _ => exact h.elim
          | dead => exact h.elim
    · simp only [hf, if_false] at h
      exact h.elim
end
section
variable {T : Tb}
/-- a new cell of any kind -/
theorem cell_app {H H1 : Hp} {G G1 : Wd} {p : Addr} {cc : Cell} (hl : cc.live = true) (hp : H p = none) (x : Ext H G H1 G1) (S : Sim T H1 (G1.priv p)) (ok : Mon H1 (G1.priv p) H1 ⟨G1.g ++ [(p, cc)], G1.ex⟩ → CellOk T H1 ⟨G1.g ++ [(p, cc)], G1.ex⟩ p cc) :
    Ext H G H1 ⟨G1.g ++ [(p, cc)], G1.ex⟩ ∧ Sim T H1 ⟨G1.g ++ [(p, cc)], G1.ex⟩ := by
  have pre : ∀ (n : Nat) q, G1.g[n]? = some q → (G1.g ++ [(p, cc)])[n]? = some q := fun n q e => by
    rw [List.getElem?_append_left (List.getElem?_eq_some_iff.mp e).1]
    exact e
  have old : ∀ (k : Nat) b d, (G1.g ++ [(p, cc)])[k]? = some (b, d) → G1.g[k]? = some (b, d) ∨ (k = G1.g.length ∧ b = p ∧ d = cc) := fun k b d q => by
    by_cases hk : k < G1.g.length
    · rw [List.getElem?_append_left hk] at q
      exact .inl q
    · rw [List.getElem?_append_right (by omega)] at q
      have z : k - G1.g.length = 0 := by
        have := (List.getElem?_eq_some_iff.mp q).1
        simp at this
        omega
      rw [z] at q
      cases q
      exact .inr ⟨by omega, rfl, rfl⟩
  have nl : ¬ Lv G1 p := S.apart p List.mem_cons_self
  have nx : p ∉ G1.ex := (List.nodup_cons.mp S.exn).1
  have mon : MonA H1 (G1.priv p) H1 ⟨G1.g ++ [(p, cc)], G1.ex⟩ := by
    refine ⟨⟨fun _ _ e _ => e, fun a m => .inl ?_⟩, fun n a c e => ⟨c, pre n _ e⟩⟩
    rcases m with ⟨n, c, q, l⟩ | m
    · rcases old n a c q with h | ⟨_, h, _⟩
      · exact .inl ⟨n, c, h, l⟩
      · subst h
        exact .inr List.mem_cons_self
    · exact .inr (List.mem_cons_of_mem _ m)
  refine ⟨x.app hp, ⟨fun n a c q => ?_, fun n m a c c' q q' l l' => ?_, fun a m l => ?_, fun a m => S.exs a (List.mem_cons_of_mem _ m), (List.nodup_cons.mp S.exn).2⟩⟩
  · rcases old n a c q with h | ⟨_, h, hc⟩
    · exact (S.cell n a c h).mono mon fun o e => e
    · subst h hc
      exact ok mon.toMon
  · rcases old n a c q with h | ⟨h1, h, hc⟩ <;> rcases old m a c' q' with k | ⟨k1, k, kc⟩
    · exact S.inj n m a c c' h k l l'
    · subst k
      exact absurd ⟨n, c, h, l⟩ nl
    · subst h
      exact absurd ⟨m, c', k, l'⟩ nl
    · omega
  · obtain ⟨n, c, q, l⟩ := l
    rcases old n a c q with h | ⟨_, h, _⟩
    · exact S.apart a (List.mem_cons_of_mem _ m) ⟨n, c, h, l⟩
    · subst h
      exact nx m
end
theorem fino_ok {T : Tb} {W : WX} {H : Hp} {G : Wd} {r : Res Vl} {Q : VK} (S : Sim T H G) (h : Post T W H G (fino G.st r) fun x H' G' => ∀ v, RepV T H' G' x v → Q v H') : Post T W H G r fun x H' G' => ∀ v, RepV T H' G' x v → Q v H' := by
  cases r with
  | bad => exact h
  | exc c fs st =>
    refine fin_ok S ?_
    unfold fino at h
    exact h
  | ok v st =>
    intro H' G' e x S' u r
    unfold fino at h
    cases v with
    | d d =>
      cases d with
      | non =>
        refine fin_ok (W := W) S (r := .ok (.d .non) st) ?_ H' G' e x S' u r
        unfold fin
        exact h
      | _ => exact h.elim
    | r k =>
      by_cases hf : FinOk G.st st ∧ ¬ k < G.st.length
      · simp only [hf, not_false_eq_true, and_self, if_true] at h
        subst e
        obtain ⟨hf, hk⟩ := hf
        obtain ⟨a, c, e1, q⟩ := r
        have es : G'.st[k]? = some c := by unfold Wd.st; rw [List.getElem?_map, q]; rfl
        rw [es] at h
        have hk' : ¬ k < G.g.length := by rw [Wd.st_len] at hk; exact hk
        cases c with
        | lst xs =>
          obtain ⟨us, q1, q2⟩ := S'.cell k a _ q
          have fresh : H a = none := (x.new k a _ q rfl).resolve_left hk'
          have nl : ¬ Lv ⟨G'.g.take G.g.length, a :: G'.ex⟩ a := fun ⟨n, c, e, l⟩ => by
            have e : (G'.g.take G.g.length)[n]? = some (a, c) := e
            by_cases hn : n < G.g.length
            · rw [List.getElem?_take_of_lt hn] at e
              have := S'.inj n k a c _ e q l rfl
              omega
            · rw [List.getElem?_eq_none (by rw [List.length_take]; omega)] at e
              cases e
          have mu : ∀ b ∈ a :: G'.ex, Mu G' b := fun b hb => by
            rcases List.mem_cons.mp hb with rfl | hb
            · exact .inl ⟨k, _, q, rfl⟩
            · exact .inr hb
          have nx : a ∉ G'.ex := fun m => S'.apart a m ⟨k, _, q, rfl⟩
          have Sp : Sim T H' (Wd.priv ⟨G'.g.take G.g.length, G'.ex⟩ a) := by
            refine S.backX S' x hf mu (fun b hb l => ?_) (fun b hb => ?_) (List.nodup_cons.mpr ⟨nx, S'.exn⟩)
            · rcases List.mem_cons.mp hb with rfl | hb
              · exact nl l
              · refine (S.back S' x hf).apart b hb ?_
                obtain ⟨n, c, e, l⟩ := l
                exact ⟨n, c, e, l⟩
            · rcases List.mem_cons.mp hb with rfl | hb
              · exact ⟨_, q1⟩
              · exact S'.exs b hb
          have rp : Reps T H' (Wd.priv ⟨G'.g.take G.g.length, G'.ex⟩ a) xs us := q2.mono (mon_takeX _ mu)
          refine h H' ⟨G'.g.take G.g.length ++ [(a, .lst xs)], G'.ex⟩ ?_ (x.back.app fresh) (Sp.cell_new q1 rp) u ⟨a, .lst xs, e1, ?_⟩
          · rw [Wd.st_len]; simp [Wd.st]
          · show (G'.g.take G.g.length ++ [(a, Cell.lst xs)])[G.st.length]? = _
            rw [Wd.st_len]
            have hl : (G'.g.take G.g.length).length = G.g.length := by
              rw [List.length_take]
              have := (List.getElem?_eq_some_iff.mp q).1
              omega
            rw [List.getElem?_append_right (by omega), hl, Nat.sub_self]
            rfl
        | dic kvs =>
          obtain ⟨kus, q1, qk, q2⟩ := S'.cell k a _ q
          have fresh : H a = none := (x.new k a _ q rfl).resolve_left hk'
          have nl : ¬ Lv ⟨G'.g.take G.g.length, a :: G'.ex⟩ a := fun ⟨n, c, e, l⟩ => by
            have e : (G'.g.take G.g.length)[n]? = some (a, c) := e
            by_cases hn : n < G.g.length
            · rw [List.getElem?_take_of_lt hn] at e
              have := S'.inj n k a c _ e q l rfl
              omega
            · rw [List.getElem?_eq_none (by rw [List.length_take]; omega)] at e
              cases e
          have mu : ∀ b ∈ a :: G'.ex, Mu G' b := fun b hb => by
            rcases List.mem_cons.mp hb with rfl | hb
            · exact .inl ⟨k, _, q, rfl⟩
            · exact .inr hb
          have nx : a ∉ G'.ex := fun m => S'.apart a m ⟨k, _, q, rfl⟩
          have Sp : Sim T H' (Wd.priv ⟨G'.g.take G.g.length, G'.ex⟩ a) := by
            refine S.backX S' x hf mu (fun b hb l => ?_) (fun b hb => ?_) (List.nodup_cons.mpr ⟨nx, S'.exn⟩)
            · rcases List.mem_cons.mp hb with rfl | hb
              · exact nl l
              · refine (S.back S' x hf).apart b hb ?_
                obtain ⟨n, c, e, l⟩ := l
                exact ⟨n, c, e, l⟩
            · rcases List.mem_cons.mp hb with rfl | hb
              · exact ⟨_, q1⟩
              · exact S'.exs b hb
          have rp : Reps T H' (Wd.priv ⟨G'.g.take G.g.length, G'.ex⟩ a) (kvs.map (·.2)) (kus.map (·.2)) := q2.mono (mon_takeX _ mu)
          obtain ⟨x2, S2⟩ := cell_app (cc := .dic kvs) rfl fresh x.back Sp fun m => ⟨kus, q1, qk, rp.mono m⟩
          refine h H' ⟨G'.g.take G.g.length ++ [(a, .dic kvs)], G'.ex⟩ ?_ x2 S2 u ⟨a, .dic kvs, e1, ?_⟩
          · rw [Wd.st_len]; simp [Wd.st]
          · show (G'.g.take G.g.length ++ [(a, Cell.dic kvs)])[G.st.length]? = _
            rw [Wd.st_len]
            have hl : (G'.g.take G.g.length).length = G.g.length := by
              rw [List.length_take]
              have := (List.getElem?_eq_some_iff.mp q).1
              omega
            rw [List.getElem?_append_right (by omega), hl, Nat.sub_self]
            rfl
        | lsr _ => exact h.elim
        | ins _ _ => exact h.elim
        | dead => exact h.elim
      · simp only [hf, if_false] at h
        exact h.elim
end Br

/-! Br6: expressions, all together. -/
namespace Br
open PySem PySem.Spec PyProof.Rows L2
theorem or2 {a b : Bool} (h : (a || b) = true) : a = true ∨ b = true := Bool.or_eq_true_iff.mp h
theorem and2 {a b : Bool} (h : (a && b) = true) : a = true ∧ b = true := Bool.and_eq_true_iff.mp h
theorem nBool {b : Bool} (h : (!b) = true) : b = false := by cases b <;> first | rfl | cases h
theorem slot_ok {N : List Str} {sc : Scope} {i : Nat} {x : Str} (h : slotOk N sc i x = true) : N[i]? = some x ∧ Vis sc x ∧ (x == ("__debug__" : Str)) = false ∧ (x == ("__classdict__" : Str)) = false := by
  obtain ⟨h1, h2⟩ := and2 h
  obtain ⟨h1, h3⟩ := and2 h1
  obtain ⟨h2, _⟩ := and2 h2
  obtain ⟨h2, h4⟩ := and2 h2
  exact ⟨of_decide_eq_true h1, vis_ok h3, nBool h2, nBool h4⟩
theorem gl_ok {X : Cx} {x : Str} (h : glOk X.env.scope x = true) : Gl X x ∧ (x == ("__debug__" : Str)) = false ∧ x ≠ "__name__" := by
  obtain ⟨h1, h2⟩ := and2 h
  obtain ⟨h2, h3⟩ := and2 h2
  refine ⟨?_, nBool (and2 h2).1, fun e => ?_⟩
  · split at h1
    · assumption
    · cases h1
  · subst e
    exact absurd (nBool h3) (by decide +kernel)
theorem star_cons {e : Expr} {es : List Expr} {env : PySem.Env} (h : ixOk e = true) : starEach (e :: es) env = (false, eval e env) :: starEach es env := by
  cases e <;> first | rfl | cases h
theorem plain_ix {e : Expr} (h : ixOk e = true) : PlainIx e := fun _ _ => by
  cases e <;> first | rfl | cases h
theorem noSet_mk {op : CmpOp} {e : Expr} (h : noSet e = true) : behindInMarks op e = false := by
  cases e <;> first | rfl | cases h
theorem noSet_last {op op' : CmpOp} {a b : Expr} (h : noSet b = true) : lastMarks [op, op'] [a, b] = false := by
  show lastMarks [op'] [b] = false
  exact noSet_mk h
theorem noSet_fold {e : Expr} (h : noSet e = true) (env : PySem.Env) (x : Value) : foldedSetIterable e env x = pure x := by
  cases e <;> first | rfl | cases h
theorem star_any {env : PySem.Env} {pos : Pos} : ∀ {es : List Expr}, (∀ e ∈ es, ixOk e = true) → (backTo pos (starEach es env)).any (·.1) = false
  | [], _ => rfl
  | e :: es, h => by
    rw [star_cons (h e List.mem_cons_self)]
    show (false || (backTo pos (starEach es env)).any (·.1)) = false
    rw [star_any fun x hx => h x (List.mem_cons_of_mem _ hx)]
    rfl
theorem chkEs_ix {P : Pg} {N : List Str} {sc : Scope} : ∀ {es : Es} {fs : List Expr}, chkEs P N es sc fs = true → ∀ e ∈ fs, ixOk e = true
  | .nil, fs, h => by
    have h : fs.isEmpty = true := h
    rw [List.isEmpty_iff.mp h]
    intro e he
    cases he
  | .cons m ms, fs, h => by
    obtain ⟨f, h1, h2⟩ := opt_ok h
    cases fs with
    | nil => cases h1
    | cons g gs =>
      cases h1
      obtain ⟨h2, h3⟩ := and2 h2
      intro e he
      rcases List.mem_cons.mp he with rfl | he
      · exact (and2 h2).1
      · exact chkEs_ix h3 e he
theorem isnone_rep {T : Tb} {H : Hp} {G : Wd} : ∀ {x : Vl} {v : V}, RepV T H G x v → decide (v = .non) = isNon x
  | .r n, v, r => by
    obtain ⟨a, c, e, _⟩ := r
    subst e
    rfl
  | .d d, v, r => by
    cases d with
    | non => cases (show v = .non from r); rfl
    | bl b => cases (show v = .bl b from r); rfl
    | int b => cases (show v = .int b from r); rfl
    | str b => cases (show v = .str b ∧ _ from r).1; rfl
    | tup b => obtain ⟨a, us, e, _⟩ := r; subst e; rfl
    | lst b => obtain ⟨a, us, e, _⟩ := r; subst e; rfl
    | kst b => obtain ⟨a, us, e, _⟩ := r; subst e; rfl
    | dct => obtain ⟨a, e, _⟩ := r; subst e; rfl
    | fn b => cases (show v = .ref _ from r); rfl
    | xc b c => obtain ⟨a, e, _⟩ := r; subst e; rfl
section
variable {T : Tb} {P : Pg} {C : Oracle} {lvl : Nat}
theorem tt_here {W : WX} {m : E} {σ : L2.St} {H : Hp} {Q : Bool → Hp → Prop} (h : tT T C W m σ H Q) : tE T C W m σ H (fun x H1 => ∃ c, x = .bl c ∧ Q c H1) := by
  obtain ⟨ρ, G, he, hs, h⟩ := h
  refine ⟨ρ, G, he, hs, Post.mono h fun x H1 G1 _ _ ⟨b, e, q⟩ v r => ?_⟩
  subst e
  exact ⟨b, r, q⟩
theorem con_ok {X : Cx} {W : WX} {d : D} {c : Const} {k : Nat} {p : Pos} (h : conOk d c = true) : PE X (.Constant c k p) (tE T C W (.con d)) := by
  have key : ∀ {v : V}, (∀ H G, Rep T H G d v) → PE X (.Constant c k p) (tC v) → PE X (.Constant c k p) (tE T C W (.con d)) := fun {v} r h => PE.imp h fun σ H Q ⟨ρ, G, he, hs, q⟩ => q.here hs v (r H G)
  unfold conOk at h
  split at h
  · exact key (v := .non) (fun _ _ => rfl) pe_non
  · rename_i b c
    have e : b = c := by simpa using h
    subst e
    exact key (v := .bl b) (fun _ _ => rfl) pe_bl
  · rename_i b c
    have e : b = c := by simpa using h
    subst e
    exact key (v := .int b) (fun _ _ => rfl) pe_int
  · rename_i b c
    obtain ⟨h1, h2⟩ := and2 h
    have e : b = c := of_decide_eq_true h1
    subst e
    exact key (v := .str b) (fun _ _ => ⟨rfl, h2⟩) pe_str
  · cases h
theorem blt_mg {X : Cx} (hX : XLt T P lvl X) {x : Str} (h : bltOk P X.env.scope x = true) : Gl X x ∧ X.mg x = none := by
  obtain ⟨h1, h2⟩ := and2 h
  exact ⟨(gl_ok h1).1, hX.blt x (by simpa using h2)⟩
theorem b1_pe {X : Cx} {W : WX} (hX : XOk T P C lvl W X) {f : B1} {e : Expr} {p q : Pos} {t : TE} (hf : b1Ok f = true) (hb : bltOk P X.env.scope (b1N f) = true) (he : ixOk e = true) (h : PE X e t) : PE X (.Call (.Name (b1N f) p) [e] [] q) (tCB (rB1 T f) (tCons t tNil)) := by
  obtain ⟨hg, hm⟩ := blt_mg hX.toXLt hb
  have ha : PA X [e] (tCons t tNil) := pa_cons h pa_nil (star_cons he)
  have hs := b1_sound (X := X) hX.K hX.room hX.calm f
  cases f
  case len => exact pe_callB hs hg hm (by decide +kernel) ha (he := star_cons he)
  case int => exact pe_callTy hs hg hm (by decide +kernel) ha (he := star_cons he)
  case all => exact pe_callB hs hg hm (by decide +kernel) ha (he := star_cons he)
  case any => exact pe_callB hs hg hm (by decide +kernel) ha (he := star_cons he)
  case sum => exact pe_callB hs hg hm (by decide +kernel) ha (he := star_cons he)
  case max => exact pe_callB hs hg hm (by decide +kernel) ha (he := star_cons he)
  case min => exact pe_callB hs hg hm (by decide +kernel) ha (he := star_cons he)
  case tuple => exact pe_callTy hs hg hm (by decide +kernel) ha (he := star_cons he)
  case list => exact pe_callTy hs hg hm (by decide +kernel) ha (he := star_cons he)
  all_goals cases hf
theorem b2_pe {X : Cx} {W : WX} (hX : XOk T P C lvl W X) {f : B2} {e g : Expr} {p q : Pos} {t u : TE} (hf : b2Ok f = true) (hb : bltOk P X.env.scope (b2N f) = true) (he : ixOk e = true) (hg : ixOk g = true) (h : PE X e t) (h2 : PE X g u) :
    PE X (.Call (.Name (b2N f) p) [e, g] [] q) (tCB (rB2 T f) (tCons t (tCons u tNil))) := by
  obtain ⟨hgl, hm⟩ := blt_mg hX.toXLt hb
  have ha : PA X [e, g] (tCons t (tCons u tNil)) := pa_cons h (pa_cons h2 pa_nil (star_cons hg)) (star_cons he)
  have hs := b2_sound (X := X) hX.K hX.calm f
  have hp : ∀ pos, (backTo pos (starEach [g] X.env)).any (·.1) = false := fun pos => star_any fun e he' => by
    rw [List.mem_singleton.mp he']
    exact hg
  cases f
  case min => exact pe_callB hs hgl hm (by decide +kernel) ha (he := star_cons he) (hpl := hp _)
  case max => exact pe_callB hs hgl hm (by decide +kernel) ha (he := star_cons he) (hpl := hp _)
  all_goals cases hf
theorem ty_pe {X : Cx} {W : WX} (hX : XOk T P C lvl W X) {t : Ty} {p : Pos} (hb : bltOk P X.env.scope (Str.ofString (tyN t)) = true) : PE X (.Name (Str.ofString (tyN t)) p) (tC (.ty (tyN t))) := by
  obtain ⟨hgl, hm⟩ := blt_mg hX.toXLt hb
  cases t
  case int => exact pe_bltn hgl hm (u := .type "int") (by decide +kernel) rfl (by decide +kernel) (by decide +kernel)
  case bool => exact pe_bltn hgl hm (u := .type "bool") (by decide +kernel) rfl (by decide +kernel) (by decide +kernel)
  case tuple => exact pe_bltn hgl hm (u := .type "tuple") (by decide +kernel) rfl (by decide +kernel) (by decide +kernel)
  case list => exact pe_bltn hgl hm (u := .type "list") (by decide +kernel) rfl (by decide +kernel) (by decide +kernel)
  case str => exact pe_bltn hgl hm (u := .type "str") (by decide +kernel) rfl (by decide +kernel) (by decide +kernel)
  case dict => exact pe_bltn hgl hm (u := .type "dict") (by decide +kernel) rfl (by decide +kernel) (by decide +kernel)
/-- a call of a def -/
theorem call_pe {X : Cx} {W : WX} (hX : XOk T P C lvl W X) {k : Nat} {x : Str} {fs : List Expr} {p q : Pos} {t : TA} (hk : P.fns[k]?.bind (·.gn) = some x) (hb : glOk X.env.scope x = true) (hne : fs.isEmpty = false) (hi : ∀ e ∈ fs, ixOk e = true) (h : PA X fs t) :
    PE X (.Call (.Name x p) fs [] q) (tCallS (spOf T P C k) (WE W) t) := by
  cases hf : P.fns[k]? with
  | none => rw [hf] at hk; cases hk
  | some f =>
    rw [hf] at hk
    obtain ⟨m0, rfl⟩ := gn_ok (show f.gn = some x from hk)
    obtain ⟨hm, kp, fd, ps, F, B⟩ := hX.fn k f hf
    replace hm := hm m0
    obtain ⟨hg, hd, _⟩ := gl_ok hb
    cases fs with
    | nil => cases hne
    | cons e es => exact pe_callG F hX.rm hX.gd hg hm kp B (fun σ => L2N.passAt hX.takes σ) h hd (star_cons (hi e List.mem_cons_self)) (star_any fun x hx => hi x (List.mem_cons_of_mem _ hx))

variable {X : Cx} {W : WX} {e f g : Expr} {p : Pos} {a b c : E}
theorem sE_op {o : Bop} (hX : XLt T P lvl X) (ha : PE X e (tE T C W a)) (hb : PE X f (tE T C W b)) : PE X (.BinOp e (bop o) f p) (tE T C W (.op o a b)) := by
  refine PE.imp (pe_op (op_sound hX.K o) ha hb) fun σ H Q ⟨ρ, G, he, hs, q⟩ => ?_
  refine tE_bind he hs q fun x v H1 G1 x1 s1 e1 r1 q1 => tE_bind e1 s1 q1 fun z u H2 G2 x2 s2 e2 r2 q2 => ?_
  obtain ⟨d, e, hd, he', q3⟩ := two_ok s2 (r1.mono x2.mon) r2 q2
  obtain ⟨r, eo, q4⟩ := rD_ok s2 q3
  exact ⟨G2, d, e, r, s2, hd, he', eo, q4⟩
theorem sE_opo (hX : XLt T P lvl X) (ha : PE X e (tE T C W a)) (hb : PE X f (tE T C W b)) : PE X (.BinOp e (bop .add) f p) (tE T C W (.opo a b)) := by
  refine PE.imp (pe_op op_cat ha hb) fun σ H Q ⟨ρ, G, he, hs, q⟩ => ?_
  refine tE_bind he hs q fun x v H1 G1 x1 s1 e1 r1 q1 => tE_bind e1 s1 q1 fun z u H2 G2 x2 s2 e2 r2 q2 => ?_
  obtain ⟨d, e, hd, he', q3⟩ := two_ok s2 (r1.mono x2.mon) r2 q2
  split at q3
  · rename_i xs ys
    split at q3
    · rename_i hz
      obtain ⟨a, us, ea, t1, rr1⟩ := hd
      obtain ⟨b, ws, eb, t2, rr2⟩ := he'
      exact ⟨a, b, us, ws, ea, eb, t1, t2, by rw [rr1.length, rr2.length]; exact hz, mk_new q3 s2 (rr1.append rr2)⟩
    · exact q3.elim
  · exact q3.elim
theorem cmp_imp {o : Cop} {σ : L2.St} {H : Hp} {Q : VK} (h : tE T C W (.cmp o a b) σ H Q) : tOp (rCop T o) (tE T C W a) (tE T C W b) σ H Q := by
  obtain ⟨ρ, G, he, hs, q⟩ := h
  refine tE_bind he hs q fun x v H1 G1 x1 s1 e1 r1 q1 => tE_bind e1 s1 q1 fun z u H2 G2 x2 s2 e2 r2 q2 => ?_
  obtain ⟨d, e, hd, he', q3⟩ := two_ok s2 (r1.mono x2.mon) r2 q2
  obtain ⟨b, eo, q4⟩ := rB_ok s2 q3
  exact ⟨G2, d, e, b, s2, hd, he', eo, q4 _ rfl⟩
theorem sE_cmp {o : Cop} (hX : XLt T P lvl X) (hm : behindInMarks (cop o) f = false) (ha : PE X e (tE T C W a)) (hb : PE X f (tE T C W b)) : PE X (.Compare e [cop o] [f] p) (tE T C W (.cmp o a b)) :=
  PE.imp (pe_cmpR (cop_sound hX.K hX.room o) ha hb hm) fun σ H Q h => cmp_imp h
theorem sT_cmp {o : Cop} (hX : XLt T P lvl X) (hm : behindInMarks (cop o) f = false) (ha : PE X e (tE T C W a)) (hb : PE X f (tE T C W b)) : PT X (.Compare e [cop o] [f] p) (tT T C W (.cmp o a b)) :=
  PT.imp (pt_cmpR (cop_sound hX.K hX.room o) ha hb hm) fun σ H Q h => cmp_imp (tt_here h)
theorem cmp2_imp {o o' : Cop} {σ : L2.St} {H : Hp} {Q : VK} (h : tE T C W (.cmp2 o o' a b c) σ H Q) : tChain (rCop T o) (rCop T o') (tE T C W a) (tE T C W b) (tE T C W c) σ H Q := by
  obtain ⟨ρ, G, he, hs, q⟩ := h
  refine tE_bind he hs q fun x v H1 G1 x1 s1 e1 r1 q1 => tE_bind e1 s1 q1 fun z u H2 G2 x2 s2 e2 r2 q2 => ?_
  obtain ⟨d, e, hd, he', q3⟩ := two_ok s2 (r1.mono x2.mon) r2 q2
  cases eo : cmpD o d e with
  | none => rw [eo] at q3; exact q3.elim
  | some b =>
    rw [eo] at q3
    refine ⟨G2, d, e, b, s2, hd, he', eo, b, rfl, ?_⟩
    cases b with
    | true =>
      refine tE_bind e2 s2 q3 fun z' u' H3 G3 x3 s3 e3 r3 q5 => ?_
      obtain ⟨d', e', hd', he', q6⟩ := two_ok s3 (r2.mono x3.mon) r3 q5
      obtain ⟨b, eo, q7⟩ := rB_ok s3 q6
      exact ⟨G3, d', e', b, s3, hd', he', eo, q7 _ rfl⟩
    | false => exact q3.here s2 _ rfl
theorem sE_cmp2 {o o' : Cop} (hX : XOk T P C lvl W X) (hm : lastMarks [cop o, cop o'] [f, g] = false) (ha : PE X e (tE T C W a)) (hb : PE X f (tE T C W b)) (hc : PE X g (tE T C W c)) :
    PE X (.Compare e [cop o, cop o'] [f, g] p) (tE T C W (.cmp2 o o' a b c)) :=
  PE.imp (pe_chain (cop_sound hX.K hX.room o) (cop_sound hX.K hX.room o') ha hb hc hm) fun σ H Q h => cmp2_imp h
theorem sT_cmp2 {o o' : Cop} (hX : XOk T P C lvl W X) (hm : lastMarks [cop o, cop o'] [f, g] = false) (ha : PE X e (tE T C W a)) (hb : PE X f (tE T C W b)) (hc : PE X g (tE T C W c)) :
    PT X (.Compare e [cop o, cop o'] [f, g] p) (tT T C W (.cmp2 o o' a b c)) :=
  PT.imp (pt_chain (cop_sound hX.K hX.room o) (cop_sound hX.K hX.room o') ha hb hc hm) fun σ H Q h => cmp2_imp (tt_here h)
theorem isN_imp {σ : L2.St} {H : Hp} {Q : VK} (h : tE T C W (.isN a) σ H Q) : tIsN (tE T C W a) σ H Q := by
  obtain ⟨ρ, G, he, hs, q⟩ := h
  refine tE_bind he hs q fun x v H1 G1 x1 s1 e1 r1 q1 => ?_
  have q2 := q1.here s1 _ rfl
  rw [isnone_rep r1]
  exact q2
theorem notN_imp {σ : L2.St} {H : Hp} {Q : VK} (h : tE T C W (.notN a) σ H Q) : tNotN (tE T C W a) σ H Q := by
  obtain ⟨ρ, G, he, hs, q⟩ := h
  refine tE_bind he hs q fun x v H1 G1 x1 s1 e1 r1 q1 => ?_
  have q2 := q1.here s1 _ rfl
  rw [isnone_rep r1]
  exact q2
theorem sE_neg (ha : PE X e (tE T C W a)) : PE X (.UnaryOp .USub e p) (tE T C W (.neg a)) := by
  refine PE.imp (pe_un un_neg ha) fun σ H Q ⟨ρ, G, he, hs, q⟩ => ?_
  refine tE_bind he hs q fun x v H1 G1 x1 s1 e1 r1 q1 => ?_
  split at q1
  · exact ⟨_, r1, q1.here s1 _ rfl⟩
  · exact q1.elim
theorem sE_not (ha : PE X e (tE T C W a)) : PE X (.UnaryOp .Not e p) (tE T C W (.not a)) :=
  PE.imp (pe_not ha) fun σ H Q ⟨ρ, G, he, hs, q⟩ => tE_test he hs q fun b H1 G1 x1 s1 e1 q1 => ⟨b, rfl, q1.here s1 _ rfl⟩
theorem sT_not (ha : PT X e (tT T C W a)) : PT X (.UnaryOp .Not e p) (tT T C W (.not a)) :=
  PT.imp (pt_not ha) fun σ H Q ⟨ρ, G, he, hs, q⟩ => tT_test he hs q fun b H1 G1 x1 s1 e1 q1 => by
    obtain ⟨c, ec, q2⟩ := q1.here s1
    cases ec
    exact q2
theorem sE_and {r : List Expr} (ha : PE X e (tE T C W a)) (hb : PE X (.BoolOp .And (f :: r) p) (tE T C W b)) : PE X (.BoolOp .And (e :: f :: r) p) (tE T C W (.and a b)) :=
  PE.imp (pe_and ha hb) fun σ H Q ⟨ρ, G, he, hs, q⟩ => tE_test he hs q fun c H1 G1 x1 s1 e1 q1 => by
    refine ⟨c, rfl, ?_⟩
    cases c with
    | true => exact ⟨ρ, G1, e1, s1, q1⟩
    | false => exact q1.here s1 _ rfl
theorem sE_or {r : List Expr} (ha : PE X e (tE T C W a)) (hb : PE X (.BoolOp .Or (f :: r) p) (tE T C W b)) : PE X (.BoolOp .Or (e :: f :: r) p) (tE T C W (.or a b)) :=
  PE.imp (pe_or ha hb) fun σ H Q ⟨ρ, G, he, hs, q⟩ => tE_test he hs q fun c H1 G1 x1 s1 e1 q1 => by
    refine ⟨c, rfl, ?_⟩
    cases c with
    | true => exact q1.here s1 _ rfl
    | false => exact ⟨ρ, G1, e1, s1, q1⟩
theorem sW_and {r : List Expr} (ha : PT X e (tT T C W a)) (hb : PW X (.BoolOp .And (f :: r) p) (tT T C W b)) : PW X (.BoolOp .And (e :: f :: r) p) (tT T C W (.and a b)) :=
  PW.imp (pw_and ha hb) fun σ H Q ⟨ρ, G, he, hs, q⟩ => tT_test he hs q fun c H1 G1 x1 s1 e1 q1 => by
    cases c with
    | true => exact ⟨ρ, G1, e1, s1, q1⟩
    | false =>
      obtain ⟨c, ec, q2⟩ := q1.here s1
      cases ec
      exact q2
theorem sW_or {r : List Expr} (ha : PT X e (tT T C W a)) (hb : PW X (.BoolOp .Or (f :: r) p) (tT T C W b)) : PW X (.BoolOp .Or (e :: f :: r) p) (tT T C W (.or a b)) :=
  PW.imp (pw_or ha hb) fun σ H Q ⟨ρ, G, he, hs, q⟩ => tT_test he hs q fun c H1 G1 x1 s1 e1 q1 => by
    cases c with
    | true =>
      obtain ⟨c, ec, q2⟩ := q1.here s1
      cases ec
      exact q2
    | false => exact ⟨ρ, G1, e1, s1, q1⟩
theorem sE_ite (hc : PT X e (tT T C W c)) (ha : PE X f (tE T C W a)) (hb : PE X g (tE T C W b)) : PE X (.IfExp e f g p) (tE T C W (.ite c a b)) :=
  PE.imp (pe_ifExp hc ha hb) fun σ H Q ⟨ρ, G, he, hs, q⟩ => tT_test he hs q fun t H1 G1 x1 s1 e1 q1 => by
    cases t with
    | true => exact ⟨ρ, G1, e1, s1, q1⟩
    | false => exact ⟨ρ, G1, e1, s1, q1⟩
theorem sE_tup {es : Es} {fs : List Expr} {k : Nat} (h : PA X fs (tDs T C W es)) : PE X (.Tuple fs k p) (tE T C W (.tup es)) :=
  PE.imp (pe_tup h) fun σ H Q ⟨ρ, G, he, hs, q⟩ => ⟨ρ, G, he, hs, Post.bind q fun xs H1 G1 x1 s1 q1 vs r => by
    split at q1
    · rename_i hz
      refine ⟨by rw [r.length]; exact hz, fun pp hp => ?_⟩
      exact q1 _ G1 rfl (Ext.obj _ hp) (s1.obj _ hp) _ (Rep.newT s1 hp r)
    · exact q1.elim⟩
theorem sE_lst {o : Bool} {es : Es} {fs : List Expr} (h : PA X fs (tDs T C W es)) : PE X (.List fs p) (tE T C W (.lst o es)) :=
  PE.imp (pe_lst h) fun σ H Q ⟨ρ, G, he, hs, q⟩ => ⟨ρ, G, he, hs, Post.bind q fun xs H1 G1 x1 s1 q1 vs r => by
    split at q1
    · rename_i hz
      exact ⟨by rw [r.length]; exact hz, mk_new q1 s1 r⟩
    · exact q1.elim⟩
theorem sE_idx (hX : XLt T P lvl X) (hi : ixOk f = true) (ha : PE X e (tE T C W a)) (hb : PE X f (tE T C W b)) : PE X (.Subscript e f p) (tE T C W (.idx a b)) := by
  refine PE.imp (pe_ix (ix_sound hX.K) ha hb (plain_ix hi)) fun σ H Q ⟨ρ, G, he, hs, q⟩ => ?_
  refine tE_bind he hs q fun x v H1 G1 x1 s1 e1 r1 q1 => tE_bind e1 s1 q1 fun z u H2 G2 x2 s2 e2 r2 q2 => ?_
  obtain ⟨d, e, hd, he', q3⟩ := two_ok s2 (r1.mono x2.mon) r2 q2
  cases e with
  | int k =>
    obtain ⟨r, eo, q4⟩ := rD_ok s2 q3
    exact ⟨G2, d, k, r, s2, hd, he', eo, q4⟩
  | _ => exact q3.elim
theorem sE_sl {lo hi : Eo} {l h : Option Expr} {p2 : Pos} (hX : XOk T P C lvl W X) (ha : PE X e (tE T C W a)) (hl : PO X l (tO T C W lo)) (hh : PO X h (tO T C W hi)) : PE X (.Subscript e (.Slice l h none p2) p) (tE T C W (.sl a lo hi)) := by
  refine PE.imp (pe_slice (sl_sound hX.K) ha hl hh) fun σ H Q ⟨ρ, G, he, hs, q⟩ => ?_
  refine tE_bind he hs q fun x v H1 G1 x1 s1 e1 r1 q1 => ⟨ρ, G1, e1, s1, Post.bind q1 fun lo H2 G2 x2 s2 q2 => ⟨ρ, G2, e1.mono x2.mon, s2, Post.bind q2 fun hi H3 G3 x3 s3 q3 => ?_⟩⟩
  obtain ⟨d, hd, q4⟩ := one_ok s3 ((r1.mono x2.mon).mono x3.mon) q3
  obtain ⟨r, eo, q5⟩ := rD_ok s3 q4
  exact ⟨G3, d, r, s3, hd, eo, q5⟩
theorem sE_b1 {k : B1} {q : Pos} (hX : XOk T P C lvl W X) (hf : b1Ok k = true) (hb : bltOk P X.env.scope (b1N k) = true) (hi : ixOk e = true) (h : PE X e (tE T C W a)) : PE X (.Call (.Name (b1N k) p) [e] [] q) (tE T C W (.b1 k a)) :=
  PE.imp (b1_pe hX hf hb hi h) fun σ H Q ⟨ρ, G, he, hs, q⟩ => tE_bind he hs q fun x v H1 G1 x1 s1 e1 r1 q1 => by
    obtain ⟨d, hd, q4⟩ := one_ok s1 r1 q1
    obtain ⟨r, eo, q5⟩ := rD_ok s1 q4
    exact ⟨v, G1, d, r, rfl, s1, hd, eo, q5⟩
theorem sE_b2 {k : B2} {q : Pos} (hX : XOk T P C lvl W X) (hf : b2Ok k = true) (hb : bltOk P X.env.scope (b2N k) = true) (hi : ixOk e = true) (hi2 : ixOk f = true) (h : PE X e (tE T C W a)) (h2 : PE X f (tE T C W b)) :
    PE X (.Call (.Name (b2N k) p) [e, f] [] q) (tE T C W (.b2 k a b)) :=
  PE.imp (b2_pe hX hf hb hi hi2 h h2) fun σ H Q ⟨ρ, G, he, hs, q⟩ => tE_bind he hs q fun x v H1 G1 x1 s1 e1 r1 q1 => tE_bind e1 s1 q1 fun z u H2 G2 x2 s2 e2 r2 q2 => by
    obtain ⟨d, e, hd, he', q3⟩ := two_ok s2 (r1.mono x2.mon) r2 q2
    obtain ⟨r, eo, q4⟩ := rD_ok s2 q3
    exact ⟨v, u, G2, d, e, r, rfl, s2, hd, he', eo, q4⟩
theorem sE_isi {t : Ty} {q p2 : Pos} (hX : XOk T P C lvl W X) (hb : bltOk P X.env.scope "isinstance" = true) (hb2 : bltOk P X.env.scope (Str.ofString (tyN t)) = true) (hi : ixOk e = true) (h : PE X e (tE T C W a)) :
    PE X (.Call (.Name "isinstance" p) [e, .Name (Str.ofString (tyN t)) p2] [] q) (tE T C W (.isi a t)) := by
  obtain ⟨hgl, hm⟩ := blt_mg hX.toXLt hb
  have ha : PA X [e, .Name (Str.ofString (tyN t)) p2] (tCons (tE T C W a) (tCons (tC (.ty (tyN t))) tNil)) := pa_cons h (pa_cons (ty_pe hX hb2) pa_nil (star_cons rfl)) (star_cons hi)
  refine PE.imp (pe_callB (isi_sound (X := X) hX.K t) hgl hm (by decide +kernel) ha (he := star_cons hi)) fun σ H Q ⟨ρ, G, he, hs, q⟩ => ?_
  refine tE_bind he hs q fun x v H1 G1 x1 s1 e1 r1 q1 => ?_
  obtain ⟨b, eo, q2⟩ := rB_ok s1 q1
  unfold isiV at eo
  cases ed : dr G1.st x with
  | none => rw [ed] at eo; cases eo
  | some d =>
    rw [ed] at eo
    exact ⟨v, G1, d, b, rfl, s1, dr_rd s1 r1 ed, eo, q2 _ rfl⟩
theorem repVs_len {H : Hp} {G : Wd} {xs : List Vl} {us : List V} (h : RepVs T H G xs us) : us.length = xs.length := h.length
theorem Post.nebad {α : Type} {H : Hp} {G : Wd} {r : Res α} {K : α → Hp → Wd → Prop} (h : Post T W H G r K) : r ≠ .bad := fun e => by subst e; exact h
theorem sE_call {k : Nat} {x : Str} {es : Es} {fs : List Expr} {q : Pos} (hX : XOk T P C lvl W X) (hk : P.fns[k]?.bind (·.gn) = some x) (hb : glOk X.env.scope x = true) (hne : fs.isEmpty = false) (hi : ∀ e ∈ fs, ixOk e = true) (h : PA X fs (tEs T C W es)) :
    PE X (.Call (.Name x p) fs [] q) (tE T C W (.call k es)) :=
  PE.imp (call_pe hX hk hb hne hi h) fun σ H Q ⟨ρ, G, he, hs, q⟩ => ⟨ρ, G, he, hs, Post.bind q fun xs H1 G1 x1 s1 q1 vs r => by
    have q2 := fin_ok s1 q1
    obtain ⟨f, hf, hl⟩ := hX.len k xs G1.st q2.nebad
    refine ⟨xs, G1, f, hf, hl, r, s1, ?_⟩
    revert q2
    generalize C k xs G1.st = r
    intro q2
    cases r with
    | ok a st => exact q2
    | exc c fs st => exact fun σ' dx H' G' e y S z => q2 σ dx H' G' e y S z
    | bad => exact q2⟩
theorem sE_callo {k : Nat} {x : Str} {es : Es} {fs : List Expr} {q : Pos} (hX : XOk T P C lvl W X) (hk : P.fns[k]?.bind (·.gn) = some x) (hb : glOk X.env.scope x = true) (hne : fs.isEmpty = false) (hi : ∀ e ∈ fs, ixOk e = true) (h : PA X fs (tEs T C W es)) :
    PE X (.Call (.Name x p) fs [] q) (tE T C W (.callo k es)) :=
  PE.imp (call_pe hX hk hb hne hi h) fun σ H Q ⟨ρ, G, he, hs, q⟩ => ⟨ρ, G, he, hs, Post.bind q fun xs H1 G1 x1 s1 q1 vs r => by
    have q2 := fino_ok s1 q1
    obtain ⟨f, hf, hl⟩ := hX.len k xs G1.st q2.nebad
    refine ⟨xs, G1, f, hf, hl, r, s1, ?_⟩
    revert q2
    generalize C k xs G1.st = r
    intro q2
    cases r with
    | ok a st => exact q2
    | exc c fs st => exact fun σ' dx H' G' e y S z => q2 σ dx H' G' e y S z
    | bad => exact q2⟩
/-- the world without cells -/
def Wd.nil : Wd := ⟨[], []⟩
theorem nil_mu {a : Addr} : ¬ Mu Wd.nil a := fun m => by
  rcases m with ⟨n, c, e, _⟩ | m
  · simp [Wd.nil] at e
  · cases m
theorem nil_sim {H : Hp} : Sim T H Wd.nil := by
  refine ⟨fun n a c e => ?_, fun n m a c c' e => ?_, fun a h => ?_, fun a h => ?_, List.nodup_nil⟩
  · simp [Wd.nil] at e
  · simp [Wd.nil] at e
  · cases h
  · cases h
theorem nil_mon {H : Hp} {G : Wd} : Mon H G H Wd.nil := ⟨fun _ _ e _ => e, fun a m => absurd m nil_mu⟩
theorem nil_all {H H' : Hp} {G' : Wd} (x : Ext H Wd.nil H' G') {a : Addr} {o : HO} (e : H a = some o) : H' a = some o := x.keep a o e fun l => nil_mu (.inl l)
/-- all that stood stands -/
theorem ext_kept {H H' : Hp} {G : Wd} (k : ∀ a o, H a = some o → H' a = some o) : Ext H G H' G :=
  ⟨fun a o e _ => k a o e, fun a o e => ⟨o, k a o e⟩, fun n a c e => ⟨c, e⟩, fun n a c c' e e' h => by rw [e] at e'; cases e'; exact h, fun n a c e _ => .inl (List.getElem?_eq_some_iff.mp e).1, rfl⟩
theorem sim_kept {H H' : Hp} {G : Wd} (S : Sim T H G) (k : ∀ a o, H a = some o → H' a = some o) : Sim T H' G :=
  ⟨fun n a c e => (S.cell n a c e).mono (ext_kept k).mon (fun o q => k a o q), S.inj, S.apart, fun a m => let ⟨o, q⟩ := S.exs a m; ⟨o, k a o q⟩, S.exn⟩
/-- the world without cells; what is held apart stays so -/
def Wd.nx (G : Wd) : Wd := ⟨[], G.ex⟩
theorem nx_lv {G : Wd} {a : Addr} : ¬ Lv G.nx a := fun ⟨n, c, e, _⟩ => by simp [Wd.nx] at e
theorem nx_mu {G : Wd} {a : Addr} (m : Mu G.nx a) : a ∈ G.ex := m.resolve_left nx_lv
theorem nx_sim {H : Hp} {G : Wd} (S : Sim T H G) : Sim T H G.nx := by
  refine ⟨fun n a c e => ?_, fun n m a c c' e => ?_, fun a h => nx_lv, fun a h => S.exs a h, S.exn⟩
  · simp [Wd.nx] at e
  · simp [Wd.nx] at e
theorem nx_mon {H : Hp} {G : Wd} : Mon H G H G.nx := ⟨fun _ _ e _ => e, fun a m => .inl (.inr (nx_mu m))⟩
theorem nx_all {G : Wd} {H H' : Hp} {G' : Wd} (x : Ext H G.nx H' G') {a : Addr} {o : HO} (e : H a = some o) : H' a = some o := x.keep a o e nx_lv
theorem asD_rep {H : Hp} {G : Wd} (S : Sim T H G) {v : Vl} {u : V} {x : D} (r : RepV T H G v u) (h : asD G.st v = some x) : Rep T H G.nx x u := by
  cases v with
  | d y => cases h; exact Rep.mono nx_mon r
  | r n =>
    unfold asD at h
    split at h
    · cases ‹Vl.r n = _›
    · rename_i m e
      cases e
      split at h
      · rename_i xs ec
        cases h
        obtain ⟨a, c, e, q⟩ := r
        have q' : G.st[n]? = some c := by unfold Wd.st; rw [List.getElem?_map, q]; rfl
        rw [ec] at q'
        cases q'
        obtain ⟨us, q1, q2⟩ := S.cell n a _ q
        exact ⟨a, us, e, ⟨q1, fun m => S.apart a (nx_mu m) ⟨n, _, q, rfl⟩⟩, q2.mono nx_mon⟩
      · cases h
theorem asDs_rep {H : Hp} {G : Wd} (S : Sim T H G) : ∀ {vs : List Vl} {us : List V} {ds : List D}, RepVs T H G vs us → asDs G.st vs = some ds → RepVs T H G.nx (ds.map .d) us
  | [], us, ds, r, h => by
    cases h
    exact r
  | v :: vs, us, ds, ⟨u, ws, e, r, rs⟩, h => by
    unfold asDs at h
    split at h
    · rename_i x xs e1 e2
      cases h
      exact ⟨u, ws, e, asD_rep S r e1, asDs_rep S rs e2⟩
    · cases h
theorem flat_rep {H H' : Hp} {G G' : Wd} {x : D} {v : V} (h : flat x = true) (r : Rep T H G x v) : Rep T H' G' x v := by
  cases x <;> first | exact r | cases h
theorem tup_nomu {H : Hp} {G : Wd} {a : Addr} {us : List V} (S : Sim T H G) (r : Rd H a (.tup us)) (h : a ∉ G.ex) : ¬ Mu G a := fun m => by
  rcases m with ⟨n, c, e, l⟩ | m
  · have q := S.cell n a c e
    have no : ∀ o, H a = some o → (∀ ws, o ≠ .tup ws) → (∀ x y, o ≠ .frz x y) → False := fun o q h1 h2 => by
      rcases r with r | ⟨w, r⟩
      · rw [q] at r
        cases r
        exact h1 _ rfl
      · rw [q] at r
        cases r
        exact h2 _ _ rfl
    cases c with
    | lst ds =>
      obtain ⟨us, q, _⟩ := q
      exact no _ q (fun _ h => by cases h) fun _ _ h => by cases h
    | lsr ns =>
      obtain ⟨us, q, _⟩ := q
      exact no _ q (fun _ h => by cases h) fun _ _ h => by cases h
    | dic kvs =>
      obtain ⟨us, q, _⟩ := q
      exact no _ q (fun _ h => by cases h) fun _ _ h => by cases h
    | ins k fs =>
      obtain ⟨dx, us, q, _⟩ := q
      exact no _ q (fun _ h => by cases h) fun _ _ h => by cases h
    | dead => cases l
  · exact h m
mutual
theorem num_rep {H : Hp} {G G' : Wd} (S : Sim T H G') (x : G.ex = G'.ex) : ∀ {d : D} {v : V}, numD d = true → Rep T H G d v → Rep T H G' d v
  | .int _, _, _, r => r
  | .tup xs, _, h, ⟨a, us, e, t, r⟩ => ⟨a, us, e, t.imp (fun ⟨t1, t2⟩ => ⟨t1, tup_nomu S t1 fun m => t2 (.inr (x ▸ m))⟩) id, nums_rep S x (by simpa [numD] using h) r⟩
  | .non, _, h, _ => by cases h
  | .bl _, _, h, _ => by cases h
  | .str _, _, h, _ => by cases h
  | .lst _, _, h, _ => by cases h
  | .kst _, _, h, _ => by cases h
  | .dct, _, h, _ => by cases h
  | .fn _, _, h, _ => by cases h
  | .xc _ _, _, h, _ => by cases h
theorem nums_rep {H : Hp} {G G' : Wd} (S : Sim T H G') (x : G.ex = G'.ex) : ∀ {xs : List D} {us : List V}, numsD xs = true → Reps T H G xs us → Reps T H G' xs us
  | [], _, _, r => r
  | d :: xs, _, h, ⟨v, vs, e, r, rs⟩ => by
    simp only [numsD, Bool.and_eq_true] at h
    exact ⟨v, vs, e, num_rep S x h.1 r, nums_rep S x h.2 rs⟩
end
theorem sE_callz {k : Nat} {x : Str} {es : Es} {fs : List Expr} {q : Pos} (hX : XOk T P C lvl W X) (hk : P.fns[k]?.bind (·.gn) = some x) (hb : glOk X.env.scope x = true) (hne : fs.isEmpty = false) (hi : ∀ e ∈ fs, ixOk e = true) (h : PA X fs (tEs T C W es)) :
    PE X (.Call (.Name x p) fs [] q) (tE T C W (.callz k es)) :=
  PE.imp (call_pe hX hk hb hne hi h) fun σ H Q ⟨ρ, G, he, hs, q⟩ => ⟨ρ, G, he, hs, Post.bind q fun xs H1 G1 x1 s1 q1 vs r => by
    unfold callZ at q1
    split at q1
    · exact q1.elim
    · rename_i ds ed
      have q2 : Post T (fun c d _ H => WE W σ c d H) H1 G1.nx (C k (ds.map .d) []) fun x H' G' => ∀ v, RepV T H' G' x v → Q v H' := by
        refine fin_ok (nx_sim s1) ?_
        have es : (G1.nx).st = [] := rfl
        rw [es]
        split at q1
        · rename_i y st' ef
          rw [ef]
          split at q1
          · rename_i fl
            intro H2 G2 e2 x2 s2 v rv
            have s3 := sim_kept s1 fun a o e => nx_all x2 e
            refine q1 H2 G1 rfl (ext_kept fun a o e => nx_all x2 e) s3 v ?_
            rcases Bool.or_eq_true_iff.mp fl with fl | fl
            · exact flat_rep fl rv
            · exact num_rep s3 x2.ex fl rv
          · exact q1.elim
        · exact q1.elim
      obtain ⟨f, hf, hl⟩ := hX.len k _ _ q2.nebad
      exact ⟨ds.map .d, G1.nx, f, hf, hl, asDs_rep s1 r ed, nx_sim s1, q2⟩⟩
end
end Br

/-! Br7: targets, walks, comprehensions; expressions as a whole. -/
namespace Br
open PySem PySem.Spec PyProof.Rows L2

/-! ### targets -/
def SameBut (is : List Nat) (σ σ' : L2.St) : Prop := σ'.length = σ.length ∧ ∀ i : Nat, i ∉ is → σ'[i]? = σ[i]?
theorem wipe_get (σ : L2.St) : ∀ (vs : List Nat) (j : Nat), (L2.wipe σ vs)[j]? = if j ∈ vs ∧ j < σ.length then some none else σ[j]?
  | [], j => by simp [L2.wipe]
  | v :: vs, j => by
    show ((L2.wipe σ vs).set v none)[j]? = _
    rw [List.getElem?_set, wipe_length, wipe_get σ vs j]
    by_cases h : v = j
    · subst h
      by_cases hl : v < σ.length
      · simp [hl]
      · simp [hl, List.getElem?_eq_none (Nat.le_of_not_lt hl)]
    · have h' : ¬ j = v := fun e => h e.symm
      simp [h, h']
theorem wipe_same {σ σ2 : L2.St} {is vs : List Nat} (h : SameBut is (L2.wipe σ vs) σ2) (hs : ∀ i ∈ is, i ∈ vs) : L2.wipe σ2 vs = L2.wipe σ vs := by
  have hl : σ2.length = σ.length := by rw [h.1, wipe_length]
  refine List.ext_getElem? fun j => ?_
  rw [wipe_get, wipe_get, hl]
  by_cases hj : j ∈ vs ∧ j < σ.length
  · rw [if_pos hj, if_pos hj]
  · rw [if_neg hj, if_neg hj]
    by_cases hv : j ∈ vs
    · have : ¬ j < σ.length := fun q => hj ⟨hv, q⟩
      rw [List.getElem?_eq_none (by omega), List.getElem?_eq_none (by omega)]
    · rw [h.2 j fun m => hv (hs j m), wipe_get, if_neg fun q => hv q.1]
section
variable {T : Tb} {P : Pg} {C : Oracle} {lvl : Nat} {W : WX}
def tTg (T : Tb) (t : Tg) : TG := fun v σ H Q => ∃ ρ G d ρ', EnvOk T H G ρ σ ∧ Sim T H G ∧ RepV T H G d v ∧ put t d ρ = some ρ' ∧ ∀ σ', EnvOk T H G ρ' σ' → SameBut (tgSlots t) σ σ' → Q σ' H
def tTgs (T : Tb) (is : List Nat) : TGs := fun vs σ H Q => ∃ ρ G ds ρ', EnvOk T H G ρ σ ∧ Sim T H G ∧ RepVs T H G ds vs ∧ putN is ds ρ = some ρ' ∧ ∀ σ', EnvOk T H G ρ' σ' → SameBut is σ σ' → Q σ' H
theorem same_set (σ : L2.St) (i : Nat) (v : Option V) : SameBut [i] σ (σ.set i v) := ⟨List.length_set .., fun j hj => by
  rw [List.getElem?_set_ne]
  intro e
  exact hj (by simp [e])⟩
theorem same_trans {a b : List Nat} {σ σ1 σ2 : L2.St} (h : SameBut a σ σ1) (h' : SameBut b σ1 σ2) : SameBut (a ++ b) σ σ2 := ⟨h'.1.trans h.1, fun i hi => by
  rw [h'.2 i fun m => hi (List.mem_append_right _ m), h.2 i fun m => hi (List.mem_append_left _ m)]⟩
/-- names may be stored here -/
def Stores (X : Cx) (x : Str) : Prop := X.N.Nodup ∧ Loc X.env.scope x ∧ (X.fn x = true ∨ X.env.scope.names.lookup x = some .local)
theorem pg_nm {X : Cx} {i : Nat} {x : Str} {p : Pos} (hN : X.N[i]? = some x) (h : Stores X x) : PG X (.Name x p) (tTg T (.name i)) := by
  refine ⟨fun pins s σ H v u Q I r q => ?_⟩
  obtain ⟨ρ, G, d, ρ', he, hs, rd, e, q⟩ := q
  cases e
  exact (pg_name h.1 hN h.2.1 h.2.2).run pins s σ H v u Q I r (q _ (he.set i rd) (same_set σ i _))
theorem assignEach_names {X : Cx} {N : List Str} {sc : Scope} : ∀ {is : List Nat} {es : List Expr}, tgNames N sc is es = true → (assignEach es X.env).length = is.length ∧ (assignEach es X.env).findIdx? (·.1) = none ∧
    ∀ e r, es = e :: r → (assignEach (e :: r) X.env).map (·.2) = assign e X.env :: (assignEach r X.env).map (·.2)
  | [], [], _ => ⟨rfl, rfl, fun e r h => by cases h⟩
  | i :: is, [], h => by cases h
  | [], e :: es, h => by cases h
  | i :: is, e :: es, h => by
    cases e with
    | Name x p =>
      obtain ⟨_, h2⟩ := and2 h
      obtain ⟨h3, h4, _⟩ := assignEach_names (X := X) h2
      refine ⟨?_, ?_, fun e r q => by cases q; rfl⟩
      · show ((false, assign (.Name x p) X.env) :: assignEach es X.env).length = _
        rw [List.length_cons, h3]
        rfl
      · show ((false, assign (.Name x p) X.env) :: assignEach es X.env).findIdx? (·.1) = none
        rw [List.findIdx?_cons]
        simp [h4]
    | _ => cases h
theorem pgs_nms {X : Cx} {sc : Scope} (hst : ∀ (i : Nat) x, X.N[i]? = some x → loc sc x = true → Stores X x) : ∀ {is : List Nat} {es : List Expr}, tgNames X.N sc is es = true → PGs X es (tTgs T is)
  | [], [], _ => ⟨fun pins s σ H vs us Q I r q => by
    obtain ⟨ρ, G, ds, ρ', he, hs, rd, e, q⟩ := q
    cases ds with
    | nil =>
      cases e
      have ev : vs = [] := rd
      subst ev
      exact pgs_nil.run pins s σ H [] us Q I r ⟨rfl, q σ he ⟨rfl, fun _ _ => rfl⟩⟩
    | cons d ds => cases e⟩
  | i :: is, [], h => by cases h
  | [], e :: es, h => by cases h
  | i :: is, e :: es, h => by
    cases e with
    | Name x p =>
      obtain ⟨h1, h2⟩ := and2 h
      obtain ⟨h1, h3⟩ := and2 h1
      obtain ⟨h1, h4⟩ := and2 h1
      have hN : X.N[i]? = some x := of_decide_eq_true h1
      have g1 : PG X (.Name x p) (tTg T (.name i)) := pg_nm hN (hst i x hN h4)
      have g2 := pgs_nms hst h2
      have hm := (assignEach_names (X := X) h).2.2 _ _ rfl
      refine ⟨fun pins s σ H vs us Q I r q => (pgs_cons g1 g2 hm).run pins s σ H vs us Q I r ?_⟩
      obtain ⟨ρ, G, ds, ρ', he, hs, rd, e, q⟩ := q
      cases ds with
      | nil => cases e
      | cons d ds =>
        obtain ⟨v, ws, ev, rv, rws⟩ := rd
        refine ⟨v, ws, ev, ρ, G, d, ρ.set i (some d), he, hs, rv, rfl, fun σ1 he1 hb1 => ?_⟩
        exact ⟨_, G, ds, ρ', he1, hs, rws, e, fun σ2 he2 hb2 => q σ2 he2 (same_trans hb1 hb2)⟩
    | _ => cases h
theorem reps_vls {H : Hp} {G : Wd} : ∀ {ds : List D} {us : List V}, Reps T H G ds us → RepVs T H G (ds.map .d) us
  | [], _, h => h
  | _ :: _, _, ⟨v, vs, e, r, rs⟩ => ⟨v, vs, e, r, reps_vls rs⟩
theorem pg_tg {X : Cx} {sc : Scope} (hK : T.K = X.K) (hc : X.calm = true) (hst : ∀ (i : Nat) x, X.N[i]? = some x → loc sc x = true → Stores X x) {t : Tg} {e : Expr} (h : chkT X.N sc t e = true) : PG X e (tTg T t) := by
  cases t with
  | name i =>
    cases e with
    | Name x p =>
      obtain ⟨h1, h3⟩ := and2 h
      obtain ⟨h1, h4⟩ := and2 h1
      exact pg_nm (of_decide_eq_true h1) (hst i x (of_decide_eq_true h1) h4)
    | _ => cases h
  | names is =>
    cases e with
    | Tuple es k p =>
      have h : tgNames X.N sc is es = true := h
      obtain ⟨h1, h2, _⟩ := assignEach_names (X := X) h
      refine ⟨fun pins s σ H v u Q I r q => (pg_tup (n := is.length) hc (pgs_nms (T := T) hst h) h1 h2).run pins s σ H v u Q I r ?_⟩
      obtain ⟨ρ, G, d, ρ', he, hs, rd, e, q⟩ := q
      cases d with
      | r n => cases e
      | d d =>
        cases d with
        | tup ds =>
          obtain ⟨a, us, ea, t, rs⟩ := rd
          refine ⟨a, us, ea, hK ▸ t.sq, ?_, ρ, G, ds.map .d, ρ', he, hs, reps_vls rs, e, q⟩
          rw [rs.length, ← List.length_map (as := ds) (f := Vl.d)]
          have key : ∀ {is : List Nat} {ds : List Vl} {ρ ρ' : Env}, putN is ds ρ = some ρ' → ds.length = is.length := by
            intro is
            induction is with
            | nil =>
              intro ds ρ ρ' e
              cases ds with
              | nil => rfl
              | cons _ _ => cases e
            | cons i is ih =>
              intro ds ρ ρ' e
              cases ds with
              | nil => cases e
              | cons d ds => simp only [List.length_cons]; rw [ih e]
          exact key e
        | _ => cases e
    | _ => cases h

/-! ### walks -/
theorem get_vls {xs : List D} {i : Nat} {d : D} (h : xs[i]? = some d) : (vls xs)[i]? = some (.d d) := by
  unfold vls
  rw [List.getElem?_map, h]
  rfl
theorem len_vls (xs : List D) : (vls xs).length = xs.length := List.length_map ..
theorem turns_seqL {H : Hp} {G : Wd} {a : Addr} {us : List V} {xs : List D} {At : Hp → Wd → Prop} (h0 : At H G) (hm : ∀ H2 G2, Mon H G H2 G2 → At H2 G2) (hq : ∀ H2 G2, At H2 G2 → SqL T.K H2 a us) (r : Reps T H G xs us) : Turns T (Itl T.K a) (vls xs) H G where
  goes := fun i H2 G2 m S hi => by
    rw [len_vls] at hi
    exact ⟨us, us[i]'(by rw [r.length]; exact hi), hq _ _ (hm _ _ m.toMon), List.getElem?_eq_getElem _⟩
  stops := fun H2 G2 m S => ⟨us, hq _ _ (hm _ _ m.toMon), by rw [r.length, len_vls]; exact Nat.le_refl _⟩
  yields := fun i H2 G2 x H3 m S hi y => by
    obtain ⟨rfl, y⟩ := y
    rw [len_vls] at hi
    obtain ⟨v, e1, e2⟩ := r.get (List.getElem?_eq_getElem hi)
    have ex := y us (hq _ _ (hm _ _ m.toMon))
    rw [e1] at ex
    cases ex
    exact ⟨_, get_vls (List.getElem?_eq_getElem hi), Ext.refl _ _, S, Rep.mono m.toMon e2⟩
theorem turns_seqT {H : Hp} {G : Wd} {a : Addr} {us : List V} {xs : List D} (t : TupAt T.K H G a us) (r : Reps T H G xs us) : Turns T (Itt T.K a) (vls xs) H G where
  goes := fun i H2 G2 m S hi => by
    rw [len_vls] at hi
    exact ⟨us, us[i]'(by rw [r.length]; exact hi), (t.mono m.toMon).sq, List.getElem?_eq_getElem _⟩
  stops := fun H2 G2 m S => ⟨us, (t.mono m.toMon).sq, by rw [r.length, len_vls]; exact Nat.le_refl _⟩
  yields := fun i H2 G2 x H3 m S hi y => by
    obtain ⟨rfl, y⟩ := y
    rw [len_vls] at hi
    obtain ⟨v, e1, e2⟩ := r.get (List.getElem?_eq_getElem hi)
    have ex := y us (t.mono m.toMon).sq
    rw [e1] at ex
    cases ex
    exact ⟨_, get_vls (List.getElem?_eq_getElem hi), Ext.refl _ _, S, Rep.mono m.toMon e2⟩
theorem turns_range {H : Hp} {G : Wd} (lo : Int) (n : Nat) : Turns T (Itr lo n) (vls (rangeD lo n)) H G := by
  have hl : (vls (rangeD lo n)).length = n := by rw [len_vls]; unfold rangeD; rw [List.length_map, List.length_range]
  refine ⟨fun i H2 G2 m S hi => by rw [hl] at hi; exact hi, fun H2 G2 m S => by rw [hl]; exact Nat.le_refl n, fun i H2 G2 x H3 m S hi y => ?_⟩
  obtain ⟨rfl, rfl⟩ := y
  rw [hl] at hi
  refine ⟨.d (.int (lo + (i : Nat))), get_vls ?_, Ext.refl _ _, S, rfl⟩
  unfold rangeD
  rw [List.getElem?_map, List.getElem?_range hi]
  rfl
theorem turns_str {H : Hp} {G : Wd} {s : Str} (ok : chOk s = true) : Turns T (Its s) (vls (charsD s)) H G := by
  have hl : (vls (charsD s)).length = s.cps.size := by rw [len_vls]; unfold charsD; rw [List.length_map, Array.length_toList]
  refine ⟨fun i H2 G2 m S hi => by rw [hl] at hi; exact hi, fun H2 G2 m S => by rw [hl]; exact Nat.le_refl _, fun i H2 G2 x H3 m S hi y => ?_⟩
  obtain ⟨rfl, c, ec, rfl⟩ := y
  have ec' : s.cps.toList[i]? = some c := by rw [Array.getElem?_toList]; exact ec
  refine ⟨.d (.str ⟨#[c]⟩), get_vls ?_, Ext.refl _ _, S, rfl, ?_⟩
  · unfold charsD
    rw [List.getElem?_map, ec']
    rfl
  · have h1 := List.all_eq_true.mp (and2 ok).2 c (List.mem_of_getElem? ec')
    show (PySem.PyData.strOk ⟨#[c]⟩ && decide ((⟨#[c]⟩ : Str).length ≤ sizeLine)) = true
    rw [h1]
    exact decide_eq_true (show (1 : Nat) ≤ sizeLine by decide)
theorem sI_seq {X : Cx} {m : E} {e tg : Expr} (hX : XOk T P C lvl W X) (h : PE X e (tE T C W m)) : PI X tg e (tI T C W (.seq m)) := by
  refine PI.imp (PI.or (PI.or (pi_list h) (pi_tup h)) (pi_str h)) fun σ H R ⟨ρ, G, he, hs, q⟩ => ?_
  cases ev : evE C m ρ G.st with
  | bad =>
    simp only [evI, ev, Res.bind_bad] at q
    exact q.elim
  | exc c fs st =>
    refine .inl (.inl ⟨ρ, G, he, hs, ?_⟩)
    simp only [evI, ev, Res.bind_exc] at q
    rw [ev]
    exact q
  | ok v st =>
    cases v with
    | r n =>
      simp only [evI, ev, Res.bind_ok] at q
      exact q.elim
    | d d =>
      simp only [evI, ev, Res.bind_ok] at q
      cases d with
      | tup xs =>
        refine .inl (.inr ⟨ρ, G, he, hs, ?_⟩)
        rw [ev]
        intro H' G' e x S v r
        obtain ⟨a, us, ea, t, rs⟩ := r
        exact ⟨a, ea, ⟨us, hX.K ▸ t.sq⟩, q H' G' e x S _ (hX.K ▸ turns_seqT t rs)⟩
      | lst xs =>
        refine .inl (.inl ⟨ρ, G, he, hs, ?_⟩)
        rw [ev]
        intro H' G' e x S v r
        obtain ⟨a, us, ea, t, rs⟩ := r
        exact ⟨a, ea, ⟨us, hX.K ▸ t.sq⟩, q H' G' e x S _ (hX.K ▸ turns_seqL (At := fun H G => LstAt H G a us) t (fun _ _ m => t.mono m) (fun _ _ t => t.sq) rs)⟩
      | kst xs =>
        refine .inl (.inl ⟨ρ, G, he, hs, ?_⟩)
        rw [ev]
        intro H' G' e x S v r
        obtain ⟨a, us, ea, t, rs⟩ := r
        exact ⟨a, ea, ⟨us, hX.K ▸ t.sq⟩, q H' G' e x S _ (hX.K ▸ turns_seqL (At := fun H G => KstAt T.K H G a us) t (fun _ _ m => t.mono m) (fun _ _ t => t.sq) rs)⟩
      | str z =>
        refine .inr ⟨ρ, G, he, hs, ?_⟩
        rw [ev]
        intro H' G' e x S v r
        have q : Post T W H G (match (if chOk z = true then some (charsD z) else none) with
          | some xs => .ok (vls xs) st
          | none => .bad) (fun xs H' G' => ∀ J, Turns T J xs H' G' → R J H') := q
        split at q
        · rename_i xs hx
          split at hx
          · rename_i ok
            cases hx
            exact ⟨z, r.1, q H' G' e x S _ (turns_str ok)⟩
          · cases hx
        · exact q.elim
      | _ => exact q.elim
theorem r62_ok {i : Int} (h : r62 i = true) : -(2 ^ 62) ≤ i ∧ i < 2 ^ 62 := ⟨of_decide_eq_true (and2 h).1, of_decide_eq_true (and2 h).2⟩
theorem sI_range1 {X : Cx} {m : E} {e tg : Expr} {p q : Pos} (hX : XOk T P C lvl W X) (hb : bltOk P X.env.scope "range" = true) (hi : ixOk e = true) (h : PE X e (tE T C W m)) : PI X tg (.Call (.Name "range" p) [e] [] q) (tI T C W (.range1 m)) := by
  obtain ⟨hg, hm⟩ := blt_mg hX.toXLt hb
  refine PI.imp (pi_range1 hg hm (pa_cons h pa_nil (star_cons hi)) (by rw [star_cons hi]; rfl)) fun σ H R ⟨ρ, G, he, hs, q⟩ => ?_
  refine tE_bind he hs q fun x v H1 G1 x1 s1 e1 r1 q1 => ?_
  split at q1
  · rename_i n
    split at q1
    · rename_i hz
      exact ⟨n, by rw [show v = .int n from r1], (r62_ok hz).1, (r62_ok hz).2, q1.here s1 _ (turns_range 0 _)⟩
    · exact q1.elim
  · exact q1.elim
theorem sI_range2 {X : Cx} {m m2 : E} {e f tg : Expr} {p q : Pos} (hX : XOk T P C lvl W X) (hb : bltOk P X.env.scope "range" = true) (hi : ixOk e = true) (hi2 : ixOk f = true) (h : PE X e (tE T C W m)) (h2 : PE X f (tE T C W m2)) :
    PI X tg (.Call (.Name "range" p) [e, f] [] q) (tI T C W (.range2 m m2)) := by
  obtain ⟨hg, hm⟩ := blt_mg hX.toXLt hb
  refine PI.imp (pi_range2 hg hm (pa_cons h (pa_cons h2 pa_nil (star_cons hi2)) (star_cons hi)) (by rw [star_cons hi, star_cons hi2]; rfl) (by rw [star_cons hi2]; rfl)) fun σ H R ⟨ρ, G, he, hs, q⟩ => ?_
  refine tE_bind he hs q fun x v H1 G1 x1 s1 e1 r1 q1 => tE_bind e1 s1 q1 fun y u H2 G2 x2 s2 e2 r2 q2 => ?_
  split at q2
  · rename_i i j
    split at q2
    · rename_i hz
      obtain ⟨z1, z2⟩ := and2 hz
      exact ⟨i, j, by rw [show v = .int i from r1, show u = .int j from r2], ⟨(r62_ok z1).1, (r62_ok z1).2, (r62_ok z2).1, (r62_ok z2).2⟩, q2.here s2 _ (turns_range i _)⟩
    · exact q2.elim
  · exact q2.elim
end
end Br

/-! Br7b: enumerate over tuples. -/
namespace Br
open PySem PySem.Spec PyProof.Rows L2
section
open PySem.Sem (wp)
open AutoSeq1 (wpAny_loadPart')
theorem meets_enum_tuple (l : Addr) (items : Array Value) (n : Nat) (dct : Option Addr) (sl : Array (Option Value)) :
    Meets (Builtin.«enumerate.__new__» ⟨[.type "enumerate", .ref l], []⟩) (fun _ R s => s.heap.get? l = some { cls := .type "tuple", dict := dct, data := .seq items n, slots := sl } ∧
      R (.ok (.ret (.ref (s.heap.push { cls := .type "tuple_iterator", data := .fields #[.ref l, .int 0 0] }).objs.size)))
        { s with heap := (s.heap.push { cls := .type "tuple_iterator", data := .fields #[.ref l, .int 0 0] }).push { cls := .type "enumerate", data := .fields #[.none, .bool false, .ref s.heap.objs.size, rawInt 0, .none, .none] } }) :=
  .of_wp fun prog w A R s h => by
    obtain ⟨hp, g, d, tk, os⟩ := s; obtain ⟨hl, h⟩ := h
    have hsub := sub_enumerate
    have hL : Heap.IsTuple (Shared.heap ⟨hp, g, d, tk, os⟩) l items := ⟨_, hl, rfl, n, rfl⟩
    wp_walk using wpAny_loadPart' hl
    refine wpAny_stack_any fun st => wpAny_pure ?_
    split
    · rename_i c _ _ _ _ _
      cases (c == Value.type "enumerate")
      · wp_walk using wpAny_loadPart' hl, wpAny_pyIter_tuple hL
        exact ⟨_, rfl, h⟩
      · wp_walk using wpAny_loadPart' hl, wpAny_pyIter_tuple hL
        exact ⟨_, rfl, h⟩
    · wp_walk using wpAny_loadPart' hl, wpAny_pyIter_tuple hL
      exact ⟨_, rfl, h⟩
end
section
variable {prog : Program} {w : World} {A : Around} {E : Value → Shared → Prop} {s : Shared}
theorem call_enum_tuple {l : Addr} {items : Array Value} {Q : Value → Shared → Prop} (hL : s.heap.IsTuple l items)
    (h : ∀ h', IsEnum h' (s.heap.objs.size + 1) s.heap.objs.size 0 .none → h'.IsTupleIter s.heap.objs.size l 0 → h'.objs.size = s.heap.objs.size + 2 →
      (∀ b o, s.heap.get? b = some o → h'.get? b = some o) → Q (.ref (s.heap.objs.size + 1)) { s with heap := h' }) :
    wpAny (model prog w) A (call (.type "enumerate") [.ref l]) Q E s := by
  obtain ⟨⟨c, dct, dt, sl⟩, hl, hc, n, hd⟩ := hL
  replace hc : c = .type "tuple" := hc
  replace hd : dt = .seq items n := hd
  subst hc hd
  refine callType_new F.called_enumerate (by decide) (F.typeCall_enumerate_1 _) (F.newCall_enumerate_1 _) (fun obj => F.args_object_init_2 obj _) F.entry_enumerate_new
    (meets_enum_tuple l items n dct sl) ⟨hl, ?_⟩
  have hz : (s.heap.push { cls := .type "tuple_iterator", data := .fields #[.ref l, .int 0 0] }).objs.size = s.heap.objs.size + 1 := Heap.size_push ..
  show _ ∧ _
  rw [hz]
  have he : IsEnum ((s.heap.push { cls := .type "tuple_iterator", data := .fields #[.ref l, .int 0 0] }).push
      { cls := .type "enumerate", data := .fields #[.none, .bool false, .ref s.heap.objs.size, rawInt 0, .none, .none] }) (s.heap.objs.size + 1) s.heap.objs.size 0 .none := by
    have := Heap.get?_push_size (s.heap.push { cls := .type "tuple_iterator", data := .fields #[.ref l, .int 0 0] })
      (o := { cls := .type "enumerate", data := .fields #[.none, .bool false, .ref s.heap.objs.size, rawInt 0, .none, .none] }) rfl
    rw [hz] at this; exact this
  refine ⟨⟨_, he, rfl⟩, h _ he ⟨_, Heap.get?_push_of_some _ (Heap.get?_push_size _ rfl), rfl, rfl⟩ (by rw [Heap.size_push, hz]) fun b o x => Heap.get?_push_of_some _ (Heap.get?_push_of_some _ x)⟩
end
/-- the tuple at a, each item in a new pair -/
def IteT (K : PySem.W.Frag) (a : Addr) : L2.It :=
  ⟨fun i H => ∃ (xs : List V) (x : V), SqT K H a xs ∧ xs[i]? = some x, fun i H v H' => ∃ T x, v = .ref T ∧ H T = none ∧ H' = upd H T (.tup [.int (i : Nat), x]) ∧ ∀ xs, SqT K H a xs → xs[i]? = some x, fun i H => ∃ xs : List V, SqT K H a xs ∧ xs.length = i⟩
theorem turn_enumT {P : Program} {w : World} {K : PySem.W.Frag} {elts : List Expr} {kk : Nat} {tpos : Pos} (a e it : Addr) (hae : e ≠ a) (hai : a ≠ it) :
    Turn P w K (.Tuple elts kk tpos) (IteT K a) [e, it] e (fun i h => (∃ old, IsEnum h e it ((i : Nat) : Int) old) ∧ h.IsTupleIter it a i ∧ e ≠ it) where
  mem := by simp
  obj := fun i h st b hb => by
    obtain ⟨⟨old, he⟩, ⟨o, ho, hc, hd⟩, _⟩ := st
    have e' : b = e ∨ b = it := by simpa using hb
    rcases e' with z | z
    · rw [z]; exact ⟨_, he, fun v q => nomatch q⟩
    · rw [z]; exact ⟨o, ho, fun v q => by rw [hd] at q; cases q⟩
  keep := fun i h h' st k => let ⟨⟨old, he⟩, hi, hne⟩ := st; ⟨⟨old, k e (by simp) _ he⟩, hi.at fun o q => k it (by simp) o q, hne⟩
  item := by
    intro X hP hw hK hc i pins s σ H E I hf st hg
    subst hP hw hK
    obtain ⟨⟨old, he⟩, hit, hne⟩ := st
    obtain ⟨xs, x, hq, hx⟩ := hg
    obtain ⟨its, rv, p, hz⟩ := I.tuple hq
    obtain ⟨u, hu, ru⟩ := rv.get hx
    have hel : e < s.heap.objs.size := Heap.lt_size he
    have hil : it < s.heap.objs.size := by obtain ⟨_, q, _⟩ := hit; exact Heap.lt_size q
    have hli : i < its.toArray.size := by
      have := (List.getElem?_eq_some_iff.mp hu).1
      simpa using this
    refine wpAny_pyNext_enum_itemD (Draws.tuple (A := X.A.in1) (I.ok.hd hc) it a hai its.toArray) he ⟨hit, p⟩ hli hne (by simp [hne, hae]) fun x' h' tk hx' ho hst hT hsz hk => ?_
    have ex : x' = u := by
      have : its[i]? = some x' := by simpa using hx'
      rw [hu] at this
      exact (Option.some.inj this).symm
    subst ex
    refine ⟨_, rfl, wpAny_letOwnedTupleGo_enum (s := { s with heap := h', toks := tk + 1 }) ho fun h'' he' sb => ?_⟩
    have hT2 : h''.get? s.heap.objs.size = some { cls := .type "tuple", data := .seq #[.int i tk, x'] } := (sb.2 _ (Nat.ne_of_gt hel)).trans hT
    have new : ObjOk X.prog X.w (upd H s.heap.objs.size (.tup [.int (i : Nat), x])) h'' s.heap.objs.size (.tup [.int (i : Nat), x]) :=
      ⟨by show 2 ≤ sizeLine; decide, [.int i tk, x'], .cons ⟨_, rfl⟩ (.cons ru .nil), ⟨_, hT2, rfl, _, rfl⟩⟩
    have I1 : Inv X pins σ (upd H s.heap.objs.size (.tup [.int (i : Nat), x])) { s with heap := h'', toks := tk + 1 } :=
      I.turnedNew (ch := [e, it]) (fun b ob hb q => (sb.2 b (fun z => hb (by simp [z]))).trans (hk b ob (fun z => hb (by simp [z])) (fun z => hb (by simp [z])) q)) hf (Nat.le_refl _) new
    refine ⟨.ref s.heap.objs.size, _, I1, rfl, ⟨_, x, rfl, I.hok.fresh (Nat.le_refl _), rfl, fun ys hy => by rw [I.tuple_inj hy hq]; exact hx⟩, ⟨⟨x', ?_⟩, hst.1.at fun o q => (sb.2 it (Ne.symm hne)).trans q, hne⟩, fun b hb => ?_⟩
    · have e1 : ((i + 1 : Nat) : Int) = (i : Int) + 1 := by omega
      rw [e1]; exact he'
    · have hb' : b < s.heap.objs.size := by
        have e' : b = e ∨ b = it := by simpa using hb
        rcases e' with z | z
        · rw [z]; exact hel
        · rw [z]; exact hil
      rw [upd_ne (Nat.ne_of_lt hb')]
      exact (hf b hb).1
  done := by
    intro X hP hw hK hc i pins s σ H E I hf st hg
    subst hP hw hK
    obtain ⟨⟨old, he⟩, hit, hne⟩ := st
    obtain ⟨xs, hq, hx⟩ := hg
    obtain ⟨its, rv, p, hz⟩ := I.tuple hq
    obtain ⟨f0, f1, f2, f3, f4, f5⟩ := hf it (by simp)
    have hl := rv.length
    have hi : its.toArray.size = i := by simp; omega
    subst hi
    exact wpAny_pyNext_enum_endD (Draws.tuple (A := X.A.in1) (I.ok.hd hc) it a hai its.toArray) he ⟨hit, p⟩ fun h' eb => ⟨rfl, I.turned (t' := s.toks) (fun b o hb q => eb b o hb q) f0 f1 f3 f4 f5⟩
  self := fun A i s Q E st h => let ⟨⟨_, he⟩, _⟩ := st; wpAny_pyIter_enum he h
def iEnumT (K : PySem.W.Frag) (ta : TA) : TI := fun σ H R => ta σ H fun vs H1 => ∃ a xs, vs = [.ref a] ∧ SqT K H1 a xs ∧ R (IteT K a) H1
theorem pi_enumT {X : Cx} {e : Expr} {ta : TA} {p pos tpos : Pos} {elts : List Expr} {kk : Nat} (hg : Gl X "enumerate") (hm : X.mg "enumerate" = none) (ha : PA X [e] ta) (hs : starEach [e] X.env = [(false, eval e X.env)] := by rfl) :
    PI X (.Tuple elts kk tpos) (.Call (.Name "enumerate" p) [e] [] pos) (iEnumT X.K ta) := by
  refine ⟨fun pins s σ H R I h => ?_⟩
  refine Call_ (ld_blt I hg hm boot_enumerate (PyProof.Rows.callWith_type1 (thn (ha.run pos pins s σ H _ I h) fun us s1 ⟨vs, H1, I1, r1, q1⟩ => ?_) hs rfl))
  obtain ⟨a, xs, ex, hq, q⟩ := q1
  subst ex
  cases r1 with
  | cons r rr =>
    cases rr
    cases r
    obtain ⟨its, rv, p', hz⟩ := I1.tuple hq
    have hal : a < s1.heap.objs.size := by obtain ⟨_, q, _⟩ := p'; exact Heap.lt_size q
    refine call_enum_tuple p' fun h' he hit hsz hk => wpAny_pyIter_enum he ?_
    have I2 : Inv X pins σ H1 { s1 with heap := h' } := I1.kept (t' := s1.toks) hk
    refine ⟨s1.heap.objs.size + 1, [s1.heap.objs.size + 1, s1.heap.objs.size], _, _, H1, rfl, I2, turn_enumT a (s1.heap.objs.size + 1) s1.heap.objs.size (Nat.ne_of_gt (Nat.lt_succ_of_lt hal)) (Nat.ne_of_lt hal), ⟨⟨.none, he⟩, hit, Nat.succ_ne_self _⟩, fun b hb => ?_, q⟩
    have e' : b = s1.heap.objs.size + 1 ∨ b = s1.heap.objs.size := by simpa using hb
    have hle : s1.heap.objs.size ≤ b := by
      rcases e' with z | z
      · rw [z]; exact Nat.le_add_right _ _
      · rw [z]; exact Nat.le_refl _
    exact I1.fpOk hle (I1.hok.fresh hle)
section
variable {T : Tb} {P : Pg} {C : Oracle} {lvl : Nat} {W : WX}
theorem enum_get : ∀ (k : Nat) (xs : List D) (i : Nat) (d : D), xs[i]? = some d → (enumD k xs)[i]? = some (.tup [.int ((k + i : Nat) : Int), d])
  | _, [], _, _, h => by simp at h
  | k, x :: xs, 0, d, h => by simp at h; subst h; rfl
  | k, x :: xs, i + 1, d, h => by
    have := enum_get (k + 1) xs i d (by simpa using h)
    rw [show k + 1 + i = k + (i + 1) by omega] at this
    simpa [enumD] using this
theorem enum_len : ∀ (k : Nat) (xs : List D), (enumD k xs).length = xs.length
  | _, [] => rfl
  | k, x :: xs => by simp [enumD, enum_len (k + 1) xs]
theorem pair_rep {H : Hp} {G : Wd} (S : Sim T H G) {p : Addr} {x y : D} {v u : V} (hp : H p = none) (r : Rep T H G x v) (r2 : Rep T H G y u) : Rep T (upd H p (.tup [v, u])) G (.tup [x, y]) (.ref p) :=
  Rep.newT S hp ⟨v, [u], rfl, r, u, [], rfl, r2, rfl⟩
theorem turns_enumT {H : Hp} {G : Wd} {a : Addr} {us : List V} {xs : List D} (t : TupAt T.K H G a us) (r : Reps T H G xs us) : Turns T (IteT T.K a) (vls (enumD 0 xs)) H G where
  goes := fun i H2 G2 m S hi => by
    rw [len_vls, enum_len] at hi
    exact ⟨us, us[i]'(by rw [r.length]; exact hi), (t.mono m.toMon).sq, List.getElem?_eq_getElem _⟩
  stops := fun H2 G2 m S => ⟨us, (t.mono m.toMon).sq, by rw [r.length, len_vls, enum_len]⟩
  yields := fun i H2 G2 x H3 m S hi y => by
    obtain ⟨p, v, rfl, hp, rfl, y⟩ := y
    rw [len_vls, enum_len] at hi
    obtain ⟨u, e1, e2⟩ := r.get (List.getElem?_eq_getElem hi)
    have ex := y us (t.mono m.toMon).sq
    rw [e1] at ex
    cases ex
    refine ⟨_, get_vls (enum_get 0 xs i _ (List.getElem?_eq_getElem hi)), Ext.obj _ hp, S.obj _ hp, pair_rep S hp ?_ (Rep.mono m.toMon e2)⟩
    show V.int _ = V.int _
    rw [Nat.zero_add]
theorem turns_enumL {H : Hp} {G : Wd} {a : Addr} {us : List V} {xs : List D} {At : Hp → Wd → Prop} (h0 : At H G) (hm : ∀ H2 G2, Mon H G H2 G2 → At H2 G2) (hq : ∀ H2 G2, At H2 G2 → SqL T.K H2 a us) (r : Reps T H G xs us) : Turns T (Ite T.K a) (vls (enumD 0 xs)) H G where
  goes := fun i H2 G2 m S hi => by
    rw [len_vls, enum_len] at hi
    exact ⟨us, us[i]'(by rw [r.length]; exact hi), hq _ _ (hm _ _ m.toMon), List.getElem?_eq_getElem _⟩
  stops := fun H2 G2 m S => ⟨us, hq _ _ (hm _ _ m.toMon), by rw [r.length, len_vls, enum_len]; exact Nat.le_refl _⟩
  yields := fun i H2 G2 x H3 m S hi y => by
    obtain ⟨p, v, rfl, hp, rfl, y⟩ := y
    rw [len_vls, enum_len] at hi
    obtain ⟨u, e1, e2⟩ := r.get (List.getElem?_eq_getElem hi)
    have ex := y us (hq _ _ (hm _ _ m.toMon))
    rw [e1] at ex
    cases ex
    refine ⟨_, get_vls (enum_get 0 xs i _ (List.getElem?_eq_getElem hi)), Ext.obj _ hp, S.obj _ hp, pair_rep S hp ?_ (Rep.mono m.toMon e2)⟩
    show V.int _ = V.int _
    rw [Nat.zero_add]
theorem zip_len : ∀ (xs ys : List D), (zipD xs ys).length = min xs.length ys.length
  | [], _ => by simp [zipD]
  | _ :: _, [] => by simp [zipD]
  | x :: xs, y :: ys => by simp only [zipD, List.length_cons, zip_len xs ys]; omega
theorem zip_get : ∀ (xs ys : List D) (i : Nat) (d e : D), xs[i]? = some d → ys[i]? = some e → (zipD xs ys)[i]? = some (.tup [d, e])
  | [], _, _, _, _, h, _ => by simp at h
  | _ :: _, [], _, _, _, _, h => by simp at h
  | x :: xs, y :: ys, 0, d, e, h, h2 => by simp at h h2; subst h h2; rfl
  | x :: xs, y :: ys, i + 1, d, e, h, h2 => by
    have := zip_get xs ys i d e (by simpa using h) (by simpa using h2)
    simpa [zipD] using this
theorem turns_zipT {H : Hp} {G : Wd} {a b : Addr} {us ws : List V} {xs ys : List D} (t : TupAt T.K H G a us) (r : Reps T H G xs us) (t2 : TupAt T.K H G b ws) (r2 : Reps T H G ys ws) : Turns T (RZ.ItzT T.K a b) (vls (zipD xs ys)) H G where
  goes := fun i H2 G2 m S hi => by
    rw [len_vls, zip_len] at hi
    exact ⟨us, ws, us[i]'(by rw [r.length]; omega), ws[i]'(by rw [r2.length]; omega), (t.mono m.toMon).sq, (t2.mono m.toMon).sq, List.getElem?_eq_getElem _, List.getElem?_eq_getElem _⟩
  stops := fun H2 G2 m S => ⟨us, ws, (t.mono m.toMon).sq, (t2.mono m.toMon).sq, by rw [r.length, r2.length, len_vls, zip_len]; omega⟩
  yields := fun i H2 G2 x H3 m S hi y => by
    obtain ⟨p, v, w, rfl, hp, rfl, y, y2⟩ := y
    rw [len_vls, zip_len] at hi
    have h1 : i < xs.length := by omega
    have h2 : i < ys.length := by omega
    obtain ⟨u, e1, e2⟩ := r.get (List.getElem?_eq_getElem h1)
    obtain ⟨u2, e3, e4⟩ := r2.get (List.getElem?_eq_getElem h2)
    have ex := y us (t.mono m.toMon).sq
    have ex2 := y2 ws (t2.mono m.toMon).sq
    rw [e1] at ex
    cases ex
    rw [e3] at ex2
    cases ex2
    exact ⟨_, get_vls (zip_get xs ys i _ _ (List.getElem?_eq_getElem h1) (List.getElem?_eq_getElem h2)), Ext.obj _ hp, S.obj _ hp, pair_rep S hp (Rep.mono m.toMon e2) (Rep.mono m.toMon e4)⟩
theorem turns_zipL {H : Hp} {G : Wd} {a b : Addr} {us ws : List V} {xs ys : List D} {At At2 : Hp → Wd → Prop} (h0 : At H G) (hm : ∀ H2 G2, Mon H G H2 G2 → At H2 G2) (hq : ∀ H2 G2, At H2 G2 → SqL T.K H2 a us) (r : Reps T H G xs us)
    (hm2 : ∀ H2 G2, Mon H G H2 G2 → At2 H2 G2) (hq2 : ∀ H2 G2, At2 H2 G2 → SqL T.K H2 b ws) (r2 : Reps T H G ys ws) : Turns T (Itz T.K a b) (vls (zipD xs ys)) H G where
  goes := fun i H2 G2 m S hi => by
    rw [len_vls, zip_len] at hi
    exact ⟨us, ws, us[i]'(by rw [r.length]; omega), ws[i]'(by rw [r2.length]; omega), hq _ _ (hm _ _ m.toMon), hq2 _ _ (hm2 _ _ m.toMon), List.getElem?_eq_getElem _, List.getElem?_eq_getElem _⟩
  stops := fun H2 G2 m S => ⟨us, ws, hq _ _ (hm _ _ m.toMon), hq2 _ _ (hm2 _ _ m.toMon), by rw [r.length, r2.length, len_vls, zip_len]; omega⟩
  yields := fun i H2 G2 x H3 m S hi y => by
    obtain ⟨p, v, w, rfl, hp, rfl, y, y2⟩ := y
    rw [len_vls, zip_len] at hi
    have h1 : i < xs.length := by omega
    have h2 : i < ys.length := by omega
    obtain ⟨u, e1, e2⟩ := r.get (List.getElem?_eq_getElem h1)
    obtain ⟨u2, e3, e4⟩ := r2.get (List.getElem?_eq_getElem h2)
    have ex := y us (hq _ _ (hm _ _ m.toMon))
    have ex2 := y2 ws (hq2 _ _ (hm2 _ _ m.toMon))
    rw [e1] at ex
    cases ex
    rw [e3] at ex2
    cases ex2
    exact ⟨_, get_vls (zip_get xs ys i _ _ (List.getElem?_eq_getElem h1) (List.getElem?_eq_getElem h2)), Ext.obj _ hp, S.obj _ hp, pair_rep S hp (Rep.mono m.toMon e2) (Rep.mono m.toMon e4)⟩
theorem sI_enum {X : Cx} {m : E} {e : Expr} {elts : List Expr} {kk : Nat} {tp p q : Pos} (hX : XOk T P C lvl W X) (hb : bltOk P X.env.scope "enumerate" = true) (hi : ixOk e = true) (h : PE X e (tE T C W m)) : PI X (.Tuple elts kk tp) (.Call (.Name "enumerate" p) [e] [] q) (tI T C W (.enum m)) := by
  obtain ⟨hg, hm⟩ := blt_mg hX.toXLt hb
  have ha := pa_cons h pa_nil (star_cons hi)
  have hs : starEach [e] X.env = [(false, eval e X.env)] := by rw [star_cons hi]; rfl
  refine PI.imp (PI.or (pi_enum hg hm ha hs) (pi_enumT hg hm ha hs)) fun σ H R ⟨ρ, G, he, hs, q⟩ => ?_
  cases ev : evE C m ρ G.st with
  | bad =>
    simp only [evI, ev, Res.bind_bad] at q
    exact q.elim
  | exc c fs st =>
    refine .inl ⟨ρ, G, he, hs, ?_⟩
    simp only [evI, ev, Res.bind_exc] at q
    rw [ev]
    exact q
  | ok v st =>
    cases v with
    | r n =>
      simp only [evI, ev, Res.bind_ok] at q
      exact q.elim
    | d d =>
      simp only [evI, ev, Res.bind_ok] at q
      cases d with
      | tup xs =>
        refine .inr ⟨ρ, G, he, hs, ?_⟩
        rw [ev]
        intro H' G' e x S v r
        obtain ⟨a, us, ea, t, rs⟩ := r
        subst ea
        exact ⟨a, us, rfl, hX.K ▸ t.sq, q H' G' e x S _ (hX.K ▸ turns_enumT t rs)⟩
      | lst xs =>
        refine .inl ⟨ρ, G, he, hs, ?_⟩
        rw [ev]
        intro H' G' e x S v r
        obtain ⟨a, us, ea, t, rs⟩ := r
        subst ea
        exact ⟨a, us, rfl, hX.K ▸ t.sq, q H' G' e x S _ (hX.K ▸ turns_enumL (At := fun H G => LstAt H G a us) t (fun _ _ m => t.mono m) (fun _ _ t => t.sq) rs)⟩
      | kst xs =>
        refine .inl ⟨ρ, G, he, hs, ?_⟩
        rw [ev]
        intro H' G' e x S v r
        obtain ⟨a, us, ea, t, rs⟩ := r
        subst ea
        exact ⟨a, us, rfl, hX.K ▸ t.sq, q H' G' e x S _ (hX.K ▸ turns_enumL (At := fun H G => KstAt T.K H G a us) t (fun _ _ m => t.mono m) (fun _ _ t => t.sq) rs)⟩
      | _ => exact q.elim
theorem lstOf_at {H : Hp} {G : Wd} {d : D} {xs : List D} {v : V} (e : lstOf d = some xs) (r : Rep T H G d v) : ∃ (a : Addr) (us : List V) (At : Hp → Wd → Prop), v = .ref a ∧ At H G ∧ (∀ H2 G2, Mon H G H2 G2 → At H2 G2) ∧ (∀ H2 G2, At H2 G2 → SqL T.K H2 a us) ∧ Reps T H G xs us := by
  cases d with
  | lst ys =>
    cases e
    obtain ⟨a, us, ea, t, rs⟩ := r
    exact ⟨a, us, fun H G => LstAt H G a us, ea, t, fun _ _ m => t.mono m, fun _ _ t => t.sq, rs⟩
  | kst ys =>
    cases e
    obtain ⟨a, us, ea, t, rs⟩ := r
    exact ⟨a, us, fun H G => KstAt T.K H G a us, ea, t, fun _ _ m => t.mono m, fun _ _ t => t.sq, rs⟩
  | _ => cases e
theorem sI_zip {X : Cx} {m m2 : E} {e f : Expr} {elts : List Expr} {kk : Nat} {tp p q : Pos} (hX : XOk T P C lvl W X) (hb : bltOk P X.env.scope "zip" = true) (hi : ixOk e = true) (hi2 : ixOk f = true) (h : PE X e (tE T C W m)) (h2 : PE X f (tE T C W m2)) :
    PI X (.Tuple elts kk tp) (.Call (.Name "zip" p) [e, f] [] q) (tI T C W (.zip m m2)) := by
  obtain ⟨hg, hm⟩ := blt_mg hX.toXLt hb
  have ha := pa_cons h (pa_cons h2 pa_nil (star_cons hi2)) (star_cons hi)
  refine PI.imp (RZ.pi_zipA hg hm ha (star_cons hi) (by rw [star_cons hi2]; rfl)) fun σ H R ⟨ρ, G, he, hsm, q⟩ => ?_
  refine tE_bind he hsm q fun x v H1 G1 x1 s1 e1 r1 q1 => tE_bind e1 s1 q1 fun y u H2 G2 x2 s2 e2 r2 q2 => ?_
  split at q2
  · rename_i d d2
    split at q2
    · rename_i xs ep
      have r1' : Rep T H2 G2 d v := Rep.mono x2.mon.toMon r1
      have r2' : Rep T H2 G2 d2 u := r2
      unfold pairs at ep
      split at ep
      · cases ep
        obtain ⟨a, us, rfl, t, rs⟩ := r1'
        obtain ⟨b, ws, rfl, t2, rs2⟩ := r2'
        exact ⟨a, b, us, ws, rfl, .inr ⟨hX.K ▸ t.sq, hX.K ▸ t2.sq, q2.here s2 _ (hX.K ▸ turns_zipT t rs t2 rs2)⟩⟩
      · split at ep
        · rename_i l1 l2
          cases ep
          obtain ⟨a, us, At, rfl, h0, hm1, hq1, rs⟩ := lstOf_at l1 r1'
          obtain ⟨b, ws, At2, rfl, h02, hm2, hq2, rs2⟩ := lstOf_at l2 r2'
          exact ⟨a, b, us, ws, rfl, .inl ⟨hX.K ▸ hq1 _ _ h0, hX.K ▸ hq2 _ _ h02, q2.here s2 _ (hX.K ▸ turns_zipL h0 hm1 hq1 rs hm2 hq2 rs2)⟩⟩
        · cases ep
    · exact q2.elim
  · exact q2.elim
end
end Br

/-! Br8: comprehensions; expressions as a whole. -/
namespace Br
open PySem PySem.Spec PyProof.Rows L2
section
variable {T : Tb} {P : Pg} {C : Oracle} {lvl : Nat} {W : WX}
/-- from a fixed start, nothing raised -/
def PostR {α : Type} (T : Tb) (R : Hp → Wd → Prop) (r : Res α) (K : α → Hp → Wd → Prop) : Prop := match r with
  | .ok a st' => ∀ H' G', G'.st = st' → R H' G' → Sim T H' G' → K a H' G'
  | _ => False
abbrev W0 : WX := fun _ _ _ _ => False
/-- since (H1, G1), D held apart -/
def Since (H1 : Hp) (G1 : Wd) (D : Addr) (H : Hp) (G : Wd) : Prop := Ext H1 G1 H ⟨G.g, G1.ex⟩ ∧ G.ex = D :: G1.ex
theorem Since.ext {H1 H2 H3 : Hp} {G1 G2 G3 : Wd} {D : Addr} (r : Since H1 G1 D H2 G2) (x : Ext H2 G2 H3 G3) : Since H1 G1 D H3 G3 := by
  refine ⟨?_, x.ex.trans r.2⟩
  exact r.1.trans (G1 := ⟨G2.g, G1.ex⟩) (G2 := ⟨G3.g, G1.ex⟩) ⟨x.keep, x.there, x.addr, x.live, x.new, rfl⟩
theorem Since.upd {H1 H2 : Hp} {G1 G2 : Wd} {D : Addr} {o : HO} (hD : H1 D = none) (r : Since H1 G1 D H2 G2) : Since H1 G1 D (upd H2 D o) G2 := by
  refine ⟨⟨fun a u e l => ?_, fun a u e => ?_, r.1.addr, r.1.live, r.1.new, rfl⟩, r.2⟩
  · rw [upd_ne (ne_of_none e hD)]
    exact r.1.keep a u e l
  · rw [upd_ne (ne_of_none e hD)]
    exact r.1.there a u e
theorem Since.mon {H1 H2 : Hp} {G1 G2 : Wd} {D : Addr} (hD : H1 D = none) (r : Since H1 G1 D H2 G2) : MonA H1 G1 H2 G2 := by
  refine ⟨⟨fun a u e l => r.1.keep a u e fun z => l (.inl z), fun a m => ?_⟩, r.1.addr⟩
  rcases m with m | m
  · exact r.1.mu (.inl m)
  · rw [r.2] at m
    rcases List.mem_cons.mp m with rfl | m
    · exact .inr hD
    · exact .inl (.inr m)
theorem PostR.run {α β : Type} {R : Hp → Wd → Prop} {H2 : Hp} {G2 : Wd} {r : Res α} {f : α → Store → Res β} {K : β → Hp → Wd → Prop} {K1 : α → Hp → Wd → Prop} (hc : ∀ {H3 G3}, Ext H2 G2 H3 G3 → R H3 G3) (h : PostR T R (r.bind f) K)
    (k : ∀ a H3 G3, Ext H2 G2 H3 G3 → R H3 G3 → Sim T H3 G3 → PostR T R (f a G3.st) K → K1 a H3 G3) : Post T W0 H2 G2 r K1 := by
  cases r with
  | ok a st =>
    intro H3 G3 e x S
    subst e
    exact k a H3 G3 x (hc x) S h
  | exc c fs st => exact h.elim
  | bad => exact h.elim
theorem Sim.updp {H : Hp} {G : Wd} {D : Addr} {o : HO} (S : Sim T H G) (hD : D ∈ G.ex) : Sim T (upd H D o) G ∧ MonA H G (upd H D o) G := by
  have mon : MonA H G (upd H D o) G := ⟨⟨fun a u e l => by
    rw [upd_ne (fun z => l (.inr (by rw [z]; exact hD)))]
    exact e, fun a m => .inl m⟩, fun n a c e => ⟨c, e⟩⟩
  refine ⟨⟨fun n a c e => ?_, S.inj, S.apart, fun a m => ?_, S.exn⟩, mon⟩
  · cases hl : c.live with
    | false =>
      cases c with
      | dead => trivial
      | _ => cases hl
    | true =>
      refine (S.cell n a c e).mono mon fun u q => ?_
      rw [upd_ne]
      · exact q
      · intro z
        subst z
        exact S.apart a hD ⟨n, c, e, hl⟩
  · by_cases h : a = D
    · subst h
      exact ⟨o, upd_same⟩
    · rw [upd_ne h]
      exact S.exs a m
def tC (T : Tb) (C : Oracle) (W : WX) (m : Eo) : TT := fun σ H Q => ∃ ρ G, EnvOk T H G ρ σ ∧ Sim T H G ∧ Post T W H G (evC C m ρ G.st) fun b H' G' => Q b H'
theorem lc_of {X : Cx} {o : Bool} {m : E} {t : Tg} {it : It} {c : Eo} {own : List Nat} {σ : L2.St} {H : Hp} {Q : VK} (ho : (ownP X.N own).map (·.2) = own) (hsl : ∀ i ∈ tgSlots t, i ∈ own)
    (h : tE T C W (.comp o m t it c own) σ H Q) : tLc (tI T C W it) (tTg T t) (tC T C W0 c) (tE T C W0 m) ((ownP X.N own).map (·.2)) σ H Q := by
  obtain ⟨ρ, G, hen, hsm, q⟩ := h
  rw [ho]
  refine ⟨ρ, G, hen, hsm, Post.bind q fun xs H1 G1 x1 s1 q1 J tj L hL => ?_⟩
  have en1 := (hen.mono x1.mon).wipe own
  generalize hF : cF (fun ρ' st' => evC C c ρ' st') (fun ρ' st' => evE C m ρ' st') = F at q1
  -- what the list is at the end
  have q2 : (PostR T (Since H1 G1 L) (compL F t (Br.wipe ρ own) xs G1.st) fun ys H3 G3 => ∀ us, H3 L = some (.lst us) → Reps T H3 G3 ys us → Q (.ref L) H3) ∧ xs.length ≤ sizeLine := by
    revert q1
    generalize compL F t (Br.wipe ρ own) xs G1.st = r
    intro q1
    cases r with
    | ok ys st =>
      have q1 : Post T W H1 G1 (if xs.length ≤ sizeLine then mk o ys st else .bad) _ := q1
      split at q1
      · rename_i hz
        refine ⟨fun H' G' e R S us eL rs => ?_, hz⟩
        subst e
        have e2 : G' = Wd.priv ⟨G'.g, G1.ex⟩ L := by
          have := R.2
          cases G' with
          | mk g ex => simp only at this; rw [this]; rfl
        exact mk_ok (G1 := ⟨G'.g, G1.ex⟩) q1 hL R.1 (e2 ▸ S) eL (e2 ▸ rs)
      · exact False.elim q1
    | exc _ _ _ => exact False.elim q1
    | bad => exact False.elim q1
  obtain ⟨q2, hlen⟩ := q2
  refine ⟨fun i k H2 => k = xs.length - i ∧ i ≤ xs.length ∧ ∃ G2 acc us, Since H1 G1 L H2 G2 ∧ Sim T H2 G2 ∧ H2 L = some (.lst us) ∧ Reps T H2 G2 acc us ∧ us.length ≤ i ∧
    PostR T (Since H1 G1 L) (compL F t (Br.wipe ρ own) (xs.drop i) G2.st) fun ys H3 G3 => ∀ us, H3 L = some (.lst us) → Reps T H3 G3 (acc ++ ys) us → Q (.ref L) H3, ⟨xs.length, by simp, Nat.zero_le _, G1.priv L, [], [], ?_, ?_, upd_same, rfl, Nat.le_refl _, ?_⟩, ?_⟩
  · exact ⟨(Ext.refl H1 G1).trans (Ext.obj _ hL), rfl⟩
  · exact s1.enter _ hL
  · exact q2
  rintro i k H2 ⟨rfl, hile, G2, acc, us, R2, S2, eL, rs, hul, qq⟩
  have mon2 := R2.mon hL
  by_cases hlt : i < xs.length
  · have hdrop : xs.drop i = xs[i] :: xs.drop (i + 1) := List.drop_eq_getElem_cons hlt
    rw [hdrop] at qq
    refine .inr ⟨tj.goes i H2 G2 mon2 S2 hlt, fun H3 => ∃ k', k' < xs.length - i ∧ k' = xs.length - (i + 1) ∧ i + 1 ≤ xs.length ∧ ∃ G2 acc us, Since H1 G1 L H3 G2 ∧ Sim T H3 G2 ∧ H3 L = some (.lst us) ∧ Reps T H3 G2 acc us ∧ us.length ≤ i + 1 ∧
      PostR T (Since H1 G1 L) (compL F t (Br.wipe ρ own) (xs.drop (i + 1)) G2.st) fun ys H4 G4 => ∀ us, H4 L = some (.lst us) → Reps T H4 G4 (acc ++ ys) us → Q (.ref L) H4, fun H' h => ?_, fun x H' y => ?_⟩
    · obtain ⟨k', h1, h2⟩ := h
      exact ⟨k', h1, h2⟩
    obtain ⟨d, ed, xy, S3, rd⟩ := tj.yields i H2 G2 x H' mon2 S2 hlt y
    have ed' : d = xs[i] := by
      rw [List.getElem?_eq_getElem hlt] at ed
      exact (Option.some.inj ed).symm
    have qq : PostR T (Since H1 G1 L) (match put t xs[i] (Br.wipe ρ own) with
      | none => .bad
      | some ρ' => (F ρ' G2.st).bind fun y st1 => (compL F t (Br.wipe ρ own) (xs.drop (i + 1)) st1).bind fun ys st2 => .ok (match y with | some y => y :: ys | none => ys) st2) _ := qq
    cases ep : put t xs[i] (Br.wipe ρ own) with
    | none => rw [ep] at qq; exact qq.elim
    | some ρ' =>
      rw [ep] at qq
      refine ⟨Br.wipe ρ own, G2, d, ρ', (en1.mono mon2).mono xy.mon, S3, rd, by rw [ed']; exact ep, fun σ2 en2 sb2 => ⟨wipe_same sb2 hsl, ρ', G2, en2, S3, ?_⟩⟩
      have R3 : Since H1 G1 L H' G2 := R2.ext xy
      have eL3 : H' L = some (.lst us) := xy.keep L _ eL (S2.apart L (by rw [R2.2]; exact List.mem_cons_self))
      have rs3 := rs.mono xy.mon.toMon
      have qq : PostR T (Since H1 G1 L) ((F ρ' G2.st).bind fun y st1 => (compL F t (Br.wipe ρ own) (xs.drop (i + 1)) st1).bind fun ys st2 => .ok (match y with | some y => y :: ys | none => ys) st2) _ := qq
      have eF : F ρ' G2.st = (evC C c ρ' G2.st).bind fun b st2 => if b = true then (evE C m ρ' st2).bind fun v st3 => (match v with
        | .d y => .ok (some y) st3
        | .r _ => .bad) else .ok none st2 := by rw [← hF]; rfl
      rw [eF, Res.bind_assoc] at qq
      -- the turn's end
      have fin : ∀ {H5 : Hp} {G5 : Wd} {acc' : List D} {us' : List V}, Since H1 G1 L H5 G5 → Sim T H5 G5 → H5 L = some (.lst us') → Reps T H5 G5 acc' us' → us'.length ≤ i + 1 →
          PostR T (Since H1 G1 L) (compL F t (Br.wipe ρ own) (xs.drop (i + 1)) G5.st) (fun ys H4 G4 => ∀ us, H4 L = some (.lst us) → Reps T H4 G4 (acc' ++ ys) us → Q (.ref L) H4) →
          ∃ k', k' < xs.length - i ∧ k' = xs.length - (i + 1) ∧ i + 1 ≤ xs.length ∧ ∃ G2 acc us, Since H1 G1 L H5 G2 ∧ Sim T H5 G2 ∧ H5 L = some (.lst us) ∧ Reps T H5 G2 acc us ∧ us.length ≤ i + 1 ∧
            PostR T (Since H1 G1 L) (compL F t (Br.wipe ρ own) (xs.drop (i + 1)) G2.st) fun ys H4 G4 => ∀ us, H4 L = some (.lst us) → Reps T H4 G4 (acc ++ ys) us → Q (.ref L) H4 :=
        fun R S e r hl z => ⟨_, by omega, rfl, hlt, _, _, _, R, S, e, r, hl, z⟩
      refine PostR.run (fun x => R3.ext x) qq fun b H4 G4 x4 R4 S4 q4 => ?_
      have eL4 : H4 L = some (.lst us) := x4.keep L _ eL3 (S3.apart L (by rw [R2.2]; exact List.mem_cons_self))
      have rs4 := rs3.mono x4.mon.toMon
      cases b with
      | false =>
        refine iteF ?_
        have q4 : PostR T (Since H1 G1 L) ((compL F t (Br.wipe ρ own) (xs.drop (i + 1)) G4.st).bind fun ys st2 => .ok ys st2) _ := q4
        refine fin R4 S4 eL4 rs4 (by omega) ?_
        revert q4
        generalize compL F t (Br.wipe ρ own) (xs.drop (i + 1)) G4.st = r
        intro q4
        cases r with
        | ok ys st => exact q4
        | exc _ _ _ => exact q4.elim
        | bad => exact q4.elim
      | true =>
        refine iteT ?_
        have q4 : PostR T (Since H1 G1 L) (((evE C m ρ' G4.st).bind fun v st3 => (match v with
          | .d y => .ok (some y) st3
          | .r _ => .bad : Res (Option D))).bind fun y st1 => (compL F t (Br.wipe ρ own) (xs.drop (i + 1)) st1).bind fun ys st2 => .ok (match y with | some y => y :: ys | none => ys) st2) _ := q4
        rw [Res.bind_assoc] at q4
        refine ⟨ρ', G4, en2.mono x4.mon, S4, PostR.run (fun x => R4.ext x) q4 fun v H5 G5 x5 R5 S5 q5 u r5 => ?_⟩
        have eL5 : H5 L = some (.lst us) := x5.keep L _ eL4 (S4.apart L (by rw [R4.2]; exact List.mem_cons_self))
        have rs5 := rs4.mono x5.mon.toMon
        cases v with
        | r n => exact False.elim q5
        | d y =>
          have q5 : PostR T (Since H1 G1 L) ((compL F t (Br.wipe ρ own) (xs.drop (i + 1)) G5.st).bind fun ys st2 => .ok (y :: ys) st2) _ := q5
          refine ⟨us, eL5, by omega, ?_⟩
          obtain ⟨S6, m6⟩ := S5.updp (o := .lst (us ++ [u])) (by rw [R5.2]; exact List.mem_cons_self)
          refine fin (acc' := acc ++ [y]) (R5.upd hL) S6 upd_same ((rs5.mono m6.toMon).append ⟨u, [], rfl, Rep.mono m6.toMon r5, rfl⟩) (by rw [List.length_append, List.length_singleton]; omega) ?_
          revert q5
          generalize compL F t (Br.wipe ρ own) (xs.drop (i + 1)) G5.st = r
          intro q5
          cases r with
          | ok ys st =>
            intro H7 G7 e7 R7 S7 us7 h7 r7
            rw [List.append_assoc] at r7
            exact q5 H7 G7 e7 R7 S7 us7 h7 r7
          | exc _ _ _ => exact q5.elim
          | bad => exact q5.elim
  · have e : i = xs.length := by omega
    subst e
    refine .inl ⟨tj.stops H2 G2 mon2 S2, ?_⟩
    rw [List.drop_length] at qq
    have z := qq H2 G2 rfl R2 S2 us eL
    rw [List.append_nil] at z
    exact z rs
theorem sE_comp {X : Cx} {o : Bool} {m : E} {t : Tg} {it : It} {c : Eo} {own : List Nat} {elt tg iter : Expr} {ifs : List Expr} {scope : Scope} {p : Pos} (hX : XOk T P C lvl W X) (hi : PI X tg iter (tI T C W it))
    (ok : BlkOk X.N X.env.scope scope (ownP X.N own)) (ho : (ownP X.N own).map (·.2) = own) (hsl : ∀ i ∈ tgSlots t, i ∈ own)
    (hg : ∀ (s : Shared) (H : Hp) (Ca : Addr) (cl : List (Str × Addr)) (fp : List Addr), PG (X.blk s H scope (compEnvC scope cl Ca X.env) fp) tg (tTg T t))
    (ht : ∀ (s : Shared) (H : Hp) (Ca : Addr) (cl : List (Str × Addr)) (fp : List Addr), PTs (X.blk s H scope (compEnvC scope cl Ca X.env) fp) ifs (tC T C W0 c))
    (he : ∀ (s : Shared) (H : Hp) (Ca : Addr) (cl : List (Str × Addr)) (fp : List Addr), PE (X.blk s H scope (compEnvC scope cl Ca X.env) fp) elt (tE T C W0 m))
    (hs : ∀ x, foldedSetIterable iter X.env x = pure x) : PE X (.ListComp elt [⟨tg, iter, ifs, 0⟩] scope p) (tE T C W (.comp o m t it c own)) := by
  exact PE.imp (pe_lc hX.calm hX.nd hi ok hg ht he hs) fun σ H Q h => lc_of ho hsl h
end
end Br

/-! Br8b: defs as values, what is taken out of a list, ranges, lists of own lists, turned about. -/
namespace Br
open PySem PySem.Spec PyProof.Rows L2
section
variable {T : Tb} {H : Hp} {G : Wd}
/-- a cell is rewritten -/
theorem cell_set {n : Nat} {a : Addr} {c c' : Cell} {o : HO} (S : Sim T H G) (e : G.g[n]? = some (a, c)) (l : c.live = true) (ok : MonA H G (upd H a o) ⟨G.g.set n (a, c'), G.ex⟩ → CellOk T (upd H a o) ⟨G.g.set n (a, c'), G.ex⟩ a c') :
    Ext H G (upd H a o) ⟨G.g.set n (a, c'), G.ex⟩ ∧ Sim T (upd H a o) ⟨G.g.set n (a, c'), G.ex⟩ := by
  have hn : n < G.g.length := (List.getElem?_eq_some_iff.mp e).1
  have old : ∀ (k : Nat) b d, (G.g.set n (a, c'))[k]? = some (b, d) → (k = n ∧ b = a ∧ d = c') ∨ (k ≠ n ∧ G.g[k]? = some (b, d)) := fun k b d q => by
    by_cases hk : n = k
    · subst hk
      rw [List.getElem?_set_self hn] at q
      cases q
      exact .inl ⟨rfl, rfl, rfl⟩
    · rw [List.getElem?_set_ne hk] at q
      exact .inr ⟨fun z => hk z.symm, q⟩
  have lv : Lv G a := ⟨n, c, e, l⟩
  have x : Ext H G (upd H a o) ⟨G.g.set n (a, c'), G.ex⟩ := by
    refine ⟨fun b u q nl => ?_, fun b u q => ?_, fun k b d q => ?_, fun k b d d' q q' l' => ?_, fun k b d q l' => ?_, rfl⟩
    · rw [upd_ne (show b ≠ a from fun z => nl (by rw [z]; exact lv))]
      exact q
    · by_cases hb : b = a
      · subst hb
        exact ⟨o, upd_same⟩
      · exact ⟨u, by rw [upd_ne hb]; exact q⟩
    · by_cases hk : n = k
      · subst hk
        rw [e] at q
        cases q
        exact ⟨c', List.getElem?_set_self hn⟩
      · exact ⟨d, by show (G.g.set n (a, c'))[k]? = _; rw [List.getElem?_set_ne hk]; exact q⟩
    · rcases old k b d' q' with ⟨rfl, h2, h3⟩ | ⟨h1, h2⟩
      · rw [e] at q
        cases q
        exact l
      · rw [h2] at q
        cases q
        exact l'
    · refine .inl ?_
      have := (List.getElem?_eq_some_iff.mp q).1
      simpa using this
  refine ⟨x, ⟨fun k b d q => ?_, fun k m b d d' q q' l1 l2 => ?_, fun b hb lb => ?_, fun b hb => ?_, S.exn⟩⟩
  · rcases old k b d q with ⟨rfl, rfl, rfl⟩ | ⟨h1, h2⟩
    · exact ok x.mon
    · cases hd : d.live with
      | false =>
        cases d with
        | dead => trivial
        | _ => cases hd
      | true =>
        refine (S.cell k b d h2).mono x.mon fun u qu => ?_
        rw [upd_ne (show b ≠ a from fun z => h1 (S.inj k n b d c h2 (by rw [z]; exact e) hd l))]
        exact qu
  · rcases old k b d q with ⟨rfl, h2, h3⟩ | ⟨h1, h2⟩
    · rcases old m b d' q' with ⟨k1, k2, k3⟩ | ⟨k1, k2⟩
      · exact k1.symm
      · rw [h2] at k2
        exact S.inj _ m a c d' e k2 l l2
    · rcases old m b d' q' with ⟨rfl, k2, k3⟩ | ⟨k1, k2⟩
      · rw [k2] at h2
        exact S.inj k _ a d c h2 e l1 l
      · exact S.inj k m b d d' h2 k2 l1 l2
  · obtain ⟨k, d, q, l1⟩ := lb
    rcases old k b d q with ⟨rfl, rfl, rfl⟩ | ⟨h1, h2⟩
    · exact S.apart b hb lv
    · exact S.apart b hb ⟨k, d, h2, l1⟩
  · obtain ⟨u, q⟩ := S.exs b hb
    by_cases h : b = a
    · subst h
      exact ⟨o, upd_same⟩
    · exact ⟨u, by rw [upd_ne h]; exact q⟩
theorem st_set {n : Nat} {a : Addr} {c' : Cell} : (⟨G.g.set n (a, c'), G.ex⟩ : Wd).st = G.st.set n c' := by
  unfold Wd.st
  rw [List.map_set]
/-- a cell as the store has it -/
theorem st_get {n : Nat} {c : Cell} (h : G.st[n]? = some c) : ∃ a, G.g[n]? = some (a, c) := by
  unfold Wd.st at h
  rw [List.getElem?_map] at h
  cases e : G.g[n]? with
  | none => rw [e] at h; cases h
  | some p =>
    rw [e] at h
    cases h
    exact ⟨p.1, rfl⟩
end

section
variable {T : Tb}
theorem list_cell {H : Hp} {G : Wd} {n : Nat} {xs : List D} (S : Sim T H G) {v : V} (r : RepV T H G (.r n) v) (e : G.st[n]? = some (.lst xs)) : ∃ a us, v = .ref a ∧ G.g[n]? = some (a, .lst xs) ∧ H a = some (.lst us) ∧ Reps T H G xs us := by
  obtain ⟨a, c, rfl, e1⟩ := r
  have e2 : G.st[n]? = some c := by unfold Wd.st; rw [List.getElem?_map, e1]; rfl
  rw [e] at e2
  cases e2
  obtain ⟨us, h1, h2⟩ := S.cell n a _ e1
  exact ⟨a, us, rfl, e1, h1, h2⟩
theorem isLst_ty {H : Hp} {G : Wd} {o : Vl} {v : V} (S : Sim T H G) (r : RepV T H G o v) (h : isLst G.st o = true) {K : PySem.W.Frag} : tyV K "list" v H := by
  cases o with
  | d _ => cases h
  | r n =>
    obtain ⟨a, c, rfl, e1⟩ := r
    have e2 : G.st[n]? = some c := by unfold Wd.st; rw [List.getElem?_map, e1]; rfl
    simp only [isLst, e2] at h
    have z := S.cell n a _ e1
    cases c with
    | lst xs =>
      obtain ⟨us, q1, q2⟩ := z
      exact .inl ⟨rfl, us, SqL.of q1⟩
    | lsr xs =>
      obtain ⟨us, q1, q2⟩ := z
      exact .inl ⟨rfl, us, SqL.of q1⟩
    | _ => cases h
theorem upd_id {H : Hp} {a : Addr} {o : HO} (h : H a = some o) : upd H a o = H := by
  funext b
  by_cases e : b = a
  · rw [e, upd_same, h]
  · rw [upd_ne e]
end
section
variable {T : Tb} {P : Pg} {C : Oracle} {lvl : Nat} {W : WX}
theorem PE.or {X : Cx} {e : Expr} {t t' : TE} (h : PE X e t) (h' : PE X e t') : PE X e (fun σ H Q => t σ H Q ∨ t' σ H Q) :=
  ⟨fun pins s σ H Q I q => q.elim (h.run pins s σ H Q I) (h'.run pins s σ H Q I)⟩
theorem fnv_pe {X : Cx} {k : Nat} {x : Str} {p : Pos} (hX : XOk T P C lvl W X) (hk : P.fns[k]?.bind (·.gn) = some x) (hb : glOk X.env.scope x = true) : PE X (.Name x p) (tE T C W (.fnv k)) := by
  cases hf : P.fns[k]? with
  | none => rw [hf] at hk; cases hk
  | some f =>
    rw [hf] at hk
    obtain ⟨m0, rfl⟩ := gn_ok (show f.gn = some x from hk)
    obtain ⟨hg, hd, _⟩ := gl_ok hb
    exact PE.imp (pe_glob hg ((hX.fn k f hf).1 m0) (v := .ref (T.fa k)) rfl hd) fun σ H Q ⟨ρ, G, he, hs, q⟩ => q.here hs _ rfl
/-- what a call by value asks -/
def tCalV (T : Tb) (P : Pg) (C : Oracle) (W : WX) (tf : TE) (t : TA) : TE := fun σ H Q => tf σ H fun y H1 => ∃ k f, P.fns[k]? = some f ∧ y = .ref (T.fa k) ∧ t σ H1 fun vs H2 => spOf T P C k vs H2 Q (WE W σ)
theorem calV_pe {X : Cx} {x : CalV} {tf : TE} {t : TA} (hX : XOk T P C lvl W X) (hg : x.good X.N X.env.scope = true) (hne : x.args.isEmpty = false) (hi : ∀ e ∈ x.args, ixOk e = true) (hf : PE X x.fn tf) (ha : PA X x.args t) :
    PE X (.Call x.fn x.args [] x.pos) (tCalV T P C W tf t) := by
  cases x with
  | nm x p es q =>
    cases es with
    | nil => cases hne
    | cons e es =>
      have st := star_cons (env := X.env) (es := es) (hi e List.mem_cons_self)
      have pl := star_any (env := X.env) (pos := q) fun y hy => hi y (List.mem_cons_of_mem e hy)
      refine ⟨fun pn s0 σ0 Ha Qa Ia ha0 => wpAny_Call_Name_kw (thn (hf.run pn s0 σ0 Ha _ Ia ha0) fun u s1 hu => ?_)⟩
      obtain ⟨y, H1, J1, r1, k, f, hk, ey, hq⟩ := hu
      subst ey
      obtain rfl : u = Value.ref (T.fa k) := r1
      obtain ⟨hm, kp, fd, ps, F, B⟩ := hX.fn k f hk
      exact PySem.W.callWith_K (h₀ := X.base) Ia.ok.mod.kin kp (thn (ha.run q pn s1 σ0 H1 _ J1 hq) fun us s2 h2 => by
        obtain ⟨vs, H2, J2, r, hq2⟩ := h2
        exact ⟨J2.kIn, run_fnG F hX.rm hX.gd B (L2N.passAt hX.takes σ0) J2 r hq2⟩) st pl
  | sub a i p es q =>
    cases es with
    | nil => cases hne
    | cons e es =>
      have st := star_cons (env := X.env) (es := es) (hi e List.mem_cons_self)
      have pl := star_any (env := X.env) (pos := q) fun y hy => hi y (List.mem_cons_of_mem e hy)
      refine ⟨fun pn s0 σ0 Ha Qa Ia ha0 => Call_ (thn (hf.run pn s0 σ0 Ha _ Ia ha0) fun u s1 hu => ?_) rfl⟩
      obtain ⟨y, H1, J1, r1, k, f, hk, ey, hq⟩ := hu
      subst ey
      obtain rfl : u = Value.ref (T.fa k) := r1
      obtain ⟨hm, kp, fd, ps, F, B⟩ := hX.fn k f hk
      exact PySem.W.callWith_K (h₀ := X.base) Ia.ok.mod.kin kp (thn (ha.run q pn s1 σ0 H1 _ J1 hq) fun us s2 h2 => by
        obtain ⟨vs, H2, J2, r, hq2⟩ := h2
        exact ⟨J2.kIn, run_fnG F hX.rm hX.gd B (L2N.passAt hX.takes σ0) J2 r hq2⟩) st pl
theorem Post.unquiet {α β : Type} {H : Hp} {G : Wd} {r : Res α} {f : α → Store → Res β} {K : β → Hp → Wd → Prop} {K1 : α → Hp → Wd → Prop} (h : Post T W H G (r.quiet.bind f) K) (k : ∀ a H1 G1, Ext H G H1 G1 → Sim T H1 G1 → Post T W H1 G1 (f a G1.st) K → K1 a H1 G1) : Post T W H G r K1 := by
  cases r with
  | ok a st => exact Post.bind (r := .ok a st) h k
  | exc c fs st => exact False.elim h
  | bad => exact False.elim h
theorem sE_calle {X : Cx} {m : E} {es : Es} {x : CalV} (hX : XOk T P C lvl W X) (hg : x.good X.N X.env.scope = true) (hne : x.args.isEmpty = false) (hi : ∀ e ∈ x.args, ixOk e = true) (hf : PE X x.fn (tE T C W m)) (ha : PA X x.args (tEs T C W es)) :
    PE X (.Call x.fn x.args [] x.pos) (tE T C W (.calle m es)) :=
  PE.imp (calV_pe hX hg hne hi hf ha) fun σ H Q ⟨ρ, G, he, hs, q⟩ => tE_bind he hs q fun y v H1 G1 x1 s1 e1 r1 q1 => by
    cases y with
    | r n => exact q1.elim
    | d d =>
      cases d with
      | fn k =>
        have q1 : Post T W H1 G1 (known C k ((evEs C es ρ G1.st).quiet.bind fun vs st2 => fin st2 (C k vs st2))) (fun x H' G' => ∀ v, RepV T H' G' x v → Q v H') := q1
        unfold known at q1
        split at q1
        · rename_i hz
          obtain ⟨vs, st, hz⟩ := hz
          obtain ⟨f, ef, _⟩ := hX.len k vs st hz
          refine ⟨k, f, ef, r1, ρ, G1, e1, s1, Post.unquiet q1 fun xs H2 G2 x2 s2 q2 vs r => ?_⟩
          have q3 := fin_ok s2 q2
          obtain ⟨f, hf, hl⟩ := hX.len k xs G2.st q3.nebad
          refine ⟨xs, G2, f, hf, hl, r, s2, ?_⟩
          revert q3
          generalize C k xs G2.st = r
          intro q3
          cases r with
          | ok a st => exact q3
          | exc c fs st => exact fun σ' dx H' G' e y S z => q3 σ dx H' G' e y S z
          | bad => exact q3
        · exact q1.elim
      | _ => exact q1.elim
/-! ### ranges as tuples -/
theorem rg_map (a : Int) (n : Nat) : (rangeD a n).length = n ∧ ∀ {T : Tb} {H : Hp} {G : Wd}, Reps T H G (rangeD a n) ((List.range n).map fun i => V.int (a + (i : Nat))) := by
  refine ⟨by simp [rangeD], fun {T H G} => ?_⟩
  unfold rangeD
  generalize List.range n = l
  induction l with
  | nil => rfl
  | cons i l ih => exact ⟨_, _, rfl, rfl, ih⟩
theorem sE_trange {X : Cx} {m : E} {e : Expr} {p q p2 q2 : Pos} (hX : XOk T P C lvl W X) (hb : bltOk P X.env.scope "tuple" = true) (hb2 : bltOk P X.env.scope "range" = true) (hi : ixOk e = true) (h : PE X e (tE T C W m)) :
    PE X (.Call (.Name "tuple" p) [.Call (.Name "range" p2) [e] [] q2] [] q) (tE T C W (.trange m)) := by
  obtain ⟨hg, hm⟩ := blt_mg hX.toXLt hb
  obtain ⟨hg2, hm2⟩ := blt_mg hX.toXLt hb2
  refine PE.imp (pe_tupRg hX.calm hg hm (prg_1 hg2 hm2 h (star_cons hi))) fun σ H Q ⟨ρ, G, he, hs, z⟩ => tE_bind he hs z fun x v H1 G1 x1 s1 e1 r1 q1 => ?_
  split at q1
  · rename_i n
    split at q1
    · rename_i hz
      split at q1
      · rename_i hn
        have hr := r62_ok hz
        refine ⟨n, r1, ⟨by omega, by omega, hr.1, hr.2, by omega⟩, fun y hy => ?_⟩
        have e0 : rgV 0 n = (List.range n.toNat).map fun i => V.int (0 + (i : Nat)) := by unfold rgV; rw [Int.sub_zero]
        rw [e0]
        exact q1 _ G1 rfl (Ext.obj _ hy) (s1.obj _ hy) _ (Rep.newT s1 hy (rg_map 0 _).2)
      · exact q1.elim
    · exact q1.elim
  · exact q1.elim
theorem sE_lrange {X : Cx} {m : E} {o : Bool} {e : Expr} {p q p2 q2 : Pos} (hX : XOk T P C lvl W X) (hb : bltOk P X.env.scope "list" = true) (hb2 : bltOk P X.env.scope "range" = true) (hi : ixOk e = true) (h : PE X e (tE T C W m)) :
    PE X (.Call (.Name "list" p) [.Call (.Name "range" p2) [e] [] q2] [] q) (tE T C W (.l1 o .range m)) := by
  obtain ⟨hg, hm⟩ := blt_mg hX.toXLt hb
  obtain ⟨hg2, hm2⟩ := blt_mg hX.toXLt hb2
  refine PE.imp (pe_listRg hX.calm hg hm (prg_1 hg2 hm2 h (star_cons hi))) fun σ H Q ⟨ρ, G, he, hs, z⟩ => tE_bind he hs z fun x v H1 G1 x1 s1 e1 r1 q1 => ?_
  obtain ⟨d, hd, q2⟩ := one_ok s1 r1 q1
  cases d with
  | int n =>
    have q2 : Post T W H1 G1 (match (if -(2 ^ 62) ≤ n ∧ n ≤ 100000 then some ((List.range n.toNat).map fun i => D.int (i : Nat)) else none) with
      | some xs => mk o xs G1.st
      | none => .bad) fun x H' G' => ∀ v, RepV T H' G' x v → Q v H' := q2
    by_cases hn : -(2 ^ 62) ≤ n ∧ n ≤ 100000
    · rw [if_pos hn] at q2
      refine ⟨n, hd, ⟨by omega, by omega, by omega, by omega, by omega⟩, fun y hy => ?_⟩
      have e0 : rgV 0 n = (List.range n.toNat).map fun i => V.int (i : Nat) := by
        unfold rgV
        rw [Int.sub_zero]
        refine List.map_congr_left fun i _ => ?_
        rw [Int.zero_add]
      rw [e0]
      refine mk_new q2 s1 ?_ y hy
      generalize List.range n.toNat = l
      induction l with
      | nil => rfl
      | cons i l ih => exact ⟨_, _, rfl, rfl, ih⟩
    · rw [if_neg hn] at q2
      exact q2.elim
  | _ => exact False.elim q2
theorem sE_trange2 {X : Cx} {m m2 : E} {e f : Expr} {p q p2 q2 : Pos} (hX : XOk T P C lvl W X) (hb : bltOk P X.env.scope "tuple" = true) (hb2 : bltOk P X.env.scope "range" = true) (hi : ixOk e = true) (hi2 : ixOk f = true) (h : PE X e (tE T C W m)) (h2 : PE X f (tE T C W m2)) :
    PE X (.Call (.Name "tuple" p) [.Call (.Name "range" p2) [e, f] [] q2] [] q) (tE T C W (.trange2 m m2)) := by
  obtain ⟨hg, hm⟩ := blt_mg hX.toXLt hb
  obtain ⟨hg2, hm2⟩ := blt_mg hX.toXLt hb2
  refine PE.imp (pe_tupRg hX.calm hg hm (prg_2 hg2 hm2 h h2 (star_cons hi) (star_cons hi2) (by rw [star_cons hi2]; rfl))) fun σ H Q ⟨ρ, G, he, hs, z⟩ => tE_bind he hs z fun x v H1 G1 x1 s1 e1 r1 q1 => tE_bind e1 s1 q1 fun y u H2 G2 x2 s2 e2 r2 q2 => ?_
  split at q2
  · rename_i i j
    split at q2
    · rename_i hz
      split at q2
      · rename_i hn
        obtain ⟨z1, z2⟩ := and2 hz
        have hr := r62_ok z1
        have hr2 := r62_ok z2
        refine ⟨i, j, r1, r2, ⟨hr.1, hr.2, hr2.1, hr2.2, by omega⟩, fun y hy => ?_⟩
        exact q2 _ G2 rfl (Ext.obj _ hy) (s2.obj _ hy) _ (Rep.newT s2 hy (rg_map i _).2)
      · exact q2.elim
    · exact q2.elim
  · exact q2.elim
/-! ### own lists: taken out of, lists of them -/
theorem frz_cell {H : Hp} {G : Wd} {n : Nat} {a : Addr} {c : Cell} {o : HO} (S : Sim T H G) (eg : G.g[n]? = some (a, c)) (hl : c.live = true) (eh : H a = some o) :
    Ext H G H ⟨G.g.set n (a, .dead), G.ex⟩ ∧ Sim T H ⟨G.g.set n (a, .dead), G.ex⟩ ∧ ¬ Mu ⟨G.g.set n (a, .dead), G.ex⟩ a := by
  obtain ⟨x4, s4⟩ := cell_set (c' := .dead) (o := o) S eg hl fun m => trivial
  rw [upd_id eh] at x4 s4
  refine ⟨x4, s4, fun m => ?_⟩
  rcases m with ⟨k, d, q, l⟩ | m
  · have q : (G.g.set n (a, Cell.dead))[k]? = some (a, d) := q
    by_cases hk : n = k
    · subst hk
      rw [List.getElem?_set_self (List.getElem?_eq_some_iff.mp eg).1] at q
      cases q
      cases l
    · rw [List.getElem?_set_ne hk] at q
      exact hk (S.inj k n a d _ q eg l hl).symm
  · exact S.apart a m ⟨n, _, eg, hl⟩
theorem sE_popi {X : Cx} {a i : E} {o e : Expr} {ap cp : Pos} (hX : XOk T P C lvl W X) (hl : (ap.endLine == cp.line) = true) (hn : noAttr o = true) (hi : ixOk e = true) (ho : PE X o (tE T C W a)) (h : PE X e (tE T C W i)) :
    PE X (.Call (.Attribute o "pop" ap) [e] [] cp) (tE T C W (.popi a i)) := by
  refine PE.imp (pe_bm PySem.F.plainAttrs_list PySem.F.slot_list_pop PySem.F.type_list_pop mt_popAt ho (pa_cons h pa_nil (star_cons hi)) (noAttr_ok hn) (by rw [star_cons hi]; rfl) hl (star_cons hi) rfl) fun σ H Q ⟨ρ, G, he, hs, z⟩ => ?_
  refine tE_bind he hs z fun x w H1 G1 x1 s1 e1 r1 q1 => ?_
  split at q1
  · exact q1.elim
  · rename_i hL
    refine ⟨isLst_ty s1 r1 (by simpa using hL), tE_bind e1 s1 q1 fun y u H2 G2 x2 s2 e2 r2 q2 => ?_⟩
    replace r1 := r1.mono x2.mon
    split at q2
    · rename_i n k
      split at q2
      · rename_i xs ec
        obtain ⟨ad, us, rfl, eg, eh, rs⟩ := list_cell s2 r1 ec
        split at q2
        · rename_i hz
          obtain ⟨k0, k1, k2⟩ := hz
          split at q2
          · rename_i y ey
            obtain ⟨v, ev, rv⟩ := rs.get ey
            have er : ∀ {H : Hp} {G : Wd} {ds : List D} {us : List V} (j : Nat), Reps T H G ds us → Reps T H G (ds.eraseIdx j) (us.eraseIdx j) := by
              intro H G ds
              induction ds with
              | nil => intro us j r; rw [show us = [] from r]; rfl
              | cons d ds ih =>
                intro us j r
                obtain ⟨w, ws, rfl, r1, r2⟩ := r
                cases j with
                | zero => exact r2
                | succ j => exact ⟨w, ws.eraseIdx j, rfl, r1, ih j r2⟩
            obtain ⟨x4, s4⟩ := cell_set (c' := .lst (xs.eraseIdx k.toNat)) (o := .lst (us.eraseIdx k.toNat)) s2 eg rfl fun m => ⟨_, upd_same, er _ (rs.mono m.toMon)⟩
            have hx : seqIndex? k us.length = some k.toNat := by
              rw [rs.length]
              unfold seqIndex?
              have h0 : ¬ k < 0 := by omega
              simp [h0, k0, k1]
            exact ⟨ad, us, k, k.toNat, v, rfl, by rw [show u = .int k from r2], eh, by omega, by omega, hx, ev, q2 _ _ st_set x4 s4 _ (Rep.mono x4.mon.toMon rv)⟩
          · exact q2.elim
        · exact q2.elim
      · exact q2.elim
    · exact q2.elim
/-- a list of own lists, read -/
theorem lsr_cell {H : Hp} {G : Wd} {n : Nat} {ns : List Nat} (S : Sim T H G) {v : V} (r : RepV T H G (.r n) v) (e : G.st[n]? = some (.lsr ns)) : ∃ a us, v = .ref a ∧ G.g[n]? = some (a, .lsr ns) ∧ H a = some (.lst us) ∧ RepVs T H G (ns.map .r) us := by
  obtain ⟨a, c, rfl, e1⟩ := r
  have e2 : G.st[n]? = some c := by unfold Wd.st; rw [List.getElem?_map, e1]; rfl
  rw [e] at e2
  cases e2
  obtain ⟨us, h1, h2⟩ := S.cell n a _ e1
  exact ⟨a, us, rfl, e1, h1, h2⟩
theorem repVs_get {H : Hp} {G : Wd} : ∀ {ds : List Vl} {us : List V} {i : Nat} {d : Vl}, RepVs T H G ds us → ds[i]? = some d → ∃ v, us[i]? = some v ∧ RepV T H G d v
  | [], _, _, _, _, h => by simp at h
  | d :: ds, _, 0, _, ⟨v, vs, e, r, _⟩, h => by simp at h; subst h; exact ⟨v, by rw [e]; rfl, r⟩
  | d :: ds, _, i + 1, _, ⟨v, vs, e, _, rs⟩, h => by
    obtain ⟨w, h1, h2⟩ := repVs_get (i := i) rs (by simpa using h)
    exact ⟨w, by rw [e]; simpa using h1, h2⟩
theorem sE_idxr {X : Cx} {a b : E} {e f : Expr} {p : Pos} (hX : XOk T P C lvl W X) (hi : ixOk f = true) (ha : PE X e (tE T C W a)) (hb : PE X f (tE T C W b)) : PE X (.Subscript e f p) (tE T C W (.idxr a b)) := by
  refine PE.imp (pe_ix (X := X) ix_list ha hb (plain_ix hi)) fun σ H Q ⟨ρ, G, he, hs, q⟩ => ?_
  refine tE_bind he hs q fun x v H1 G1 x1 s1 e1 r1 q1 => tE_bind e1 s1 q1 fun y u H2 G2 x2 s2 e2 r2 q2 => ?_
  replace r1 := r1.mono x2.mon
  split at q2
  · rename_i n k
    split at q2
    · rename_i ns ec
      obtain ⟨ad, us, rfl, eg, eh, rs⟩ := lsr_cell s2 r1 ec
      split at q2
      · rename_i hz
        split at q2
        · rename_i m em
          obtain ⟨w, ew, rw'⟩ := repVs_get (i := k.toNat) (d := .r m) rs (by rw [List.getElem?_map, em]; rfl)
          have hl : us.length = ns.length := by rw [rs.length, List.length_map]
          refine ⟨ad, us, k, w, rfl, r2, SqL.of eh, ?_, q2.here s2 _ rw'⟩
          unfold atI ixN
          rw [if_pos hz.1, if_pos (by omega)]
          exact ew
        · exact q2.elim
      · exact q2.elim
    · exact q2.elim
  · exact q2.elim
theorem turns_refs {H : Hp} {G : Wd} {a : Addr} {us : List V} {xs : List Vl} (t : LstAt H G a us) (r : RepVs T H G xs us) : Turns T (Itl T.K a) xs H G where
  goes := fun i H2 G2 m S hi => ⟨us, us[i]'(by rw [r.length]; exact hi), (t.mono m.toMon).sq, List.getElem?_eq_getElem _⟩
  stops := fun H2 G2 m S => ⟨us, (t.mono m.toMon).sq, by rw [r.length]; exact Nat.le_refl _⟩
  yields := fun i H2 G2 x H3 m S hi y => by
    obtain ⟨rfl, y⟩ := y
    obtain ⟨v, e1, e2⟩ := repVs_get r (List.getElem?_eq_getElem hi)
    have ex := y us (t.mono m.toMon).sq
    rw [e1] at ex
    cases ex
    exact ⟨_, List.getElem?_eq_getElem hi, Ext.refl _ _, S, e2.mono m⟩
theorem sI_seqr {X : Cx} {m : E} {e tg : Expr} (hX : XOk T P C lvl W X) (h : PE X e (tE T C W m)) : PI X tg e (tI T C W (.seqr m)) := by
  refine PI.imp (pi_list h) fun σ H R ⟨ρ, G, he, hs, q⟩ => tE_bind he hs q fun x v H1 G1 x1 s1 e1 r1 q1 => ?_
  cases x with
  | d d => exact q1.elim
  | r n =>
    have q1 : Post T W H1 G1 (match G1.st[n]? with
      | some (.lsr ns) => .ok (ns.map Vl.r) (G1.st.set n .dead)
      | _ => .bad) (fun xs H' G' => ∀ J, Turns T J xs H' G' → R J H') := q1
    split at q1
    · rename_i ns ec
      obtain ⟨ad, us, rfl, eg, eh, rs⟩ := lsr_cell s1 r1 ec
      obtain ⟨x4, s4, nm⟩ := frz_cell s1 eg rfl eh
      exact ⟨ad, rfl, ⟨us, SqL.of eh⟩, q1 H1 _ st_set x4 s4 _ (hX.K ▸ turns_refs (T := T) ⟨eh, nm⟩ (rs.mono x4.mon))⟩
    · exact q1.elim
/-! ### walked from the end -/
theorem rev_get {α : Type} (xs : List α) {i : Nat} (h : i < xs.length) : xs.reverse[i]? = xs[xs.length - 1 - i]? := List.getElem?_reverse h
theorem turns_revL {H : Hp} {G : Wd} {a : Addr} {us : List V} {xs : List D} {At : Hp → Wd → Prop} (h0 : At H G) (hm : ∀ H2 G2, Mon H G H2 G2 → At H2 G2) (hq : ∀ H2 G2, At H2 G2 → SqL T.K H2 a us) (r : Reps T H G xs us) : Turns T (Itv T.K a us.length) (vls xs.reverse) H G where
  goes := fun i H2 G2 m S hi => by
    rw [len_vls, List.length_reverse] at hi
    have := r.length
    exact ⟨by omega, us, us[us.length - 1 - i]'(by omega), hq _ _ (hm _ _ m.toMon), List.getElem?_eq_getElem _⟩
  stops := fun H2 G2 m S => by rw [len_vls, List.length_reverse, r.length]; exact Nat.le_refl _
  yields := fun i H2 G2 x H3 m S hi y => by
    obtain ⟨rfl, y⟩ := y
    rw [len_vls, List.length_reverse] at hi
    obtain ⟨v, e1, e2⟩ := r.get (i := xs.length - 1 - i) (List.getElem?_eq_getElem (by omega))
    have ex := y us (hq _ _ (hm _ _ m.toMon))
    rw [r.length, e1] at ex
    cases ex
    exact ⟨_, get_vls (by rw [rev_get xs hi]; exact List.getElem?_eq_getElem (by omega)), Ext.refl _ _, S, Rep.mono m.toMon e2⟩
theorem turns_revT {H : Hp} {G : Wd} {a : Addr} {us : List V} {xs : List D} (t : TupAt T.K H G a us) (r : Reps T H G xs us) : Turns T (RT.ItvT T.K a us.length) (vls xs.reverse) H G where
  goes := fun i H2 G2 m S hi => by
    rw [len_vls, List.length_reverse] at hi
    have := r.length
    exact ⟨by omega, us, us[us.length - 1 - i]'(by omega), (t.mono m.toMon).sq, List.getElem?_eq_getElem _⟩
  stops := fun H2 G2 m S => by rw [len_vls, List.length_reverse, r.length]; exact Nat.le_refl _
  yields := fun i H2 G2 x H3 m S hi y => by
    obtain ⟨rfl, y⟩ := y
    rw [len_vls, List.length_reverse] at hi
    obtain ⟨v, e1, e2⟩ := r.get (i := xs.length - 1 - i) (List.getElem?_eq_getElem (by omega))
    have ex := y us (t.mono m.toMon).sq
    rw [r.length, e1] at ex
    cases ex
    exact ⟨_, get_vls (by rw [rev_get xs hi]; exact List.getElem?_eq_getElem (by omega)), Ext.refl _ _, S, Rep.mono m.toMon e2⟩
theorem sI_rev {X : Cx} {m : E} {e tg : Expr} {p q : Pos} (hX : XOk T P C lvl W X) (hb : bltOk P X.env.scope "reversed" = true) (hi : ixOk e = true) (h : PE X e (tE T C W m)) : PI X tg (.Call (.Name "reversed" p) [e] [] q) (tI T C W (.rev m)) := by
  obtain ⟨hg, hm⟩ := blt_mg hX.toXLt hb
  refine PI.imp (RT.pi_revA hg hm h (star_cons hi)) fun σ H R ⟨ρ, G, he, hs, z⟩ => tE_bind he hs z fun x v H1 G1 x1 s1 e1 r1 q1 => ?_
  cases x with
  | r n => exact q1.elim
  | d d =>
    cases d with
    | tup xs =>
      obtain ⟨a, us, ea, t, rs⟩ := r1
      exact ⟨a, us, ea, .inr ⟨hX.K ▸ t.sq, q1.here s1 _ (hX.K ▸ turns_revT t rs)⟩⟩
    | lst xs =>
      obtain ⟨a, us, ea, t, rs⟩ := r1
      exact ⟨a, us, ea, .inl ⟨hX.K ▸ t.sq, q1.here s1 _ (hX.K ▸ turns_revL (At := fun H G => LstAt H G a us) t (fun _ _ m => t.mono m) (fun _ _ t => t.sq) rs)⟩⟩
    | kst xs =>
      obtain ⟨a, us, ea, t, rs⟩ := r1
      exact ⟨a, us, ea, .inl ⟨hX.K ▸ t.sq, q1.here s1 _ (hX.K ▸ turns_revL (At := fun H G => KstAt T.K H G a us) t (fun _ _ m => t.mono m) (fun _ _ t => t.sq) rs)⟩⟩
    | _ => exact q1.elim
/-! ### [::-1] -/
end
section
variable {prog : Program} {w : World} {A : Around} {E : Value → Shared → Prop} {s : Shared}
theorem back_ix (n : Nat) : Builtin.Slice.sliceAdjust none none (-1) (n : Int) = ((n : Int) - 1, -1) := by
  unfold Builtin.Slice.sliceAdjust
  simp
theorem back_pick (xs : Array Value) : ((List.range xs.size).filterMap fun (m : Nat) => xs[((xs.size : Int) - 1 + (m : Int) * (-1)).toNat]?) = xs.toList.reverse := by
  apply List.ext_getElem?
  intro i
  have key : ∀ (l : List Nat), (∀ m ∈ l, m < xs.size) → (l.filterMap fun (m : Nat) => xs[((xs.size : Int) - 1 + (m : Int) * (-1)).toNat]?) = l.map fun m => (xs[xs.size - 1 - m]?).getD .none := by
    intro l
    induction l with
    | nil => intro _; rfl
    | cons m l ih =>
      intro h
      have hm := h m List.mem_cons_self
      have e : ((xs.size : Int) - 1 + (m : Int) * (-1)).toNat = xs.size - 1 - m := by omega
      have e2 : xs[xs.size - 1 - m]? = some xs[xs.size - 1 - m] := Array.getElem?_eq_getElem (by omega)
      rw [List.filterMap_cons, e, e2, ih fun k hk => h k (List.mem_cons_of_mem _ hk), List.map_cons, e2]
      rfl
  rw [key _ fun m hm => List.mem_range.mp hm, List.getElem?_map]
  by_cases hi : i < xs.size
  · rw [List.getElem?_range hi, List.getElem?_reverse (by simpa using hi)]
    have : xs.size - 1 - i < xs.size := by omega
    simp [this]
  · rw [List.getElem?_eq_none (by simpa using hi), List.getElem?_eq_none (by simpa using hi)]
    rfl
theorem tup_back {t sl : Addr} {items : Array Value} {vl vu vs : Value} {Q : Value → Shared → Prop} (ht : IsTup s.heap t items) (hs : s.heap.IsSliceOf sl vl vu vs) (pl : IsPart vl none) (pu : IsPart vu none) (ps : IsPart vs (some (-1))) (hz : items.size ≤ sizeLine)
    (h : Q (.ref s.heap.objs.size) { s with heap := s.heap.push { cls := .type "tuple", data := .seq items.toList.reverse.toArray } }) : wpAny (model prog w) A (getItem (.ref t) (.ref sl)) Q E s := by
  obtain ⟨os, o1, o2, o3⟩ := id hs
  have hT : s.TypeIs (.ref sl) "slice" := ⟨os, o1, o2⟩
  have hk : sizeOk (.seq items.toList.reverse.toArray) := show items.toList.reverse.toArray.size ≤ sizeLine by simpa using hz
  unfold getItem
  try (with_reducible refine wpAny_holding ?_)
  first | refine wpAny_bind (wpAny_pure ?_) | skip
  apply wpAny_bind; refine wpAny_sequenceKey ht.typeIs (by decide) ?_
  apply wpAny_bind; refine wpAny_callSpecial?_slot (name := Str.ofString "__getitem__") ht.typeIs PyProof.Rows.slot_tuple_getitem (wpAny_call_entry PyProof.Rows.slot_tuple_getitem ht.typeIs entry_tuple_getitem ?_ (args_tuple_getitem _ _))
  show wpAny _ _ (Builtin.Tuple.tupleItemsOf (.ref t) >>= fun _ => _) _ _ s
  apply wpAny_bind; refine tupleItemsOf_ ht ?_
  apply wpAny_bind; refine wpAny_typeOf hT ?_
  rw [if_pos (by decide)]
  have ap : ∀ {A' : Around} {Q' : Int × Int × Nat → Shared → Prop}, Q' ((items.size : Int) - 1, -1, items.size) s → ∀ {E'}, wpAny (model prog w) A' (Builtin.Slice.sliceApplied (.ref sl) (pure (items.size : Int))) Q' E' s := by
    intro A' Q' q E'
    unfold Builtin.Slice.sliceApplied Builtin.Slice.sliceFields
    refine wpAny_bind (wpAny_bind (wpAny_field o1 o3 (x := vl) rfl ?_))
    refine wpAny_bind (wpAny_field o1 o3 (x := vu) rfl (wpAny_bind (wpAny_field o1 o3 (x := vs) rfl (wpAny_pure ?_))))
    refine wpAny_bind (HT.slicePart_ ps ?_)
    show wpAny _ _ (if ((-1 : Int) == 0) = true then _ else _) _ _ s
    rw [if_neg (by decide)]
    refine wpAny_bind (HT.slicePart_ pl (wpAny_bind (HT.slicePart_ pu (wpAny_bind (wpAny_pure ?_)))))
    show wpAny _ _ (match Builtin.Slice.sliceAdjust none none (-1) (items.size : Int) with | (lo, hi) => pure (lo, (-1 : Int), Builtin.Slice.slicePlaces lo hi (-1))) _ _ s
    rw [back_ix]
    have e : Builtin.Slice.slicePlaces ((items.size : Int) - 1) (-1) (-1) = items.size := by
      unfold Builtin.Slice.slicePlaces
      by_cases hn : items.size = 0
      · simp [hn]
      · have h1 : ¬ ((-1 : Int) > 0) := by decide
        have h2 : (items.size : Int) - 1 > -1 := by omega
        rw [if_neg h1, if_pos h2]
        have h3 : ((items.size : Int) - 1 - -1 - 1) / (- -1) + 1 = items.size := by
          rw [show (- -1 : Int) = 1 from rfl, Int.ediv_one]
          omega
        rw [h3]
        rfl
    show wpAny _ _ (pure ((items.size : Int) - 1, (-1 : Int), Builtin.Slice.slicePlaces ((items.size : Int) - 1) (-1) (-1))) _ _ s
    rw [e]
    exact wpAny_pure q
  refine wpAny_bind (ap ?_)
  have hno : ¬ (((items.size : Int) - 1 == 0 && (-1 : Int) == 1 && items.size == items.size) = true) := by simp
  show wpAny _ _ (if ((items.size : Int) - 1 == 0 && (-1 : Int) == 1 && items.size == items.size) = true then _ else _) _ _ s
  rw [if_neg hno, back_pick]
  first
    | exact wpAny_bind (m := Builtin.Tuple.tupleExact _) (wpAny_newObj_type (wpAny_pure ⟨_, rfl, wpAny_pure h⟩) hk)
    | exact wpAny_bind (m := Builtin.Tuple.tupleExact _) (wpAny_newObj_type (wpAny_bind (wpAny_pure (wpAny_pure ⟨_, rfl, wpAny_pure h⟩))) hk)
    | exact wpAny_bind (wpAny_bind (m := Builtin.Tuple.tupleExact _) (wpAny_newObj_type (wpAny_pure (wpAny_pure ⟨_, rfl, wpAny_pure h⟩)) hk))
    | exact wpAny_bind (wpAny_bind (m := Builtin.Tuple.tupleExact _) (wpAny_newObj_type (wpAny_pure ⟨_, rfl, wpAny_pure h⟩) hk))
end
section
variable {T : Tb} {P : Pg} {C : Oracle} {lvl : Nat} {W : WX}
def tBackT (K : PySem.W.Frag) (te : TE) : TE := fun σ H Q => te σ H fun x H1 => ∃ a xs, x = .ref a ∧ SqT K H1 a xs ∧ ∀ p, H1 p = none → Q (.ref p) (upd H1 p (.tup xs.reverse))
theorem pe_backT {X : Cx} {e : Expr} {te : TE} {k : Nat} {p1 p2 p3 pos : Pos} (he : PE X e te) : PE X (.Subscript e (.Slice none none (some (.UnaryOp .USub (.Constant (.int 1) k p1) p2)) p3) pos) (tBackT X.K te) := by
  have hst : PO X (some (.UnaryOp .USub (.Constant (.int 1) k p1) p2)) (tPart (tUn (rU fun i => V.int (-i)) (L2.tC (V.int 1)))) := po_some (pe_un un_neg pe_int)
  refine ⟨fun pn s0 σ0 Ha Qa Ia ha => Subscript_ (thn (he.run pn s0 σ0 Ha _ Ia ha) fun v s1 hv => ?_)⟩
  obtain ⟨x, H1, J1, r1, a, xs, ex, hx, hq⟩ := hv
  subst ex
  cases r1
  refine wpAny_Slice (thn (po_none.run pn s1 σ0 H1 (fun o H2 => o = none ∧ H2 = H1) J1 ⟨rfl, rfl⟩) fun vl s2 h2 => ?_)
  obtain ⟨l, H2, J2, pl, el, e2⟩ := h2
  subst el e2
  refine thn (po_none.run pn s2 σ0 H2 (fun o H3 => o = none ∧ H3 = H2) J2 ⟨rfl, rfl⟩) fun vu s3 h3 => ?_
  obtain ⟨u, H3, J3, pu, eu, e3⟩ := h3
  subst eu e3
  refine thn (hst.run pn s3 σ0 H3 (fun o H4 => o = some (-1) ∧ H4 = H3) J3 ⟨1, rfl, -1, rfl, rfl, rfl⟩) fun vs s4 h4 => ?_
  obtain ⟨o, H4, J4, ps, eo, e4⟩ := h4
  subst eo e4
  have J5 : Inv X pn σ0 H4 { s4 with heap := s4.heap.push { cls := .type "slice", data := .fields #[vl, vu, vs] } } := J4.kept (t' := s4.toks) fun b ob q => Heap.get?_push_of_some _ q
  obtain ⟨its, r, ht, hz⟩ := J5.tuple hx
  have hlen := r.length
  show wpAny (model X.prog X.w) X.A (subscriptTail e (.Slice none none (some (.UnaryOp .USub (.Constant (.int 1) k p1) p2)) p3) (.ref a) (.ref s4.heap.objs.size)) (EP X pn σ0 Qa) X.xe { s4 with heap := s4.heap.push { cls := .type "slice", data := .fields #[vl, vu, vs] } }
  refine tail_any (ops := [.ref a, .ref s4.heap.objs.size]) ht.typeIs (PyProof.Rows.slot_tuple_getitem.lookup) ?_ (by with_unfolding_all rfl)
  refine tup_back ht (Heap.IsSliceOf.new _ vl vu vs) pl pu ps (by rw [List.size_toArray]; omega) ?_
  refine ⟨.ref _, _, J5.laid (t' := s4.toks) (o := .tup xs.reverse) (fun b ob q => Heap.get?_push_of_some _ q) (Nat.le_refl _) ?_, rfl, hq _ (J5.hok.fresh (Nat.le_refl _))⟩
  exact ⟨by rw [List.length_reverse]; exact hz, _, by simpa using r.reverse, IsTup.new _ _⟩
/-- text[::-1] -/
theorem rev_pick (z : Str) : ((Builtin.Str.strSliceIndices none none (-1) z.length).filterMap (z.cps[·]?)).toArray = z.cps.toList.reverse.toArray := by
  have hn : z.cps.toList.length = z.length := Array.length_toList
  rw [picked_rev, filterMap_get, List.map_map]
  · congr 1
    refine List.ext_getElem (by simp [hn]) fun i h1 h2 => ?_
    have hi : i < z.cps.size := by simpa using h2
    have hk : z.length - 1 - i < z.cps.size := by show z.cps.size - 1 - i < _; omega
    simp only [List.getElem_map, List.getElem_range, List.getElem_reverse, Function.comp, Array.getD, hk, dif_pos]
    show z.cps[z.length - 1 - i] = z.cps.toList[z.cps.toList.length - 1 - i]
    simp [Str.length]
  · intro i hi
    obtain ⟨k, hk, rfl⟩ := List.mem_map.mp hi
    have hk' : k < z.length := List.mem_range.mp hk
    show z.length - 1 - k < z.length
    omega
def tBackS (te : TE) : TE := fun σ H Q => te σ H fun x H1 => ∃ z, x = .str z ∧ z.length ≤ sizeLine ∧ Q (.str (revS z)) H1
theorem pe_backS {X : Cx} {e : Expr} {te : TE} {k : Nat} {p1 p2 p3 pos : Pos} (he : PE X e te) : PE X (.Subscript e (.Slice none none (some (.UnaryOp .USub (.Constant (.int 1) k p1) p2)) p3) pos) (tBackS te) := by
  have hst : PO X (some (.UnaryOp .USub (.Constant (.int 1) k p1) p2)) (tPart (tUn (rU fun i => V.int (-i)) (L2.tC (V.int 1)))) := po_some (pe_un un_neg pe_int)
  refine ⟨fun pn s0 σ0 Ha Qa Ia ha => Subscript_ (thn (he.run pn s0 σ0 Ha _ Ia ha) fun v s1 hv => ?_)⟩
  obtain ⟨x, H1, J1, r1, z, ex, hz, hq⟩ := hv
  subst ex
  obtain ⟨tz, rfl⟩ := r1
  refine wpAny_Slice (thn (po_none.run pn s1 σ0 H1 (fun o H2 => o = none ∧ H2 = H1) J1 ⟨rfl, rfl⟩) fun vl s2 h2 => ?_)
  obtain ⟨l, H2, J2, pl, el, e2⟩ := h2
  subst el e2
  refine thn (po_none.run pn s2 σ0 H2 (fun o H3 => o = none ∧ H3 = H2) J2 ⟨rfl, rfl⟩) fun vu s3 h3 => ?_
  obtain ⟨u, H3, J3, pu, eu, e3⟩ := h3
  subst eu e3
  refine thn (hst.run pn s3 σ0 H3 (fun o H4 => o = some (-1) ∧ H4 = H3) J3 ⟨1, rfl, -1, rfl, rfl, rfl⟩) fun vs s4 h4 => ?_
  obtain ⟨o, H4, J4, ps, eo, e4⟩ := h4
  subst eo e4
  have J5 : Inv X pn σ0 H4 { s4 with heap := s4.heap.push { cls := .type "slice", data := .fields #[vl, vu, vs] } } := J4.kept (t' := s4.toks) fun b ob q => Heap.get?_push_of_some _ q
  cases pl
  cases pu
  cases ps
  rename_i tk
  show wpAny (model X.prog X.w) X.A (subscriptTail e (.Slice none none (some (.UnaryOp .USub (.Constant (.int 1) k p1) p2)) p3) (.str z tz) (.ref s4.heap.objs.size)) (EP X pn σ0 Qa) X.xe { s4 with heap := s4.heap.push { cls := .type "slice", data := .fields #[.none, .none, .int (-1) tk] } }
  refine tail_any (ops := [.str z tz, .ref s4.heap.objs.size]) (typeIs_str _ _ _) (F.slot_str_getitem.lookup) ?_ (by with_unfolding_all rfl)
  refine wpAny_getItem_str_slice (l := none) (u := none) (st := some (-1, tk)) ⟨_, Heap.get?_push_size _ rfl, rfl, rfl⟩ rfl ?_
  show Made.post (Made.str ⟨((Builtin.Str.strSliceIndices none none (-1) z.length).filterMap (z.cps[·]?)).toArray⟩) (EP X pn σ0 Qa) _
  rw [rev_pick]
  refine ⟨?_, .str (revS z), H4, J5.tok _, ⟨_, rfl⟩, hq⟩
  show z.cps.toList.reverse.toArray.size ≤ sizeLine
  simpa [Str.length] using hz
theorem Reps.reverse {H : Hp} {G : Wd} : ∀ {ds : List D} {us : List V}, Reps T H G ds us → Reps T H G ds.reverse us.reverse
  | [], us, h => by rw [show us = [] from h]; rfl
  | d :: ds, _, ⟨v, vs, e, r, rs⟩ => by
    rw [e, List.reverse_cons, List.reverse_cons]
    exact (Reps.reverse rs).append ⟨v, [], rfl, r, rfl⟩
theorem sE_rev {X : Cx} {m : E} {e : Expr} {k : Nat} {p1 p2 p3 pos : Pos} (hX : XOk T P C lvl W X) (h : PE X e (tE T C W m)) : PE X (.Subscript e (.Slice none none (some (.UnaryOp .USub (.Constant (.int 1) k p1) p2)) p3) pos) (tE T C W (.rev m)) := by
  refine PE.imp (PE.or (PE.or (pe_revL h) (pe_backT h)) (pe_backS h)) fun σ H Q ⟨ρ, G, he, hs, z⟩ => ?_
  cases ev : evE C m ρ G.st with
  | bad =>
    simp only [evE, ev, Res.bind_bad] at z
    exact z.elim
  | exc c fs st =>
    refine .inl (.inl ⟨ρ, G, he, hs, ?_⟩)
    simp only [evE, ev, Res.bind_exc] at z
    rw [ev]
    exact z
  | ok v st =>
    simp only [evE, ev, Res.bind_ok] at z
    cases ed : dr st v with
    | none =>
      unfold one at z
      rw [ed] at z
      exact z.elim
    | some d =>
      unfold one at z
      rw [ed] at z
      have lst : ∀ xs, revD d = some (.lst xs.reverse) → (∀ {H' G'} {u : V}, Sim T H' G' → RdD T H' G' d u → ∃ a us, u = .ref a ∧ SqL X.K H' a us ∧ Reps T H' G' xs us) → _ := fun xs e1 e2 => show tE T C W m σ H (fun x H1 => ∃ a xs, x = .ref a ∧ SqL X.K H1 a xs ∧ ∀ p, H1 p = none → Q (.ref p) (upd H1 p (.lst xs.reverse))) from ⟨ρ, G, he, hs, by
        rw [ev]
        intro H' G' e x S u r
        subst e
        obtain ⟨a, us, ea, t, rs⟩ := e2 S (dr_rd S r ed)
        refine ⟨a, us, ea, t, fun p hp => ?_⟩
        have z : Post T W H G (rD G'.st (revD d)) (fun x H' G' => ∀ (v : V), RepV T H' G' x v → Q v H') := z
        rw [e1] at z
        exact z (upd H' p (.lst us.reverse)) G' rfl (x.trans (Ext.obj _ hp)) (S.obj _ hp) _ (Rep.newL S hp rs.reverse)⟩
      cases d with
      | tup xs =>
        refine .inl (.inr ⟨ρ, G, he, hs, ?_⟩)
        rw [ev]
        intro H' G' e x S u r
        subst e
        obtain ⟨a, us, ea, t, rs⟩ := RdD.tup (dr_rd S r ed)
        refine ⟨a, us, ea, hX.K ▸ t, fun p hp => ?_⟩
        exact z (upd H' p (.tup us.reverse)) G' rfl (x.trans (Ext.obj _ hp)) (S.obj _ hp) _ (Rep.newT S hp rs.reverse)
      | lst xs => exact .inl (.inl (lst xs rfl fun S r => by
          obtain ⟨a, us, ea, t, rs⟩ := RdD.lst r
          exact ⟨a, us, ea, hX.K ▸ t, rs⟩))
      | kst xs => exact .inl (.inl (lst xs rfl fun S r => by
          obtain ⟨a, us, ea, t, rs⟩ := RdD.kst r
          exact ⟨a, us, ea, hX.K ▸ t, rs⟩))
      | str y =>
        refine .inr ⟨ρ, G, he, hs, ?_⟩
        rw [ev]
        intro H' G' e x S u r
        subst e
        have z : Post T W H G (rD G'.st (if y.length ≤ sizeLine then txtD (revS y) else none)) (fun x H' G' => ∀ (v : V), RepV T H' G' x v → Q v H') := z
        split at z
        · rename_i hz
          unfold txtD at z
          split at z
          · rename_i ok
            exact ⟨y, (dr_rd S r ed).1, hz, z H' G' rfl x S _ ⟨rfl, ok⟩⟩
          · exact z.elim
        · exact z.elim
      | _ => exact False.elim z
end
end Br

/-! Br8c: a list of own lists, made by a comprehension. -/
namespace Br
open PySem PySem.Spec PyProof.Rows L2
section
variable {T : Tb} {P : Pg} {C : Oracle} {lvl : Nat} {W : WX}
theorem RepVs.append {H : Hp} {G : Wd} : ∀ {ds es : List Vl} {us ws : List V}, RepVs T H G ds us → RepVs T H G es ws → RepVs T H G (ds ++ es) (us ++ ws)
  | [], _, us, _, h, s => by rw [show us = [] from h]; exact s
  | _ :: _, _, _, _, ⟨v, vs, e, r, rs⟩, s => ⟨v, vs ++ _, by rw [e]; rfl, r, RepVs.append rs s⟩
theorem lsr_new {H H1 : Hp} {G G1 : Wd} {p : Addr} {us : List V} {ns : List Nat} (hp : H p = none) (x : Ext H G H1 G1) (S : Sim T H1 (G1.priv p)) (e : H1 p = some (.lst us)) (r : RepVs T H1 (G1.priv p) (ns.map .r) us) :
    Ext H G H1 ⟨G1.g ++ [(p, .lsr ns)], G1.ex⟩ ∧ Sim T H1 ⟨G1.g ++ [(p, .lsr ns)], G1.ex⟩ := by
  have pre : ∀ (n : Nat) q, G1.g[n]? = some q → (G1.g ++ [(p, Cell.lsr ns)])[n]? = some q := fun n q e => by
    rw [List.getElem?_append_left (List.getElem?_eq_some_iff.mp e).1]
    exact e
  have old : ∀ (k : Nat) b d, (G1.g ++ [(p, Cell.lsr ns)])[k]? = some (b, d) → G1.g[k]? = some (b, d) ∨ (k = G1.g.length ∧ b = p ∧ d = .lsr ns) := fun k b d q => by
    by_cases hk : k < G1.g.length
    · rw [List.getElem?_append_left hk] at q
      exact .inl q
    · rw [List.getElem?_append_right (by omega)] at q
      have z : k - G1.g.length = 0 := by
        have := (List.getElem?_eq_some_iff.mp q).1
        simp at this
        omega
      rw [z] at q
      cases q
      exact .inr ⟨by omega, rfl, rfl⟩
  have nl : ¬ Lv G1 p := S.apart p List.mem_cons_self
  have nx : p ∉ G1.ex := (List.nodup_cons.mp S.exn).1
  have mon : MonA H1 (G1.priv p) H1 ⟨G1.g ++ [(p, .lsr ns)], G1.ex⟩ := by
    refine ⟨⟨fun _ _ e _ => e, fun a m => .inl ?_⟩, fun n a c e => ⟨c, pre n _ e⟩⟩
    rcases m with ⟨n, c, q, l⟩ | m
    · rcases old n a c q with h | ⟨_, h, _⟩
      · exact .inl ⟨n, c, h, l⟩
      · subst h
        exact .inr List.mem_cons_self
    · exact .inr (List.mem_cons_of_mem _ m)
  refine ⟨x.app hp, ⟨fun n a c q => ?_, fun n m a c c' q q' l l' => ?_, fun a m l => ?_, fun a m => S.exs a (List.mem_cons_of_mem _ m), (List.nodup_cons.mp S.exn).2⟩⟩
  · rcases old n a c q with h | ⟨_, h, hc⟩
    · exact (S.cell n a c h).mono mon fun o e => e
    · subst h hc
      exact ⟨us, e, r.mono mon⟩
  · rcases old n a c q with h | ⟨h1, h, hc⟩ <;> rcases old m a c' q' with k | ⟨k1, k, kc⟩
    · exact S.inj n m a c c' h k l l'
    · subst k
      exact absurd ⟨n, c, h, l⟩ nl
    · subst h
      exact absurd ⟨m, c', k, l'⟩ nl
    · omega
  · obtain ⟨n, c, q, l⟩ := l
    rcases old n a c q with h | ⟨_, h, _⟩
    · exact S.apart a (List.mem_cons_of_mem _ m) ⟨n, c, h, l⟩
    · subst h
      exact nx m
theorem lcr_of {X : Cx} {m : E} {t : Tg} {it : It} {own : List Nat} {σ : L2.St} {H : Hp} {Q : VK} (ho : (ownP X.N own).map (·.2) = own) (hsl : ∀ i ∈ tgSlots t, i ∈ own)
    (h : tE T C W (.compr m t it own) σ H Q) : tLc (tI T C W it) (tTg T t) (fun _ H Q => Q true H) (tE T C W0 m) ((ownP X.N own).map (·.2)) σ H Q := by
  obtain ⟨ρ, G, hen, hsm, q⟩ := h
  rw [ho]
  refine ⟨ρ, G, hen, hsm, Post.bind q fun xs H1 G1 x1 s1 q1 J tj L hL => ?_⟩
  have en1 := (hen.mono x1.mon).wipe own
  generalize hF : (fun ρ' st' => evE C m ρ' st') = F at q1
  have q2 : (PostR T (Since H1 G1 L) (comprL F t (Br.wipe ρ own) xs G1.st) fun ys H3 G3 => ∀ us : List V, H3 L = some (.lst us) → RepVs T H3 G3 (List.map Vl.r ys) us → Q (.ref L) H3) ∧ xs.length ≤ sizeLine := by
    revert q1
    generalize comprL F t (Br.wipe ρ own) xs G1.st = r
    intro q1
    cases r with
    | ok ys st =>
      have q1 : Post T W H1 G1 (if xs.length ≤ sizeLine then .ok (Vl.r st.length) (st ++ [.lsr ys]) else .bad) _ := q1
      split at q1
      · rename_i hz
        refine ⟨fun H' G' e R S us eL rs => ?_, hz⟩
        subst e
        have e2 : G' = Wd.priv ⟨G'.g, G1.ex⟩ L := by
          have := R.2
          cases G' with
          | mk g ex => simp only at this; rw [this]; rfl
        obtain ⟨x5, s5⟩ := lsr_new (G1 := ⟨G'.g, G1.ex⟩) hL R.1 (e2 ▸ S) eL (e2 ▸ rs)
        refine q1 H' _ (by simp [Wd.st]) x5 s5 _ ⟨L, .lsr ys, rfl, ?_⟩
        show (G'.g ++ [(L, Cell.lsr ys)])[G'.st.length]? = _
        rw [Wd.st_len, List.getElem?_append_right (Nat.le_refl _), Nat.sub_self]
        rfl
      · exact False.elim q1
    | exc _ _ _ => exact False.elim q1
    | bad => exact False.elim q1
  obtain ⟨q2, hlen⟩ := q2
  refine ⟨fun i k H2 => k = xs.length - i ∧ i ≤ xs.length ∧ ∃ G2 acc us, Since H1 G1 L H2 G2 ∧ Sim T H2 G2 ∧ H2 L = some (.lst us) ∧ RepVs T H2 G2 (List.map Vl.r acc) us ∧ us.length ≤ i ∧
    PostR T (Since H1 G1 L) (comprL F t (Br.wipe ρ own) (xs.drop i) G2.st) fun ys H3 G3 => ∀ us, H3 L = some (.lst us) → RepVs T H3 G3 (List.map Vl.r (acc ++ ys)) us → Q (.ref L) H3, ⟨xs.length, by simp, Nat.zero_le _, G1.priv L, [], [], ?_, ?_, upd_same, rfl, Nat.le_refl _, ?_⟩, ?_⟩
  · exact ⟨(Ext.refl H1 G1).trans (Ext.obj _ hL), rfl⟩
  · exact s1.enter _ hL
  · exact q2
  rintro i k H2 ⟨rfl, hile, G2, acc, us, R2, S2, eL, rs, hul, qq⟩
  have mon2 := R2.mon hL
  by_cases hlt : i < xs.length
  · have hdrop : xs.drop i = xs[i] :: xs.drop (i + 1) := List.drop_eq_getElem_cons hlt
    rw [hdrop] at qq
    refine .inr ⟨tj.goes i H2 G2 mon2 S2 hlt, fun H3 => ∃ k', k' < xs.length - i ∧ k' = xs.length - (i + 1) ∧ i + 1 ≤ xs.length ∧ ∃ G2 acc us, Since H1 G1 L H3 G2 ∧ Sim T H3 G2 ∧ H3 L = some (.lst us) ∧ RepVs T H3 G2 (List.map Vl.r acc) us ∧ us.length ≤ i + 1 ∧
      PostR T (Since H1 G1 L) (comprL F t (Br.wipe ρ own) (xs.drop (i + 1)) G2.st) fun ys H4 G4 => ∀ us, H4 L = some (.lst us) → RepVs T H4 G4 (List.map Vl.r (acc ++ ys)) us → Q (.ref L) H4, fun H' h => ?_, fun x H' y => ?_⟩
    · obtain ⟨k', h1, h2⟩ := h
      exact ⟨k', h1, h2⟩
    obtain ⟨d, ed, xy, S3, rd⟩ := tj.yields i H2 G2 x H' mon2 S2 hlt y
    have ed' : d = xs[i] := by
      rw [List.getElem?_eq_getElem hlt] at ed
      exact (Option.some.inj ed).symm
    have qq : PostR T (Since H1 G1 L) (match put t xs[i] (Br.wipe ρ own) with
      | none => .bad
      | some ρ' => (F ρ' G2.st).bind fun y st1 => match y with
        | .r n => (comprL F t (Br.wipe ρ own) (xs.drop (i + 1)) st1).bind fun ys st2 => .ok (n :: ys) st2
        | .d _ => .bad) _ := qq
    cases ep : put t xs[i] (Br.wipe ρ own) with
    | none => rw [ep] at qq; exact qq.elim
    | some ρ' =>
      rw [ep] at qq
      refine ⟨Br.wipe ρ own, G2, d, ρ', (en1.mono mon2).mono xy.mon, S3, rd, by rw [ed']; exact ep, fun σ2 en2 sb2 => ⟨wipe_same sb2 hsl, ρ', G2, en2, S3, ?_⟩⟩
      have R3 : Since H1 G1 L H' G2 := R2.ext xy
      have eL3 : H' L = some (.lst us) := xy.keep L _ eL (S2.apart L (by rw [R2.2]; exact List.mem_cons_self))
      have rs3 := rs.mono xy.mon
      have qq : PostR T (Since H1 G1 L) ((F ρ' G2.st).bind fun y st1 => match y with
        | .r n => (comprL F t (Br.wipe ρ own) (xs.drop (i + 1)) st1).bind fun ys st2 => .ok (n :: ys) st2
        | .d _ => .bad) _ := qq
      subst hF
      refine PostR.run (fun x => R3.ext x) qq fun v H5 G5 x5 R5 S5 q5 u r5 => ?_
      have eL5 : H5 L = some (.lst us) := x5.keep L _ eL3 (S3.apart L (by rw [R3.2]; exact List.mem_cons_self))
      have rs5 := rs3.mono x5.mon
      cases v with
      | d y => exact False.elim q5
      | r n =>
        have q5 : PostR T (Since H1 G1 L) ((comprL (fun ρ' st' => evE C m ρ' st') t (Br.wipe ρ own) (xs.drop (i + 1)) G5.st).bind fun ys st2 => .ok (n :: ys) st2) _ := q5
        refine ⟨us, eL5, by omega, ?_⟩
        obtain ⟨S6, m6⟩ := S5.updp (o := .lst (us ++ [u])) (by rw [R5.2]; exact List.mem_cons_self)
        refine ⟨_, by omega, rfl, hlt, G5, acc ++ [n], us ++ [u], R5.upd hL, S6, upd_same, ?_, by rw [List.length_append, List.length_singleton]; omega, ?_⟩
        · rw [List.map_append]
          exact RepVs.append (rs5.mono m6) ⟨u, [], rfl, r5.mono m6, rfl⟩
        revert q5
        generalize comprL (fun ρ' st' => evE C m ρ' st') t (Br.wipe ρ own) (xs.drop (i + 1)) G5.st = r
        intro q5
        cases r with
        | ok ys st =>
          intro H7 G7 e7 R7 S7 us7 h7 r7
          rw [List.append_assoc] at r7
          exact q5 H7 G7 e7 R7 S7 us7 h7 r7
        | exc _ _ _ => exact q5.elim
        | bad => exact q5.elim
  · have e : i = xs.length := by omega
    subst e
    refine .inl ⟨tj.stops H2 G2 mon2 S2, ?_⟩
    rw [List.drop_length] at qq
    have z := qq H2 G2 rfl R2 S2 us eL
    rw [List.append_nil] at z
    exact z rs
theorem sE_compr {X : Cx} {m : E} {t : Tg} {it : It} {own : List Nat} {elt tg iter : Expr} {scope : Scope} {p : Pos} (hX : XOk T P C lvl W X) (hi : PI X tg iter (tI T C W it))
    (ok : BlkOk X.N X.env.scope scope (ownP X.N own)) (ho : (ownP X.N own).map (·.2) = own) (hsl : ∀ i ∈ tgSlots t, i ∈ own)
    (hg : ∀ (s : Shared) (H : Hp) (Ca : Addr) (cl : List (Str × Addr)) (fp : List Addr), PG (X.blk s H scope (compEnvC scope cl Ca X.env) fp) tg (tTg T t))
    (he : ∀ (s : Shared) (H : Hp) (Ca : Addr) (cl : List (Str × Addr)) (fp : List Addr), PE (X.blk s H scope (compEnvC scope cl Ca X.env) fp) elt (tE T C W0 m))
    (hs : ∀ x, foldedSetIterable iter X.env x = pure x) : PE X (.ListComp elt [⟨tg, iter, [], 0⟩] scope p) (tE T C W (.compr m t it own)) := by
  exact PE.imp (pe_lc hX.calm hX.nd hi ok hg (fun _ _ _ _ _ => pts_nil) he hs) fun σ H Q h => lcr_of ho hsl h
end
end Br

/-! Br8d: dicts: made, read, walked, put in order; bit_length; is True. -/
namespace Br
open PySem PySem.Spec PyProof.Rows L2
section
variable {T : Tb} {P : Pg} {C : Oracle} {lvl : Nat} {W : WX}
/-! ### tables beside tables -/
def KU (T : Tb) (H : Hp) (G : Wd) : List (L2.Key × D) → List (L2.Key × V) → Prop
  | [], us => us = []
  | (k, d) :: r, us => ∃ v vs, us = (k, v) :: vs ∧ Rep T H G d v ∧ KU T H G r vs
section
variable {H H' : Hp} {G G' : Wd}
theorem KU.of : ∀ {kvs : List (L2.Key × D)} {kus : List (L2.Key × V)}, kus.map (·.1) = kvs.map (·.1) → Reps T H G (kvs.map (·.2)) (kus.map (·.2)) → KU T H G kvs kus
  | [], kus, e, _ => by
    have e : kus = [] := by simpa using e
    exact e
  | (k, d) :: r, [], e, _ => by simp at e
  | (k, d) :: r, (k', u) :: us, e, h => by
    simp only [List.map_cons, List.cons.injEq] at e
    obtain ⟨rfl, e⟩ := e
    obtain ⟨v, vs, ev, r1, r2⟩ := h
    simp only [List.map_cons, List.cons.injEq] at ev
    obtain ⟨rfl, rfl⟩ := ev
    exact ⟨u, us, rfl, r1, KU.of e r2⟩
theorem KU.to : ∀ {kvs : List (L2.Key × D)} {kus : List (L2.Key × V)}, KU T H G kvs kus → kus.map (·.1) = kvs.map (·.1) ∧ Reps T H G (kvs.map (·.2)) (kus.map (·.2))
  | [], kus, h => by rw [show kus = [] from h]; exact ⟨rfl, rfl⟩
  | (k, d) :: r, kus, ⟨v, vs, e, r1, r2⟩ => by
    obtain ⟨h1, h2⟩ := KU.to r2
    subst e
    exact ⟨by simp [h1], v, vs.map (·.2), rfl, r1, h2⟩
theorem KU.mono (x : Mon H G H' G') {kvs : List (L2.Key × D)} {kus : List (L2.Key × V)} (h : KU T H G kvs kus) : KU T H' G' kvs kus := by
  obtain ⟨h1, h2⟩ := h.to
  exact KU.of h1 (h2.mono x)
theorem KU.length {kvs : List (L2.Key × D)} {kus : List (L2.Key × V)} (h : KU T H G kvs kus) : kus.length = kvs.length := by
  have := congrArg List.length h.to.1
  simpa using this
theorem KU.any (k : L2.Key) : ∀ {kvs : List (L2.Key × D)} {kus : List (L2.Key × V)}, KU T H G kvs kus → (kus.any fun kv => decide (kv.1 = k)) = kvs.any fun kv => decide (kv.1 = k)
  | [], kus, h => by rw [show kus = [] from h]; rfl
  | (j, d) :: r, kus, ⟨v, vs, e, r1, r2⟩ => by
    subst e
    simp only [List.any_cons]
    rw [KU.any k r2]
theorem KU.repl {k : L2.Key} {x : D} {u : V} (rx : Rep T H G x u) : ∀ {kvs : List (L2.Key × D)} {kus : List (L2.Key × V)}, KU T H G kvs kus → KU T H G (kvs.map fun kv => if kv.1 = k then (kv.1, x) else kv) (kus.map fun kv => if kv.1 = k then (kv.1, u) else kv)
  | [], kus, h => by rw [show kus = [] from h]; rfl
  | (j, d) :: r, kus, ⟨v, vs, e, r1, r2⟩ => by
    subst e
    simp only [List.map_cons]
    by_cases hk : j = k
    · simp only [hk, if_true]
      exact ⟨u, _, rfl, rx, KU.repl rx r2⟩
    · simp only [hk, if_false]
      exact ⟨v, _, rfl, r1, KU.repl rx r2⟩
theorem KU.snoc {k : L2.Key} {x : D} {u : V} (rx : Rep T H G x u) : ∀ {kvs : List (L2.Key × D)} {kus : List (L2.Key × V)}, KU T H G kvs kus → KU T H G (kvs ++ [(k, x)]) (kus ++ [(k, u)])
  | [], kus, h => by rw [show kus = [] from h]; exact ⟨u, [], rfl, rx, rfl⟩
  | (j, d) :: r, kus, ⟨v, vs, e, r1, r2⟩ => by
    subst e
    exact ⟨v, _, rfl, r1, KU.snoc rx r2⟩
theorem KU.put {k : L2.Key} {x : D} {u : V} (rx : Rep T H G x u) {kvs : List (L2.Key × D)} {kus : List (L2.Key × V)} (h : KU T H G kvs kus) : KU T H G (putD kvs k x) (putK kus k u) := by
  unfold putD putK
  rw [h.any k]
  split
  · exact h.repl rx
  · exact h.snoc rx
theorem KU.merge : ∀ {more : List (L2.Key × D)} {moru : List (L2.Key × V)} {kvs : List (L2.Key × D)} {kus : List (L2.Key × V)}, KU T H G more moru → KU T H G kvs kus → KU T H G (mergeD kvs more) (mergeK kus moru)
  | [], moru, kvs, kus, h, h2 => by rw [show moru = [] from h]; exact h2
  | (k, d) :: r, moru, kvs, kus, ⟨v, vs, e, r1, r2⟩, h2 => by
    subst e
    show KU T H G (mergeD (putD kvs k d) r) (mergeK (putK kus k v) vs)
    exact KU.merge (more := r) (moru := vs) r2 (h2.put r1)
theorem KU.val (k : L2.Key) : ∀ {kvs : List (L2.Key × D)} {kus : List (L2.Key × V)}, KU T H G kvs kus → (valD kvs k = none ∧ valV kus k = none) ∨ ∃ d v, valD kvs k = some d ∧ valV kus k = some v ∧ Rep T H G d v
  | [], kus, h => by rw [show kus = [] from h]; exact .inl ⟨rfl, rfl⟩
  | (j, d) :: r, kus, ⟨v, vs, e, r1, r2⟩ => by
    subst e
    by_cases hk : j = k
    · exact .inr ⟨d, v, by simp [valD, List.find?_cons, hk], valV_pos (p := (j, v)) hk, r1⟩
    · have h1 : valD ((j, d) :: r) k = valD r k := by simp [valD, List.find?_cons, hk]
      have h2 : valV ((j, v) :: vs) k = valV vs k := valV_neg (p := (j, v)) hk
      rw [h1, h2]
      exact KU.val k r2
theorem KU.zip : ∀ {ks : List L2.Key} {xs : List D} {us : List V}, xs.length = ks.length → Reps T H G xs us → KU T H G (ks.zip xs) (ks.zip us)
  | [], _, _, _, _ => rfl
  | k :: ks, [], us, h, _ => by simp at h
  | k :: ks, x :: xs, us, h, ⟨v, vs, e, r1, r2⟩ => by
    subst e
    exact ⟨v, _, rfl, r1, KU.zip (by simpa using h) r2⟩
theorem dKey_ok {x : D} {k : L2.Key} {v : V} (h : dKey x = some k) (r : Rep T H G x v) : v = kV k := by
  cases x <;> simp only [dKey, reduceCtorEq, Option.some.injEq] at h
  · subst h; exact r
  · subst h; exact r.1
theorem dic_cell {n : Nat} {kvs : List (L2.Key × D)} (S : Sim T H G) {v : V} (r : RepV T H G (.r n) v) (e : G.st[n]? = some (.dic kvs)) : ∃ a kus, v = .ref a ∧ G.g[n]? = some (a, .dic kvs) ∧ H a = some (.dK kus) ∧ KU T H G kvs kus := by
  obtain ⟨a, c, rfl, e1⟩ := r
  have e2 : G.st[n]? = some c := by unfold Wd.st; rw [List.getElem?_map, e1]; rfl
  rw [e] at e2
  cases e2
  obtain ⟨us, h1, h2, h3⟩ := S.cell n a _ e1
  exact ⟨a, us, rfl, e1, h1, KU.of h2 h3⟩
theorem isDic_ok {o : Vl} {v : V} (S : Sim T H G) (r : RepV T H G o v) (h : isDic G.st o = true) : ∃ a, v = .ref a ∧ IsD H a := by
  cases o with
  | d _ => cases h
  | r n =>
    unfold isDic at h
    split at h
    · rename_i m e
      cases e
      split at h
      · rename_i kvs ec
        obtain ⟨a, kus, e1, _, e3, _⟩ := dic_cell S r ec
        exact ⟨a, e1, .inl ⟨kus, .inl e3⟩⟩
      · cases h
    · cases h
end
theorem PostR.runW {α β : Type} {R : Hp → Wd → Prop} {H2 : Hp} {G2 : Wd} {r : Res α} {f : α → Store → Res β} {K : β → Hp → Wd → Prop} {K1 : α → Hp → Wd → Prop} (hc : ∀ {H3 G3}, Ext H2 G2 H3 G3 → R H3 G3) (h : PostR T R (r.bind f) K)
    (k : ∀ a H3 G3, Ext H2 G2 H3 G3 → R H3 G3 → Sim T H3 G3 → PostR T R (f a G3.st) K → K1 a H3 G3) : Post T W H2 G2 r K1 := by
  cases r with
  | ok a st =>
    intro H3 G3 e x S
    subst e
    exact k a H3 G3 x (hc x) S h
  | exc c fs st => exact h.elim
  | bad => exact h.elim
/-! ### displays -/
def Es.len : Es → Nat
  | .nil => 0
  | .cons _ r => r.len + 1
theorem chkEs_len {P : Pg} {N : List Str} {sc : Scope} : ∀ {es : Es} {fs : List Expr}, chkEs P N es sc fs = true → es.len = fs.length
  | .nil, fs, h => by
    have h : fs.isEmpty = true := h
    rw [List.isEmpty_iff.mp h]
    rfl
  | .cons m ms, fs, h => by
    obtain ⟨f, h1, h2⟩ := opt_ok h
    cases fs with
    | nil => cases h1
    | cons g gs =>
      cases h1
      obtain ⟨h2, h3⟩ := and2 h2
      have := chkEs_len h3
      simp only [Es.len, List.length_cons]
      simpa using this
def trsD (T : Tb) (C : Oracle) (W : WX) : List L2.Key → Es → List (TE × TE)
  | k :: ks, .cons m ms => (L2.tC (kV k), tE T C W m) :: trsD T C W ks ms
  | _, _ => []
theorem tPairs_of {p : Addr} {H1 : Hp} {G1 : Wd} {ρ : Env} {σ : L2.St} : ∀ (ks : List L2.Key) (es : Es) {H2 : Hp} {G2 : Wd} {K : List D → Hp → Wd → Prop} {Q : List (V × V) → Hp → Prop}, EnvOk T H2 G2 ρ σ → Sim T H2 G2 → Since H1 G1 p H2 G2 →
    PostR T (Since H1 G1 p) (evDs C es ρ G2.st) K → (∀ xs vs H3 G3, Since H1 G1 p H3 G3 → Ext H2 G2 H3 G3 → Sim T H3 G3 → Reps T H3 G3 xs vs → K xs H3 G3 → Q ((ks.zip vs).map fun kv => (kV kv.1, kv.2)) H3) →
    es.len = ks.length → tPairs (trsD T C W ks es) σ H2 Q
  | [], .nil, H2, G2, K, Q, he, hs, hr, h, k, _ => k [] [] H2 G2 hr (Ext.refl _ _) hs rfl (h H2 G2 rfl hr hs)
  | k0 :: ks, .nil, H2, G2, K, Q, he, hs, hr, h, k, hl => by simp [Es.len] at hl
  | [], .cons m ms, H2, G2, K, Q, he, hs, hr, h, k, hl => by simp [Es.len] at hl
  | k0 :: ks, .cons m ms, H2, G2, K, Q, he, hs, hr, h, k, hl => by
    unfold evDs at h
    refine ⟨ρ, G2, he, hs, PostR.runW (fun x => hr.ext x) h fun a H3 G3 x3 R3 S3 q3 v rv => ?_⟩
    cases a with
    | r n => exact q3.elim
    | d d =>
      refine tPairs_of ks ms (K := fun xs H G => K (d :: xs) H G) (he.mono x3.mon) S3 R3 ?_ ?_ (by simpa [Es.len] using hl)
      · have q3 : PostR T (Since H1 G1 p) ((evDs C ms ρ G3.st).bind fun xs st2 => .ok (d :: xs) st2) K := q3
        revert q3
        cases evDs C ms ρ G3.st with
        | ok xs st => exact fun q => q
        | exc _ _ _ => exact fun q => q
        | bad => exact fun q => q
      · intro xs vs H4 G4 R4 x4 S4 r4 kk
        exact k (d :: xs) (v :: vs) H4 G4 R4 (x3.trans x4) S4 ⟨v, vs, rfl, Rep.mono x4.mon.toMon rv, r4⟩ kk
/-- each member by itself -/
inductive EachE (T : Tb) (C : Oracle) (W : WX) (X : Cx) : Es → List Expr → Prop where
  | nil : EachE T C W X .nil []
  | cons {m : Es} {e : E} {f : Expr} {fs : List Expr} (h : PE X f (tE T C W e)) (r : EachE T C W X m fs) : EachE T C W X (.cons e m) (f :: fs)
theorem keyE_ok {X : Cx} : ∀ {k : L2.Key} {o : Option Expr}, keyE k o = true → ∃ f, o = some f ∧ PE X f (L2.tC (kV k))
  | .inl i, some (.Constant (.int j) _ _), h => ⟨_, rfl, by rw [show i = j from of_decide_eq_true h]; exact pe_int⟩
  | .inr i, some (.Constant (.str j) _ _), h => ⟨_, rfl, by rw [show i = j from of_decide_eq_true h]; exact pe_str⟩
  | .inl i, none, h => by cases h
  | .inr i, none, h => by cases h
  | .inl i, some e, h => by
    unfold keyE at h
    split at h
    · rename_i e1 e2
      cases e1
      cases e2
      exact ⟨_, rfl, by rw [show _ = _ from of_decide_eq_true h]; exact pe_int⟩
    · rename_i e1 e2
      cases e1
    · cases h
  | .inr i, some e, h => by
    unfold keyE at h
    split at h
    · rename_i e1 e2
      cases e1
    · rename_i e1 e2
      cases e1
      cases e2
      exact ⟨_, rfl, by rw [show _ = _ from of_decide_eq_true h]; exact pe_str⟩
    · cases h
theorem numE_ok {X : Cx} {i : Int} {e : Expr} (h : numE i e = true) : PE X e (L2.tC (.int i)) := by
  unfold numE at h
  split at h
  · rw [show i = _ from of_decide_eq_true h]
    exact pe_int
  · cases h
theorem dKeys_some : ∀ {ks : List L2.Key} {oks : List (Option Expr)}, dKeys ks oks = true → oks.length = ks.length ∧ oks.all (·.isSome) = true
  | [], [], _ => ⟨rfl, rfl⟩
  | [], _ :: _, h => by cases h
  | _ :: _, [], h => by cases h
  | k :: ks, o :: oks, h => by
    obtain ⟨h1, h2⟩ := and2 h
    obtain ⟨a, b⟩ := dKeys_some h2
    refine ⟨by simp [a], ?_⟩
    cases o with
    | none => cases k <;> cases h1
    | some f => simpa using b
theorem pps_of {X : Cx} {pos : Pos} : ∀ (ks : List L2.Key) (es : Es) (oks : List (Option Expr)) (fs : List Expr), dKeys ks oks = true → EachE T C W X es fs → fs.length = ks.length → PPs X pos oks fs (trsD T C W ks es)
  | [], _, [], _, _, .nil, _ => pps_nil
  | [], _, _ :: _, _, h, _, _ => by cases h
  | [], _, _, _, _, .cons _ _, hl => by simp at hl
  | _ :: _, _, _, _, _, .nil, hl => by simp at hl
  | _ :: _, _, [], _, h, _, _ => by cases h
  | k :: ks, _, o :: oks, _, h, .cons h1 hr, hl => by
    obtain ⟨h2, h3⟩ := and2 h
    obtain ⟨f, rfl, hf⟩ := keyE_ok (X := X) h2
    exact pps_cons hf h1 (pps_of ks _ oks _ h3 hr (by simpa using hl))
theorem dnw_pe {X : Cx} {ks : List L2.Key} {es : Es} {oks : List (Option Expr)} {fs : List Expr} {pos : Pos} (hk : dKeys ks oks = true) (hl : fs.length = ks.length) (h15 : ks.length ≤ 15) (hle : es.len = fs.length) (he : EachE T C W X es fs) : PE X (.Dict oks fs pos) (tE T C W (.dnw ks es)) := by
  obtain ⟨ol, oa⟩ := dKeys_some hk
  -- the end of both
  have fin : ∀ {H H1 : Hp} {G G1 : Wd} {p : Addr} {kvs : List (L2.Key × D)} {kus : List (L2.Key × V)} {Q : VK}, Post T W H G (.ok (.r G1.st.length) (G1.st ++ [.dic kvs])) (fun x H' G' => ∀ v, RepV T H' G' x v → Q v H') →
      H p = none → Ext H G H1 G1 → Sim T H1 (G1.priv p) → H1 p = some (.dK kus) → KU T H1 (G1.priv p) kvs kus → Q (.ref p) H1 := fun {H H1 G G1 p kvs kus Q} h hp x S e r => by
    obtain ⟨x2, S2⟩ := cell_app (cc := .dic kvs) rfl hp x S fun m => by
      obtain ⟨r1, r2⟩ := (r.mono m).to
      exact ⟨kus, e, r1, r2⟩
    refine h H1 ⟨G1.g ++ [(p, .dic kvs)], G1.ex⟩ (by simp [Wd.st]) x2 S2 _ ⟨p, .dic kvs, rfl, ?_⟩
    show (G1.g ++ [(p, Cell.dic kvs)])[G1.st.length]? = _
    rw [Wd.st_len, List.getElem?_append_right (Nat.le_refl _), Nat.sub_self]
    rfl
  by_cases hz : ks = []
  · subst hz
    have e1 := List.eq_nil_of_length_eq_zero ol
    have e2 := List.eq_nil_of_length_eq_zero hl
    subst e1 e2
    cases he
    refine PE.imp pe_dnewK fun σ H Q ⟨ρ, G, he, hs, q⟩ p hp => ?_
    have q : Post T W H G (.ok (.r G.st.length) (G.st ++ [.dic []])) (fun x H' G' => ∀ v, RepV T H' G' x v → Q v H') := q
    exact fin (H := H) q hp (Ext.obj _ hp) (hs.enter _ hp) upd_same rfl
  · refine PE.imp (pe_disp (pps_of ks es oks fs hk he hl) oa (by rw [ol, hl]) (fun z => hz (List.eq_nil_of_length_eq_zero (by rw [← ol, z]; rfl))) (by rw [ol]; exact h15)) fun σ H Q ⟨ρ, G, hen, hs, q⟩ p hp => ?_
    have s0 : Since H G p (upd H p (.dK [])) (G.priv p) := ⟨Ext.obj _ hp, rfl⟩
    have q2 : PostR T (Since H G p) (evDs C es ρ (G.priv p).st) fun xs H' G' => xs.length = ks.length ∧ Post T W H G (.ok (.r G'.st.length) (G'.st ++ [.dic (mergeD [] (ks.zip xs))])) (fun x H' G' => ∀ v, RepV T H' G' x v → Q v H') := by
      have q : Post T W H G (((evDs C es ρ G.st).quiet).bind fun xs st1 => if xs.length = ks.length ∧ ks.length ≤ 15 then .ok (.r st1.length) (st1 ++ [.dic (mergeD [] (ks.zip xs))]) else .bad) (fun x H' G' => ∀ v, RepV T H' G' x v → Q v H') := q
      rw [Wd.st_priv]
      revert q
      cases evDs C es ρ G.st with
      | ok xs st =>
        intro q H' G' e R S
        subst e
        simp only [Res.quiet_ok, Res.bind_ok] at q
        split at q
        · rename_i z
          exact ⟨z.1, q⟩
        · exact q.elim
      | exc _ _ _ => exact fun q => q
      | bad => exact fun q => q
    refine tPairs_of ks es (hen.mono (Mon.enter _ hp)) (hs.enter _ hp) s0 q2 (fun xs vs H3 G3 R3 x3 S3 r3 ⟨lx, q3⟩ => ?_) (by rw [hle, hl])
    have ep : H3 p = some (.dK []) := x3.keep p _ upd_same ((hs.enter (.dK []) hp).apart p List.mem_cons_self)
    refine ⟨ep, ks.zip vs, rfl, by have := r3.length; simp; omega, ?_⟩
    have R4 : Since H G p (upd H3 p (.dK (mergeK [] (ks.zip vs)))) G3 := R3.upd hp
    obtain ⟨S4, m4⟩ := S3.updp (o := .dK (mergeK [] (ks.zip vs))) (D := p) (by rw [R3.2]; exact List.mem_cons_self)
    have e2 : G3 = Wd.priv ⟨G3.g, G.ex⟩ p := by
      have := R3.2
      cases G3 with
      | mk g ex => simp only at this; rw [this]; rfl
    have q4 : Post T W H G (.ok (.r (Wd.st ⟨G3.g, G.ex⟩).length) (Wd.st ⟨G3.g, G.ex⟩ ++ [.dic (mergeD [] (ks.zip xs))])) (fun x H' G' => ∀ v, RepV T H' G' x v → Q v H') := q3
    have r4 : KU T (upd H3 p (.dK (mergeK [] (ks.zip vs)))) G3 (mergeD [] (ks.zip xs)) (mergeK [] (ks.zip vs)) := (KU.zip lx (r3.mono m4.toMon)).merge rfl
    rw [e2] at S4 r4
    exact fin q4 hp R4.1 S4 upd_same r4
/-! ### sorted, read, walked -/
theorem keysI_map : ∀ {kvs : List (L2.Key × D)} {ns : List Int}, keysI kvs = some ns → kvs.map (·.1) = ns.map Sum.inl
  | [], ns, h => by cases h; rfl
  | (.inl i, d) :: r, ns, h => by
    simp only [keysI] at h
    cases q : keysI r with
    | none => rw [q] at h; cases h
    | some ms =>
      rw [q] at h
      cases h
      simp [keysI_map q]
  | (.inr i, d) :: r, ns, h => by cases h
theorem sortd_pe {X : Cx} {m : E} {o : Bool} {e : Expr} {p q : Pos} (hX : XOk T P C lvl W X) (hb : bltOk P X.env.scope "sorted" = true) (hi : ixOk e = true) (h : PE X e (tE T C W m)) : PE X (.Call (.Name "sorted" p) [e] [] q) (tE T C W (.sortd o m)) := by
  obtain ⟨hg, hm⟩ := blt_mg hX.toXLt hb
  refine PE.imp (pe_callB (cr_sortDA hX.calm) hg hm (by decide +kernel) (pa_cons h pa_nil (star_cons hi)) (he := star_cons hi)) fun σ H Q ⟨ρ, G, he, hs, q⟩ => ?_
  refine tE_bind he hs q fun x v H1 G1 x1 s1 e1 r1 q1 => ?_
  cases x with
  | d d => exact q1.elim
  | r n =>
    have q1 : Post T W H1 G1 (match G1.st[n]? with
      | some (.dic kvs) => (match keysI kvs with
        | some ns => mk o ((sortI ns).map .int) G1.st
        | none => .bad)
      | _ => .bad) (fun x H' G' => ∀ v, RepV T H' G' x v → Q v H') := q1
    split at q1
    · rename_i kvs ec
      obtain ⟨a, kus, rfl, eg, eh, rk⟩ := dic_cell s1 r1 ec
      split at q1
      · rename_i ns ek
        exact ⟨a, kus, ns, rfl, .inl eh, by rw [rk.to.1]; exact keysI_map ek, fun p hp => mk_new q1 s1 (Reps.ints (sortI ns)) p hp⟩
      · exact q1.elim
    · exact q1.elim
theorem m2_ok {X : Cx} {o e f : Expr} {n : Str} {ap cp : Pos} (hl : (ap.endLine == cp.line) = true) (hn : noAttr o = true) (hi : ixOk e = true) (hi2 : ixOk f = true) : M2 X o n ap e f cp := by
  have e1 : starEach [e, f] X.env = [(false, eval e X.env), (false, eval f X.env)] := by rw [star_cons hi, star_cons hi2]; rfl
  exact ⟨noAttr_ok hn, by rw [e1]; rfl, hl, by rw [e1]; rfl⟩
theorem dget_pe {X : Cx} {d k x : E} {o e f : Expr} {ap cp : Pos} (hX : XOk T P C lvl W X) (hl : (ap.endLine == cp.line) = true) (hn : noAttr o = true) (hi : ixOk e = true) (hi2 : ixOk f = true) (ho : PE X o (tE T C W d)) (h : PE X e (tE T C W k)) (h2 : PE X f (tE T C W x)) :
    PE X (.Call (.Attribute o "get" ap) [e, f] [] cp) (tE T C W (.dget d k x)) := by
  refine PE.imp (pe_dget2 (hu_of hX.rm) ho h h2 (m2_ok hl hn hi hi2)) fun σ H Q ⟨ρ, G, he, hs, q⟩ => ?_
  refine tE_bind he hs q fun y v H1 G1 x1 s1 e1 r1 q1 => ?_
  split at q1
  · exact q1.elim
  · rename_i hL
    obtain ⟨a, ea, id⟩ := isDic_ok s1 r1 (by simpa using hL)
    refine ⟨a, ea, id, tE_bind e1 s1 q1 fun kk u H2 G2 x2 s2 e2 r2 q2 => tE_bind e2 s2 q2 fun z w H3 G3 x3 s3 e3 r3 q3 => ?_⟩
    replace r1 := (r1.mono x2.mon).mono x3.mon
    replace r2 := r2.mono x3.mon
    split at q3
    · rename_i n k' x'
      split at q3
      · rename_i key kvs ek ec
        obtain ⟨a', kus, ea', eg, eh, rk⟩ := dic_cell s3 r1 ec
        rw [ea] at ea'
        cases ea'
        have eu : u = kV key := dKey_ok ek r2
        subst eu
        refine ⟨valV kus key, DGet.k eh, ?_⟩
        rcases rk.val key with ⟨h1, h2⟩ | ⟨d', v', h1, h2, h3⟩
        · rw [h2]
          rw [h1] at q3
          exact q3.here s3 _ r3
        · rw [h2]
          rw [h1] at q3
          exact q3.here s3 _ h3
      · exact q3.elim
    · exact q3.elim
/-! a display that is read at once -/
def trsK : List (Str × Int) → List (TE × TE)
  | [] => []
  | p :: r => (L2.tC (.str p.1), L2.tC (.int p.2)) :: trsK r
theorem ppsK {X : Cx} {pos : Pos} : ∀ {kvs : List (Str × Int)} {oks : List (Option Expr)} {fs : List Expr}, dPairs kvs oks fs = true → PPs X pos oks fs (trsK kvs) ∧ oks.all (·.isSome) = true ∧ oks.length = fs.length ∧ oks.length = kvs.length
  | [], [], [], _ => ⟨pps_nil, rfl, rfl, rfl⟩
  | [], [], _ :: _, h => by cases h
  | [], _ :: _, _, h => by cases h
  | _ :: _, [], _, h => by cases h
  | _ :: _, _ :: _, [], h => by cases h
  | p :: r, o :: q, e :: u, h => by
    obtain ⟨h1, h2⟩ := and2 h
    obtain ⟨h1, h3⟩ := and2 h1
    obtain ⟨f, rfl, hf⟩ := keyE_ok (X := X) h1
    obtain ⟨a, b, c, d⟩ := ppsK (X := X) (pos := pos) h2
    exact ⟨pps_cons hf (numE_ok h3) a, by simpa using b, by simp [c], by simp [d]⟩
def kvK (kvs : List (Str × Int)) : List (L2.Key × V) := kvs.map fun p => (.inr p.1, .int p.2)
theorem tPairsK : ∀ (kvs : List (Str × Int)) {σ : L2.St} {H : Hp} {Q : List (V × V) → Hp → Prop}, Q ((kvK kvs).map fun kv => (kV kv.1, kv.2)) H → tPairs (trsK kvs) σ H Q
  | [], _, _, _, h => h
  | p :: r, _, _, _, h => tPairsK r h
theorem getS_merge (s : Str) : ∀ (kvs : List (Str × Int)) (acc : List (L2.Key × V)), (∀ p ∈ kvs, ∀ q ∈ kvs, True) → (kvs.map (·.1)).Nodup → (∀ p ∈ kvs, valV acc (.inr p.1) = none) → valV (mergeK acc (kvK kvs)) (.inr s) = ((getS kvs s).map V.int).or (valV acc (.inr s))
  | [], acc, _, _, _ => rfl
  | p :: r, acc, _, nd, h => by
    have nd' := List.nodup_cons.mp (by simpa using nd : (p.1 :: r.map (·.1)).Nodup)
    show valV (mergeK (putK acc (.inr p.1) (.int p.2)) (kvK r)) (.inr s) = _
    rw [getS_merge s r _ (fun _ _ _ _ => trivial) nd'.2 fun q hq => by
      rw [valV_put, if_neg, h q (List.mem_cons_of_mem _ hq)]
      intro e
      have e : q.1 = p.1 := by injection e
      exact nd'.1 (List.mem_map.mpr ⟨q, hq, e⟩)]
    rw [valV_put]
    by_cases e : p.1 = s
    · subst e
      rw [if_pos rfl]
      have h1 : getS r p.1 = none := by
        cases q : getS r p.1 with
        | none => rfl
        | some i =>
          simp only [getS, Option.map_eq_some_iff] at q
          obtain ⟨x, hx, _⟩ := q
          have := List.find?_some hx
          simp only [decide_eq_true_eq] at this
          exact absurd (List.mem_map.mpr ⟨x, List.mem_of_find?_eq_some hx, this⟩) nd'.1
      rw [h1]
      simp [getS]
    · rw [if_neg (by intro z; injection z with z; exact e z.symm)]
      have : getS (p :: r) s = getS r s := by simp [getS, List.find?_cons, e]
      rw [this]
theorem dgetK_pe {X : Cx} {kvs : List (Str × Int)} {k x : E} {oks : List (Option Expr)} {fs : List Expr} {e f : Expr} {ap cp dp : Pos} (hX : XOk T P C lvl W X) (hd : dPairs kvs oks fs = true) (h0 : 0 < kvs.length) (h15 : kvs.length ≤ 15) (nd : (kvs.map (·.1)).Nodup)
    (hl : (ap.endLine == cp.line) = true) (hi : ixOk e = true) (hi2 : ixOk f = true) (h : PE X e (tE T C W k)) (h2 : PE X f (tE T C W x)) :
    PE X (.Call (.Attribute (.Dict oks fs dp) "get" ap) [e, f] [] cp) (tE T C W (.dgetK kvs k x)) := by
  obtain ⟨pp, oa, ol, on⟩ := ppsK (X := X) (pos := dp) hd
  refine PE.imp (pe_dget2 (hu_of hX.rm) (pe_disp pp oa ol (fun z => by rw [z] at on; simp at on; omega) (by rw [on]; exact h15)) h h2 (m2_ok hl rfl hi hi2)) fun σ H Q ⟨ρ, G, he, hs, q⟩ p hp => ?_
  refine tPairsK kvs ⟨upd_same, kvK kvs, rfl, by simpa [kvK] using h15, ?_⟩
  rw [upd_upd]
  have eh0 : upd H p (.dK (mergeK [] (kvK kvs))) p = some (.dK (mergeK [] (kvK kvs))) := upd_same
  have nm : ¬ Mu G p := hs.fresh hp
  refine ⟨p, rfl, .inl ⟨_, .inl eh0⟩, ?_⟩
  have x0 : Ext H G (upd H p (.dK (mergeK [] (kvK kvs)))) G := Ext.obj _ hp
  have q := Post.ext x0 q
  refine tE_bind (he.mono x0.mon) (hs.obj _ hp) q fun kk u H2 G2 x2 s2 e2 r2 q2 => tE_bind e2 s2 q2 fun z w H3 G3 x3 s3 e3 r3 q3 => ?_
  have eh : H3 p = some (.dK (mergeK [] (kvK kvs))) := by
    have l1 : ¬ Lv G p := fun l => nm (.inl l)
    have h2 := x2.keep p _ eh0 l1
    refine x3.keep p _ h2 fun l => ?_
    rcases x2.mu (.inl l) with m | m
    · exact nm m
    · rw [eh0] at m; cases m
  split at q3
  · rename_i s d
    have r2 := (r2.mono x3.mon)
    have eu : u = .str s := r2.1
    subst eu
    refine ⟨valV (mergeK [] (kvK kvs)) (.inr s), DGet.k (k := .inr s) eh, ?_⟩
    rw [getS_merge s kvs [] (fun _ _ _ _ => trivial) nd fun _ _ => rfl]
    have q3 := q3.here s3
    cases es : getS kvs s with
    | none =>
      rw [es] at q3
      exact q3 _ r3
    | some i =>
      rw [es] at q3
      exact q3 _ rfl
  · exact q3.elim
theorem sI_keys {X : Cx} {m : E} {e tg : Expr} (hX : XOk T P C lvl W X) (h : PE X e (tE T C W m)) : PI X tg e (tI T C W (.keys m)) := by
  refine PI.imp (pi_keysL h) fun σ H R ⟨ρ, G, he, hs, q⟩ => tE_bind he hs q fun x v H1 G1 x1 s1 e1 r1 q1 => ?_
  cases x with
  | d d => exact q1.elim
  | r n =>
    have q1 : Post T W H1 G1 (match G1.st[n]? with
      | some (.dic kvs) => (match keysI kvs with
        | some ns => .ok (vls (ns.map .int)) (G1.st.set n .dead)
        | none => .bad)
      | _ => .bad) (fun xs H' G' => ∀ J, Turns T J xs H' G' → R J H') := q1
    split at q1
    · rename_i kvs ec
      split at q1
      · rename_i ns ek
        obtain ⟨ad, kus, rfl, eg, eh, rk⟩ := dic_cell s1 r1 ec
        have ks := keysI_map ek
        refine ⟨ad, kus, rfl, eh, fun o => ?_⟩
        obtain ⟨x4, s4⟩ := cell_set (c' := .dead) (o := .frz o (.dK kus)) s1 eg rfl fun m => trivial
        have nm : ¬ Mu ⟨G1.g.set n (ad, .dead), G1.ex⟩ ad := fun m => by
          rcases m with ⟨k, d, q, l⟩ | m
          · have q : (G1.g.set n (ad, Cell.dead))[k]? = some (ad, d) := q
            by_cases hk : n = k
            · subst hk
              rw [List.getElem?_set_self (List.getElem?_eq_some_iff.mp eg).1] at q
              cases q
              cases l
            · rw [List.getElem?_set_ne hk] at q
              exact hk (s1.inj k n ad d _ q eg l rfl).symm
          · exact s1.apart ad m ⟨n, _, eg, rfl⟩
        refine q1 _ _ st_set x4 s4 _ ?_
        have kept : ∀ {H2 : Hp} {G2 : Wd}, MonA (upd H1 ad (.frz o (.dK kus))) ⟨G1.g.set n (ad, .dead), G1.ex⟩ H2 G2 → H2 ad = some (.frz o (.dK kus)) := fun m => m.keep ad _ upd_same nm
        have hlen : kus.length = ns.length := by
          have h1 := congrArg List.length rk.to.1
          have h2 := congrArg List.length ks
          simp at h1 h2
          omega
        have hv : (vls (ns.map D.int)).length = ns.length := by rw [len_vls, List.length_map]
        refine ⟨fun i H2 G2 m S hi => ⟨kept m, by omega⟩, fun H2 G2 m S => ⟨kept m, by omega⟩, fun i H2 G2 x H3 m S hi y => ?_⟩
        obtain ⟨rfl, k, w, ek2, rfl⟩ := y
        have h2 : (kus.map (·.1))[i]? = some k := by rw [List.getElem?_map, ek2]; rfl
        rw [rk.to.1, ks, List.getElem?_map] at h2
        cases h3 : ns[i]? with
        | none => rw [h3] at h2; cases h2
        | some j =>
          rw [h3] at h2
          have h2 : Sum.inl j = k := Option.some.inj h2
          subst h2
          exact ⟨.d (.int j), get_vls (by rw [List.getElem?_map, h3]; rfl), Ext.refl _ _, S, rfl⟩
      · exact q1.elim
    · exact q1.elim
end
end Br

/-! Br8r: repr of data. -/
namespace Br
open PySem PySem.Spec PyProof.Rows L2
theorem reads_dct {P : Program} {w : World} {H : Hp} {s : Shared} {a : Addr} (hok : L2.HOk P w H s.heap) (h : Rd H a (.dK [])) : ∃ as, Reads s.heap (.ref a) (.dict []) as ∧ sysModules ∉ as := by
  obtain ⟨_, ns, vs, kv, hd⟩ := h.ok hok
  cases kv
  obtain ⟨ob, es, ep, e1, xd, dd, _, pr, _⟩ := hd
  have nil : es.toList = [] := by
    cases el : es.toList with
    | nil => rfl
    | cons x l =>
      rw [el] at pr
      cases pr
  refine ⟨_, Reads.dict (kvs := []) e1 xd.1 dd (by rw [nil]; exact .nil) (by rw [nil]; exact .nil), ?_⟩
  simp only [List.append_nil, List.mem_singleton]
  intro z
  rw [← z] at ns
  simp at ns
theorem reprD_str {d r : D} (h : reprD d = some r) : ∃ t, r = .str t ∧ okTxt t = true := by
  unfold reprD at h
  split at h
  · cases h
    exact ⟨_, rfl, by decide +kernel⟩
  · split at h
    · rename_i ok
      cases h
      unfold reprOk at ok
      exact ⟨_, rfl, (and2 ok).2⟩
    · cases h
theorem call_reprD {T : Tb} {lvl : Nat} {X : Cx} (hK : T.K = X.K) (hr : Room lvl X.A) (hg : X.A.guards = some []) : CallR X (.builtin "repr") (fun xs H Q => ∃ G d v r, xs = [v] ∧ Sim T H G ∧ RdD T H G d v ∧ reprD d = some (.str r) ∧ Q (.str r) H) := by
  intro pins s σ H xs us Q I rv h
  obtain ⟨G, d, v, r, rfl, S, rd, er, q⟩ := h
  obtain ⟨u, rfl, ru⟩ := vals1 rv
  have un := hr.un
  unfold reprD at er
  split at er
  · rename_i hd
    cases er
    cases d with
    | dct =>
      obtain ⟨a, rfl, t, _⟩ := rd
      obtain rfl : u = Value.ref a := ru
      obtain ⟨as, rr, na⟩ := reads_dct I.hok t
      exact repr_of_reads' rr rfl (fun _ => na) hg (by show X.A.units + (PyData.depth (.dict []) + 1) < cLine; have : PyData.depth (.dict []) ≤ 1 := by decide
                                                       omega) (fun _ _ e => e) (fun h' u tk hk => ⟨.str _, H, I.kept hk, ⟨_, rfl⟩, q⟩) (by decide)
    | _ => cases hd
  split at er
  · rename_i ok
    cases er
    unfold reprOk at ok
    obtain ⟨ok, ok4⟩ := and2 ok
    obtain ⟨ok, ok3⟩ := and2 ok
    obtain ⟨ok1, ok2⟩ := and2 ok
    have ok3 := of_decide_eq_true ok3
    have hsz : (toPy d).shown.length ≤ sizeLine := of_decide_eq_true (and2 ok4).2
    obtain ⟨dp, cl⟩ := RdD.dp ok1 rd
    rw [hK] at dp
    obtain ⟨as, rr⟩ := Dp.reads I _ _ _ dp ru
    have hnd := PyData.hasDict_of_canLay _ cl
    generalize toPy d = pd at ok2 ok3 hsz rr hnd q
    cases u with
    | ref a => exact repr_of_reads' rr ok2 (PyData.noDict_hsm hnd) hg (by omega) (fun _ _ e => e) (fun h' u tk hk => ⟨.str _, H, I.kept hk, ⟨_, rfl⟩, q⟩) hsz
    | none =>
      cases rr
      exact P.repr_of_none ⟨.str _, H, I.tok _, ⟨_, rfl⟩, q⟩
    | bool b =>
      cases rr
      exact P.repr_of_bool ⟨.str _, H, I.tok _, ⟨_, rfl⟩, q⟩
    | int i t =>
      cases rr
      exact P.repr_of_int (of_decide_eq_true ok2) ⟨.str _, H, I.tok _, ⟨_, rfl⟩, q⟩
    | str x t =>
      cases rr
      exact P.repr_of_str ⟨.str _, H, I.tok _, ⟨_, rfl⟩, q⟩ hsz
    | _ => cases rr
  · cases er
end Br

/-! Br8o: instances of own classes. -/
namespace Br
open PySem PySem.Spec PyProof.Rows L2
section
variable {T : Tb}
theorem ins_cell {H : Hp} {G : Wd} {n c : Nat} {fs : List (Str × Vl)} (S : Sim T H G) {v : V} (r : RepV T H G (.r n) v) (e : G.st[n]? = some (.ins c fs)) :
    ∃ a dx us, v = .ref a ∧ G.g[n]? = some (a, .ins c fs) ∧ H a = some (.ins (T.oa c) dx us) ∧ us.map (·.1) = fs.map (·.1) ∧ RepVs T H G (fs.map (·.2)) (us.map (·.2)) := by
  obtain ⟨a, cc, rfl, e1⟩ := r
  have e2 : G.st[n]? = some cc := by unfold Wd.st; rw [List.getElem?_map, e1]; rfl
  rw [e] at e2
  cases e2
  obtain ⟨dx, us, h1, h2, h3⟩ := S.cell n a _ e1
  exact ⟨a, dx, us, rfl, e1, h1, h2, h3⟩
/-- the fields side by side -/
theorem flds_get {H : Hp} {G : Wd} {f : Str} : ∀ {fs : List (Str × Vl)} {us : List (Str × V)}, us.map (·.1) = fs.map (·.1) → RepVs T H G (fs.map (·.2)) (us.map (·.2)) →
    (∀ x, fs.lookup f = some x → ∃ v, us.lookup f = some v ∧ RepV T H G x v) ∧ (fs.lookup f = none → us.lookup f = none)
  | [], [], _, _ => ⟨fun _ e => (by cases e), fun _ => rfl⟩
  | [], _ :: _, e, _ => by cases e
  | _ :: _, [], e, _ => by cases e
  | (g, x) :: fs, (g', v) :: us, e, r => by
    obtain ⟨v', vs, er, r1, rs⟩ := r
    cases er
    simp only [List.map_cons, List.cons.injEq] at e
    obtain ⟨e1, e2⟩ := e
    subst e1
    have ih := flds_get (f := f) e2 rs
    by_cases h : f = g'
    · have hb : (f == g') = true := beq_iff_eq.mpr h
      simp only [List.lookup, hb]
      exact ⟨fun y ey => (by cases ey; exact ⟨v, rfl, r1⟩), fun ey => (by cases ey)⟩
    · have hb : (f == g') = false := beq_eq_false_iff_ne.mpr h
      simp only [List.lookup, hb]
      exact ih
theorem setF_put {H : Hp} {G : Wd} {f : Str} {y : Vl} {u : V} : ∀ {fs : List (Str × Vl)} {us : List (Str × V)}, us.map (·.1) = fs.map (·.1) → RepVs T H G (fs.map (·.2)) (us.map (·.2)) → RepV T H G y u →
    (putF f u us).map (·.1) = (setF f y fs).map (·.1) ∧ RepVs T H G ((setF f y fs).map (·.2)) ((putF f u us).map (·.2))
  | [], [], _, _, r => ⟨rfl, ⟨u, [], rfl, r, rfl⟩⟩
  | [], _ :: _, e, _, _ => by cases e
  | _ :: _, [], e, _, _ => by cases e
  | (g, x) :: fs, (g', v) :: us, e, r, ry => by
    obtain ⟨v', vs, er, r1, rs⟩ := r
    cases er
    simp only [List.map_cons, List.cons.injEq] at e
    obtain ⟨e1, e2⟩ := e
    subst e1
    obtain ⟨i1, i2⟩ := setF_put (f := f) e2 rs ry
    unfold setF putF
    dsimp only
    by_cases h : g' = f
    · rw [if_pos h, if_pos h]
      exact ⟨by simp [e2], ⟨u, _, rfl, ry, rs⟩⟩
    · rw [if_neg h, if_neg h]
      exact ⟨by simp [i1], ⟨v, _, rfl, r1, i2⟩⟩
end
section
variable {T : Tb} {P : Pg} {C : Oracle} {lvl : Nat} {W : WX}
theorem fldOk_ok {X : Cx} {c : Nat} {f : Str} (hX : XOk T P C lvl W X) (h : fldOk P c f = true) : Cls X.K (T.oa c) ∧ NoAttr X.K (T.oa c) f := by
  obtain ⟨o, e, h⟩ := opt_ok h
  have z := hX.oc c o e
  exact ⟨z.cl, z.fl f (by simpa using h)⟩
theorem sE_fldI {X : Cx} {c : Nat} {f : Str} {m : E} {e : Expr} {p : Pos} (hX : XOk T P C lvl W X) (hf : fldOk P c f = true) (hn : noAttr e = true) (h : PE X e (tE T C W m)) : PE X (.Attribute e f p) (tE T C W (.fldI c m f)) := by
  refine PE.imp (pe_fld h (noAttr_ok hn)) fun σ H Q ⟨ρ, G, he, hs, q⟩ => tE_bind he hs q fun x v H1 G1 x1 s1 e1 r1 q1 => ?_
  split at q1
  · rename_i n
    split at q1
    · rename_i c' fs ec
      split at q1
      · rename_i hc
        subst hc
        split at q1
        · rename_i y ey
          obtain ⟨a, dx, us, rfl, eg, eh, ek, rs⟩ := ins_cell s1 r1 ec
          obtain ⟨w, ew, rw⟩ := (flds_get (f := f) ek rs).1 y ey
          obtain ⟨k, oo⟩ := fldOk_ok hX hf
          exact ⟨a, T.oa c', dx, us, w, rfl, eh, k, oo, ew, q1.here s1 w rw⟩
        · exact q1.elim
      · exact q1.elim
    · exact q1.elim
  · exact q1.elim
theorem isIns_ok {H : Hp} {G : Wd} {c : Nat} {m : Str} {x : Vl} {v : V} (S : Sim T H G) (r : RepV T H G x v) (h : isIns c m G.st x = true) : ∃ a dx us, v = .ref a ∧ H a = some (.ins (T.oa c) dx us) ∧ us.lookup m = none := by
  unfold isIns at h
  split at h
  · rename_i n
    split at h
    · rename_i c' fs ec
      obtain ⟨h1, h2⟩ := and2 h
      have hc : c' = c := beq_iff_eq.mp h1
      subst hc
      obtain ⟨a, dx, us, rfl, eg, eh, ek, rs⟩ := ins_cell S r ec
      exact ⟨a, dx, us, rfl, eh, (flds_get (f := m) ek rs).2 (by simpa using h2)⟩
    · cases h
  · cases h
theorem few_ok {as : List Expr} {env : PySem.Env} {q : Pos} (hi : ∀ e ∈ as, ixOk e = true) (hl : as.length < 25) : methodCallForm (as.length + ([] : List Keyword).length) (backTo q (starEach as env)) (backToKw q (keywordEach [] env)) = true := by
  have z : (backTo q (starEach as env)).any (·.1) = false := star_any hi
  have z2 : (backTo q (starEach as env)).all (fun x => !x.1) = true := by
    rw [List.all_eq_not_any_not]
    simpa using z
  unfold methodCallForm
  refine Bool.and_eq_true_iff.mpr ⟨Bool.and_eq_true_iff.mpr ⟨z2, rfl⟩, decide_eq_true ?_⟩
  show as.length + 0 + 0 < 30
  omega
theorem tEs_nil {σ : L2.St} {H : Hp} {Q : List V → Hp → Prop} (h : tEs T C W .nil σ H Q) : tNil σ H Q := by
  obtain ⟨ρ, G, he, hs, q⟩ := h
  exact q.here hs [] rfl
theorem nil_of {N : List Str} {es : Es} {sc : Scope} (h : chkEs P N es sc [] = true) : es = .nil := by
  cases es with
  | nil => rfl
  | cons e es =>
    obtain ⟨f, e1, _⟩ := opt_ok h
    cases e1
theorem fn_at {X : Cx} {k : Nat} (hX : XOk T P C lvl W X) (h : k < P.fns.length) : ∃ fd ps, FnG X.prog X.w X.K X.mg X.base (L2N.CX X.prog X.w) lvl (T.fa k) fd ps (spOf T P C k) ∧ Binds X.K fd ps [] :=
  (hX.fn k P.fns[k] (List.getElem?_eq_getElem h)).2.2
theorem sE_meth {X : Cx} {w : Bool} {c k : Nat} {m : Str} {a : E} {es : Es} {o : Expr} {as : List Expr} {ap q : Pos} (hX : XOk T P C lvl W X) (hm : metOk P c m k = true) (hl : (ap.endLine == q.line) = true) (hn : noAttr o = true) (hz : as.length < 25) (hc : chkEs P X.N es X.env.scope as = true) (hi : ∀ e ∈ as, ixOk e = true)
    (ho : PE X o (tE T C W a)) (h : PA X as (tEs T C W es)) : PE X (.Call (.Attribute o m ap) as [] q) (tE T C W (.meth w c m k a es)) := by
  obtain ⟨oc, eo, hmm⟩ := opt_ok hm
  obtain ⟨hmm, hk⟩ := and2 hmm
  have z := hX.oc c oc eo
  have mt : Meth X.K (T.oa c) m (T.fa k) := z.ms (m, k) (by simpa using hmm)
  obtain ⟨fd, ps, F, B⟩ := fn_at hX (of_decide_eq_true hk)
  have key : ∀ t : TA, (∀ (σ : L2.St) (H : Hp) (Q : List V → Hp → Prop), tEs T C W es σ H Q → t σ H Q) → PE X (.Call (.Attribute o m ap) as [] q) (tMethS (T.oa c) m (spOf T P C k) (WE W) (tE T C W a) t) → PE X (.Call (.Attribute o m ap) as [] q) (tE T C W (.meth w c m k a es)) := fun t ht hp =>
    PE.imp hp fun σ H Q ⟨ρ, G, he, hs, q⟩ => tE_bind he hs q fun x v H1 G1 x1 s1 e1 r1 q1 => by
      split at q1
      · rename_i hI
        obtain ⟨ad, dx, us, rfl, eh, el⟩ := isIns_ok s1 r1 hI
        refine ⟨ad, dx, us, rfl, eh, el, ht _ _ _ ⟨ρ, G1, e1, s1, Post.bind q1 fun xs H2 G2 x2 s2 q2 vs r => ?_⟩⟩
        have r1' := r1.mono x2.mon
        have q3 : Post T W H2 G2 (C k (x :: xs) G2.st) (fun x H' G' => ∀ v, RepV T H' G' x v → Q v H') := by
          cases w with
          | false => exact fin_ok s2 q2
          | true => exact fino_ok s2 q2
        obtain ⟨f, hf, hl⟩ := hX.len k (x :: xs) G2.st q3.nebad
        refine ⟨x :: xs, G2, f, hf, hl, ⟨_, vs, rfl, r1', r⟩, s2, ?_⟩
        revert q3
        generalize C k (x :: xs) G2.st = r
        intro q3
        cases r with
        | ok a st => exact q3
        | exc c fs st => exact fun σ' dx H' G' e y S z => q3 σ dx H' G' e y S z
        | bad => exact q3
      · exact q1.elim
  cases as with
  | nil =>
    have e := nil_of hc
    subst e
    exact key tNil (fun _ _ _ z => tEs_nil z) (pe_methG0 ho z.cl mt F hX.rm hX.gd B (fun σ => L2N.passAt hX.takes σ) (noAttr_ok hn) hl)
  | cons e as =>
    exact key _ (fun _ _ _ z => z) (pe_methG ho z.cl mt F hX.rm hX.gd B (fun σ => L2N.passAt hX.takes σ) h (noAttr_ok hn) (few_ok hi hz) hl (star_cons (hi e List.mem_cons_self)) (star_any fun x hx => hi x (List.mem_cons_of_mem _ hx)))
theorem sE_new {X : Cx} {c k : Nat} {x : Str} {es : Es} {as : List Expr} {p q : Pos} (hX : XOk T P C lvl W X) (hm : iniOk P c k x = true) (hb : glOk X.env.scope x = true) (hc : chkEs P X.N es X.env.scope as = true) (hi : ∀ e ∈ as, ixOk e = true)
    (h : PA X as (tEs T C W es)) : PE X (.Call (.Name x p) as [] q) (tE T C W (.new c k es)) := by
  obtain ⟨oc, eo, hmm⟩ := opt_ok hm
  obtain ⟨hmm, hk⟩ := and2 hmm
  obtain ⟨h1, h2⟩ := and2 hmm
  have h1 : oc.ini = k := of_decide_eq_true h1
  have h2 : oc.name = x := of_decide_eq_true h2
  subst h1 h2
  have z := hX.oc c oc eo
  obtain ⟨fd, ps, F, B⟩ := fn_at hX (of_decide_eq_true hk)
  obtain ⟨hg, hd, _⟩ := gl_ok hb
  have key : ∀ t : TA, (∀ (σ : L2.St) (H : Hp) (Q : List V → Hp → Prop), tEs T C W es σ H Q → t σ H Q) → PE X (.Call (.Name oc.name p) as [] q) (tMakeS (T.oa c) (spOf T P C oc.ini) (WE W) t) → PE X (.Call (.Name oc.name p) as [] q) (tE T C W (.new c oc.ini es)) := fun t ht hp =>
    PE.imp hp fun σ H Q ⟨ρ, G, he, hs, q⟩ => ht _ _ _ ⟨ρ, G, he, hs, Post.bind q fun xs H1 G1 x1 s1 q1 vs r x dx hx hdx ne => by
      have hx2 : upd H1 dx (.own x) x = none := by rw [upd_ne (fun e => ne e.symm)]; exact hx
      have S2 := s1.obj (.own x) hdx
      have X2 : Ext H1 G1 (upd H1 dx (.own x)) G1 := Ext.obj _ hdx
      obtain ⟨X3, S3⟩ := cell_app (T := T) (cc := .ins c []) (H := upd H1 dx (.own x)) (G := G1) (G1 := G1) rfl hx2 (Ext.obj (.ins (T.oa c) dx []) hx2) (S2.enter (.ins (T.oa c) dx []) hx2) fun m => ⟨dx, [], upd_same, rfl, rfl⟩
      have X4 := X2.trans X3
      have gl : (G1.g ++ [(x, Cell.ins c [])])[G1.st.length]? = some (x, .ins c []) := by
        rw [Wd.st_len, List.getElem?_append_right (Nat.le_refl _), Nat.sub_self]
        rfl
      have q2 : Post T W H1 G1 (newR C c oc.ini xs G1.st) (fun x H' G' => ∀ v, RepV T H' G' x v → Q v H') := q1
      have est : (⟨G1.g ++ [(x, .ins c [])], G1.ex⟩ : Wd).st = G1.st ++ [.ins c []] := by
        unfold Wd.st
        simp
      have hnb : C oc.ini (.r G1.st.length :: xs) (G1.st ++ [.ins c []]) ≠ .bad := fun e => by
        unfold newR at q2
        rw [e] at q2
        exact q2
      obtain ⟨f, hf, hl⟩ := hX.len _ _ _ hnb
      refine ⟨.r G1.st.length :: xs, ⟨G1.g ++ [(x, .ins c [])], G1.ex⟩, f, hf, hl, ⟨_, vs, rfl, ⟨x, _, rfl, gl⟩, r.mono X4.mon⟩, S3, ?_⟩
      rw [est]
      unfold newR at q2
      revert q2
      generalize C oc.ini (.r G1.st.length :: xs) (G1.st ++ [.ins c []]) = r
      intro q2
      cases r with
      | ok a st =>
        cases a with
        | r n => exact q2.elim
        | d d =>
          cases d with
          | non =>
            intro H' G' e y S v rv
            refine ⟨rv, ?_⟩
            obtain ⟨c', ec⟩ := y.addr _ _ _ gl
            exact q2 H' G' e (X4.trans y) S (.ref x) ⟨x, c', rfl, ec⟩
          | _ => exact q2.elim
      | exc d fs st =>
        have q3 := fin_ok s1 q2
        exact fun σ' dx H' G' e y S z => q3 σ dx H' G' e (X4.trans y) S z
      | bad => exact q2.elim⟩
  cases as with
  | nil =>
    have e := nil_of hc
    subst e
    exact key tNil (fun _ _ _ z => tEs_nil z) (pe_makeG0 z.mkd F hX.mkr hg z.mgc B (fun σ => L2N.passAt hX.takes σ) hd)
  | cons e as =>
    exact key _ (fun _ _ _ z => z) (pe_makeG z.mkd F hX.mkr hg z.mgc B (fun σ => L2N.passAt hX.takes σ) h hd (star_cons (hi e List.mem_cons_self)) (star_any fun x hx => hi x (List.mem_cons_of_mem _ hx)))
end
end Br

/-! Br9: expressions as a whole. -/
namespace Br
open PySem PySem.Spec PyProof.Rows L2
section
variable {T : Tb} {P : Pg} {C : Oracle} {lvl : Nat}
theorem stores_blk {X : Cx} {s : Shared} {H : Hp} {scope : Scope} {cl : List (Str × Addr)} {Ca : Addr} {fp : List Addr} (hN : X.N.Nodup) {x : Str} (h : loc scope x = true) : Stores (X.blk s H scope (compEnvC scope cl Ca X.env) fp) x := by
  rcases loc_ok h with h | h
  · have e : (relS scope X.env.scope).names.lookup x = some .local := lookup_relS_keep (by decide) h
    exact ⟨hN, .inl e, .inr e⟩
  · have e : (relS scope X.env.scope).names.lookup x = some .cell := lookup_relS_keep (by decide) h
    exact ⟨hN, .inr e, .inl (by show (scope.names.lookup x == some NameKind.cell) = true; rw [h]; rfl)⟩
/-- an expression that stands as a test by its truth -/
def asTest : Expr → Bool
  | .UnaryOp .Not _ _ => false
  | .BoolOp .. => false
  | .IfExp .. => false
  | .Compare .. => false
  | _ => true
theorem sT_val {X : Cx} {W : WX} {m : E} {e : Expr} (ht : asTest e = true) (h : PE X e (tE T C W m)) : PT X e (tT T C W m) :=
  PT.imp (pt_val h (by
    intro whole
    cases e <;> first | rfl | (cases ht; done) | skip
    rename_i op a p
    cases op <;> first | rfl | cases ht)) fun σ H Q h => tt_here h
theorem PE.none {X : Cx} {W : WX} {e : Expr} {m : E} (h : ∀ ρ st, evE C m ρ st = .bad) : PE X e (tE T C W m) := ⟨fun pins s σ H Q I ⟨ρ, G, he, hs, q⟩ => by
  rw [h] at q
  exact False.elim q⟩
theorem sI_none {X : Cx} {W : WX} {e tg : Expr} {m : It} (h : ∀ ρ st, evI C m ρ st = .bad) : PI X tg e (tI T C W m) := ⟨fun pins s σ H Q I ⟨ρ, G, he, hs, q⟩ => by
  rw [h] at q
  exact False.elim q⟩
/-- a value and, where it may stand there, a test -/
def Both (T : Tb) (C : Oracle) (X : Cx) (W : WX) (m : E) (e : Expr) : Prop :=
  PE X e (tE T C W m) ∧ (tOk m = true → PT X e (tT T C W m)) ∧ (tOk m = true → (∃ op vs p, e = .BoolOp op vs p) → PW X e (tT T C W m))
theorem both_val {X : Cx} {W : WX} {m : E} {e : Expr} (ht : asTest e = true) (h : PE X e (tE T C W m)) : Both T C X W m e :=
  ⟨h, fun _ => sT_val ht h, fun _ ⟨op, vs, p, e⟩ => by subst e; cases ht⟩
theorem slot_var {X : Cx} {W : WX} {i : Nat} {x : Str} {p : Pos} (h : slotOk X.N X.env.scope i x = true) : PE X (.Name x p) (tE T C W (.var i)) := by
  obtain ⟨a1, a2, a3, a4⟩ := slot_ok h
  refine PE.imp (pe_var a1 a2 a3 a4) fun σ H Q ⟨ρ, G, he, hs, q⟩ => ?_
  have q : Post T W H G (match ρ[i]? with
    | some (some v) => .ok v G.st
    | _ => .bad) fun x H' G' => ∀ v, RepV T H' G' x v → Q v H' := q
  split at q
  · rename_i v ev
    obtain ⟨u, e1, r⟩ := he.2 i v ev
    exact ⟨u, e1, q.here hs u r⟩
  · exact q.elim
theorem glb_pe {X : Cx} {W : WX} (hX : XOk T P C lvl W X) {x : Str} {v : D} {p : Pos} (h2 : glOk X.env.scope x = true) (h3 : P.glb.lookup x = some v) : PE X (.Name x p) (tE T C W (.glb x v)) := by
  obtain ⟨u, z, g1, g2, g3⟩ := hX.glb x v h3
  obtain ⟨hg, hd, _⟩ := gl_ok h2
  exact PE.imp (pe_glob hg g1 g2 hd) fun σ H Q ⟨ρ, G, he, hs, q⟩ => q.here hs z (g3 H G)
theorem cpy_pe {X : Cx} {W : WX} {m : E} {e : Expr} {p q : Pos} (hX : XOk T P C lvl W X) (hb : bltOk P X.env.scope "list" = true) (hi : ixOk e = true) (h : PE X e (tE T C W m)) : PE X (.Call (.Name "list" p) [e] [] q) (tE T C W (.cpy m)) := by
  obtain ⟨hg, hm⟩ := blt_mg hX.toXLt hb
  refine PE.imp (pe_callTy (call_list_of (X := X)) hg hm (by decide +kernel) (pa_cons h pa_nil (star_cons hi)) (he := star_cons hi)) fun σ H Q ⟨ρ, G, he, hs, q⟩ => ?_
  refine tE_bind he hs q fun x v H1 G1 x1 s1 e1 r1 q1 => ?_
  obtain ⟨d, hd, q2⟩ := one_ok s1 r1 q1
  cases d with
  | tup xs =>
    obtain ⟨a, us, ea, t, rs⟩ := hd.tup
    subst ea
    exact ⟨a, us, rfl, .inr (hX.K ▸ t), mk_new q2 s1 rs⟩
  | lst xs =>
    obtain ⟨a, us, ea, t, rs⟩ := hd.lst
    subst ea
    exact ⟨a, us, rfl, .inl (hX.K ▸ t), mk_new q2 s1 rs⟩
  | kst xs =>
    obtain ⟨a, us, ea, t, rs⟩ := hd.kst
    subst ea
    exact ⟨a, us, rfl, .inl (hX.K ▸ t), mk_new q2 s1 rs⟩
  | _ => exact False.elim q2
theorem l1_pe {X : Cx} {W : WX} {m : E} {o : Bool} {f : L1} {e : Expr} {p q : Pos} (hX : XOk T P C lvl W X) (hf : l1Ok f = true) (hb : bltOk P X.env.scope (l1N f) = true) (hi : ixOk e = true) (h : PE X e (tE T C W m)) : PE X (.Call (.Name (l1N f) p) [e] [] q) (tE T C W (.l1 o f m)) := by
  obtain ⟨hg, hm⟩ := blt_mg hX.toXLt hb
  cases f with
  | sorted =>
    refine PE.imp (pe_callB (cr_sortD (T := T) hX.K hX.room) hg hm (by decide +kernel) (pa_cons h pa_nil (star_cons hi)) (he := star_cons hi)) fun σ H Q ⟨ρ, G, he, hs, q⟩ => ?_
    refine tE_bind he hs q fun x v H1 G1 x1 s1 e1 r1 q1 => ?_
    obtain ⟨d, hd, q2⟩ := one_ok s1 r1 q1
    cases ex : l1D .sorted d with
    | none => rw [ex] at q2; exact False.elim q2
    | some zs =>
      rw [ex] at q2
      cases d with
      | lst xs =>
        obtain ⟨a, us, ea, t, rs⟩ := hd.lst
        subst ea
        simp only [l1D] at ex
        split at ex
        · rename_i ok
          cases ex
          exact ⟨a, G1, xs, us, rfl, t, rs, ok, fun ws p rw hp => mk_new q2 s1 rw p hp⟩
        · cases ex
      | _ => cases ex
  | _ => cases hf
theorem rd_upd {H : Hp} {a z : Addr} {u o : HO} (h : Rd H a u) (hz : H z = none) : Rd (upd H z o) a u := by
  have hne : ∀ v, H a = some v → a ≠ z := fun v e k => by
    rw [k, hz] at e
    cases e
  rcases h with h | ⟨v, h⟩
  · exact .inl (by rw [upd_ne (hne _ h)]; exact h)
  · exact .inr ⟨v, by rw [upd_ne (hne _ h)]; exact h⟩
theorem sumcat_pe {X : Cx} {W : WX} {m : E} {o : Bool} {e : Expr} {p p2 p3 q : Pos} (hX : XOk T P C lvl W X) (hb : bltOk P X.env.scope "sum" = true) (hi : ixOk e = true) (h : PE X e (tE T C W m)) :
    PE X (.Call (.Name "sum" p) [e] [⟨some "start", .List [] p2, p3⟩] q) (tE T C W (.l1 o .sumcat m)) := by
  obtain ⟨hg, hm⟩ := blt_mg hX.toXLt hb
  refine PE.imp (pe_callBK (cr_sumL (T := T) hX.K hX.calm) hg hm (by decide +kernel) (pa_cons h pa_nil (star_cons hi)) (pk_cons (pe_lst pa_nil) pk_nil) (he := by rw [star_cons hi]; rfl) (hpl := by rw [star_cons hi]; rfl)) fun σ H Q ⟨ρ, G, he, hs, q⟩ => ?_
  refine tE_bind he hs q fun x v H1 G1 x1 s1 e1 r1 q1 => ?_
  obtain ⟨d, hd, q2⟩ := one_ok s1 r1 q1
  cases ex : l1D .sumcat d with
  | none => rw [ex] at q2; exact False.elim q2
  | some zs =>
    rw [ex] at q2
    cases d with
    | lst xs =>
      obtain ⟨a, us, ea, t, rs⟩ := hd.lst
      subst ea
      simp only [l1D, Option.bind_eq_some_iff] at ex
      obtain ⟨es, ec, hz⟩ := ex
      split at hz
      · rename_i hlen
        cases hz
        refine ⟨by simp [sizeLine_eq], fun z hz => ?_⟩
        have m2 : Mon H1 G1 (upd H1 z (.lst [])) G1 := (Ext.obj _ hz).mon.toMon
        have t2 : SqL T.K (upd H1 z (.lst [])) a us := by
          rcases t with t | t
          · exact .inl (rd_upd t hz)
          · exact .inr t
        refine ⟨a, z, G1, xs, zs, us, rfl, rfl, t2, rs.mono m2, upd_same, ec, by rw [sizeLine_eq]; omega, fun en => ?_, fun ws p rw hp => ?_⟩
        · subst en
          cases ec
          exact mk_ok q2 hz (Ext.obj _ hz) (s1.enter _ hz) upd_same rfl
        · have hp1 : H1 p = none := by
            by_cases e : p = z
            · rw [e]; exact hz
            · rwa [upd_ne e] at hp
          exact mk_ok q2 hp1 ((Ext.obj _ hz).trans (Ext.obj _ hp)) ((s1.obj _ hz).enter _ hp) upd_same (rw.mono (Mon.enter _ hp).toMon)
      · cases hz
    | _ => cases ex
theorem CallR.either {X : Cx} {f : Value} {r r' : List V → Hp → VK → Prop} (h : CallR X f r) (h' : CallR X f r') : CallR X f (fun vs H Q => r vs H Q ∨ r' vs H Q) := fun pins s σ H xs us Q I rv q => q.elim (h pins s σ H xs us Q I rv) (h' pins s σ H xs us Q I rv)
theorem setOk_nums {xs : List D} (h : setOk xs = true) (t : xs.all tupN = true) (ne : xs ≠ []) : (∀ d ∈ xs, numD d = true ∧ tupN d = true ∧ (toPy d).depth ≤ 8) ∧ xs.length ≤ 4 := by
  simp only [setOk, Bool.and_eq_true, Bool.or_eq_true, List.all_eq_true, decide_eq_true_eq] at h t
  obtain ⟨⟨_, n⟩, h | h⟩ := h
  · exact ⟨fun d hd => ⟨n d hd, h.1.1 d hd, h.2 d hd⟩, h.1.2⟩
  · obtain ⟨x, hx⟩ := List.exists_mem_of_ne_nil xs ne
    have h1 := h.1 x hx
    have h2 := t x hx
    cases x <;> first | cases h1; done | cases h2
theorem setOk_ints {xs : List D} (h : setOk xs = true) (t : xs.all tupN = false ∨ xs = []) : ∃ ns : List Int, xs = ns.map .int ∧ ns.length < 60 := by
  simp only [setOk, Bool.and_eq_true, Bool.or_eq_true, List.all_eq_true, decide_eq_true_eq] at h
  rcases t with t | t
  · obtain ⟨_, h | h⟩ := h
    · rw [List.all_eq_true.mpr h.1.1] at t
      cases t
    · obtain ⟨h1, h2⟩ := h
      have key : ∀ l : List D, (∀ x ∈ l, isIntD x = true) → ∃ ns : List Int, l = ns.map .int := by
        intro l
        induction l with
        | nil => intro _; exact ⟨[], rfl⟩
        | cons x l ih =>
          intro h
          obtain ⟨ns, e⟩ := ih fun y hy => h y (List.mem_cons_of_mem _ hy)
          have hx := h x List.mem_cons_self
          cases x with
          | int i => exact ⟨i :: ns, by rw [e]; rfl⟩
          | _ => cases hx
      obtain ⟨ns, e⟩ := key xs h1
      exact ⟨ns, e, by rw [e, List.length_map] at h2; exact h2⟩
  · exact ⟨[], by rw [t]; rfl, by decide⟩
theorem sortset_pe {X : Cx} {W : WX} {m : E} {o : Bool} {e : Expr} {p q p2 q2 : Pos} (hX : XOk T P C lvl W X) (hb : bltOk P X.env.scope "sorted" = true) (hb2 : bltOk P X.env.scope "set" = true) (hi : ixOk e = true) (h : PE X e (tE T C W m)) :
    PE X (.Call (.Name "sorted" p) [.Call (.Name "set" p2) [e] [] q2] [] q) (tE T C W (.l1 o .sortset m)) := by
  obtain ⟨hg, hm⟩ := blt_mg hX.toXLt hb
  obtain ⟨hg2, hm2⟩ := blt_mg hX.toXLt hb2
  refine PE.imp (pe_callB (CallR.either (cr_sortN (T := T) hX.K hX.room hX.calm) (cr_sortI hX.calm)) hg hm (by decide +kernel) (pa_cons (pe_callTy (CallR.either (cr_setN (T := T) hX.K hX.room hX.calm) (cr_setI (T := T) hX.K hX.calm)) hg2 hm2 (by decide +kernel) (pa_cons h pa_nil (star_cons hi)) (he := star_cons hi)) pa_nil (star_cons rfl)) (he := star_cons rfl)) fun σ H Q ⟨ρ, G, he, hs, q⟩ => ?_
  refine tE_bind he hs q fun x v H1 G1 x1 s1 e1 r1 q1 => ?_
  obtain ⟨d, hd, q2⟩ := one_ok s1 r1 q1
  cases ex : l1D .sortset d with
  | none => rw [ex] at q2; exact False.elim q2
  | some zs =>
    rw [ex] at q2
    have nest : ∀ (a : Addr) (xs : List D) (us : List V), v = .ref a → (SqT T.K H1 a us ∨ SqL T.K H1 a us) → Reps T H1 G1 xs us → (setOk xs = true → (∀ d ∈ xs, numD d = true ∧ tupN d = true ∧ (toPy d).depth ≤ 8) ∧ xs.length ≤ 4) → sortsetD xs = some zs →
        (rSetN T X.w [v] H1 fun x H2 => (rSortN T X.w [x] H2 Q ∨ rSortI X.w [x] H2 Q)) := fun a xs us ea t rs tn es => by
      subst ea
      unfold sortsetD at es
      split at es
      · rename_i ok
        cases es
        obtain ⟨n1, n2⟩ := tn ok
        refine ⟨a, G1, xs, us, rfl, t, rs, n1, n2, fun b L hb nd back all => .inl ?_⟩
        have m2 : Mon H1 G1 (upd H1 b (NSetO X.w b L)) G1 := (Ext.obj _ hb).mon.toMon
        refine ⟨b, L, G1, xs, rfl, upd_same, fun p hp => ?_, all, ok, fun d hd => (n1 d hd).2.1, fun ws p rw hp => ?_⟩
        · obtain ⟨d, h1, h2, h3⟩ := back p hp
          exact ⟨d, h1, h2, h3.mono m2⟩
        · have hp1 : H1 p = none := by
            by_cases e : p = b
            · rw [e]; exact hb
            · rwa [upd_ne e] at hp
          exact mk_ok q2 hp1 ((Ext.obj _ hb).trans (Ext.obj _ hp)) ((s1.obj _ hb).enter _ hp) upd_same (rw.mono (Mon.enter _ hp).toMon)
      · cases es
    have intc : ∀ (a : Addr) (xs : List D) (us : List V), v = .ref a → SqT T.K H1 a us → Reps T H1 G1 xs us → (xs.all tupN = false ∨ xs = []) → sortsetD xs = some zs →
        (rSetI T X.w [v] H1 fun x H2 => (rSortN T X.w [x] H2 Q ∨ rSortI X.w [x] H2 Q)) := fun a xs us ea t rs tn es => by
      subst ea
      unfold sortsetD at es
      split at es
      · rename_i ok
        cases es
        obtain ⟨ns, en, few⟩ := setOk_ints ok tn
        subst en
        have eu := reps_ints (dInts_all ns) rs
        subst eu
        refine ⟨a, ns, rfl, t, few, fun b hb => .inr ?_⟩
        refine ⟨b, ns, rfl, upd_same, few, fun ms p inc mem hp => ?_⟩
        rw [ints_sort inc mem] at q2
        have hp1 : H1 p = none := by
          by_cases e : p = b
          · rw [e]; exact hb
          · rwa [upd_ne e] at hp
        exact mk_ok q2 hp1 ((Ext.obj _ hb).trans (Ext.obj _ hp)) ((s1.obj _ hb).enter _ hp) upd_same (Reps.ints ms)
      · cases es
    cases d with
    | lst xs =>
      obtain ⟨a, us, ea, t, rs⟩ := hd.lst
      simp only [l1D] at ex
      split at ex
      · rename_i tn
        by_cases ne : xs = []
        · exact .inl (nest a xs us ea (.inr t) rs (fun _ => ⟨fun d hd => absurd hd (by simp [ne]), by simp [ne]⟩) ex)
        · exact .inl (nest a xs us ea (.inr t) rs (fun ok => setOk_nums ok tn ne) ex)
      · cases ex
    | tup xs =>
      obtain ⟨a, us, ea, t, rs⟩ := hd.tup
      simp only [l1D] at ex
      by_cases ne : xs = []
      · exact .inr (intc a xs us ea t rs (.inr ne) ex)
      · cases tn : xs.all tupN with
        | true => exact .inl (nest a xs us ea (.inl t) rs (fun ok => setOk_nums ok tn ne) ex)
        | false => exact .inr (intc a xs us ea t rs (.inl tn) ex)
    | _ => cases ex
theorem reps_map {α : Type} {H : Hp} {G : Wd} {f : α → D} {g : α → V} : ∀ {l : List α}, (∀ q ∈ l, Rep T H G (f q) (g q)) → Reps T H G (l.map f) (l.map g)
  | [], _ => rfl
  | q :: l, h => ⟨_, _, rfl, h q List.mem_cons_self, reps_map fun y hy => h y (List.mem_cons_of_mem _ hy)⟩
theorem pair_alike {x y : D} (hx : pair64 x = true) (hy : pair64 y = true) : PySem.W.alike (toPy x) (toPy y) = true := by
  obtain ⟨a, b, rfl, _⟩ := pair_is hx
  obtain ⟨c, d, rfl, _⟩ := pair_is hy
  simp [toPy, toPys, PySem.W.alike, PySem.W.alikeAll]
theorem sortpairs_pe {X : Cx} {W : WX} {m : E} {o : Bool} {e : Expr} {p q p2 q2 : Pos} (hX : XOk T P C lvl W X) (hb : bltOk P X.env.scope "sorted" = true) (hb2 : bltOk P X.env.scope "set" = true) (hi : ixOk e = true) (h : PE X e (tE T C W m)) :
    PE X (.Call (.Name "sorted" p) [.Call (.Name "set" p2) [e] [] q2] [] q) (tE T C W (.l1 o .sortpairs m)) := by
  obtain ⟨hg, hm⟩ := blt_mg hX.toXLt hb
  obtain ⟨hg2, hm2⟩ := blt_mg hX.toXLt hb2
  have room := hX.room.un
  refine PE.imp (pe_callB (cr_sortedT hX.calm) hg hm (by decide +kernel) (pa_cons (pe_callTy (cr_setP hX.calm (by omega)) hg2 hm2 (by decide +kernel) (pa_cons h pa_nil (star_cons hi)) (he := star_cons hi)) pa_nil (star_cons rfl)) (he := star_cons rfl)) fun σ H Q ⟨ρ, G, he, hs, q⟩ => ?_
  refine tE_bind he hs q fun x v H1 G1 x1 s1 e1 r1 q1 => ?_
  obtain ⟨d, hd, q2⟩ := one_ok s1 r1 q1
  cases d with
  | tup xs =>
    by_cases ok : (xs.all pair64 && decide (xs.length < 60)) = true
    · have el : l1D .sortpairs (.tup xs) = some (sortD (nubD xs)) := if_pos ok
      rw [el] at q2
      rw [Bool.and_eq_true, List.all_eq_true, decide_eq_true_eq] at ok
      obtain ⟨ok, few⟩ := ok
      obtain ⟨a, us, ea, t, rs⟩ := hd.tup
      obtain ⟨ps, h1, h2, h3⟩ := pair_reps ok rs
      subst ea
      refine ⟨a, ps.map fun p => (p.1, pairI p.2), rfl, ?_, fun p hp => ?_, by rw [List.length_map]; rw [h2, List.length_map] at few; exact few, fun b L hb sub cov => ?_⟩
      · rw [List.map_map]
        rw [h1] at t
        exact hX.K ▸ t
      · obtain ⟨y, hy, rfl⟩ := List.mem_map.mp hp
        exact hX.K ▸ pair_sq (h3 y hy).2 (h3 y hy).1
      · have back : ∀ q ∈ L, ∃ y ∈ ps, q = (y.1, pairI y.2) := fun q hq => by
          obtain ⟨y, hy, e⟩ := List.mem_map.mp (sub q hq)
          exact ⟨y, hy, e.symm⟩
        refine ⟨b, L, 2, 64, rfl, upd_same, fun q hq => ?_, by omega, fun q hq => ?_, fun L' p pm nd few' pw hp => ?_⟩
        · obtain ⟨y, hy, rfl⟩ := back q hq
          rcases pair_sq (h3 y hy).2 (h3 y hy).1 with z | z
          · exact hX.K ▸ .inl (rd_upd z hb)
          · exact hX.K ▸ .inr z
        · obtain ⟨y, hy, rfl⟩ := back q hq
          exact pair_len (h3 y hy).2
        · have back' : ∀ q ∈ L', ∃ y ∈ ps, q = (y.1, pairI y.2) := fun q hq => back q (pm.mem_iff.mp hq)
          have es : L'.map (fun q => pairO q.2) = sortD (nubD xs) := by
            refine sort_one (fun x hx => ?_) (fun x hx y hy => pair_alike (ok x hx) (ok y hy)) ?_ (fun d => ⟨fun hd => ?_, fun hd => ?_⟩) ?_
            · obtain ⟨a, b, rfl, _⟩ := pair_is (ok x hx)
              rfl
            · refine List.pairwise_map.mpr ?_
              have nd := List.pairwise_map.mp nd
              refine List.Pairwise.imp_of_mem (fun {q r} hq hr ne e => ne ?_) nd
              obtain ⟨y, hy, rfl⟩ := back' q hq
              obtain ⟨z, hz, rfl⟩ := back' r hr
              have e : pairO (pairI y.2) = pairO (pairI z.2) := e
              rw [pairO_I (h3 y hy).2, pairO_I (h3 z hz).2] at e
              show pairI y.2 = pairI z.2
              rw [e]
            · obtain ⟨q, hq, rfl⟩ := List.mem_map.mp hd
              obtain ⟨y, hy, rfl⟩ := back' q hq
              show pairO (pairI y.2) ∈ xs
              rw [pairO_I (h3 y hy).2, h2]
              exact List.mem_map.mpr ⟨y, hy, rfl⟩
            · rw [h2] at hd
              obtain ⟨y, hy, rfl⟩ := List.mem_map.mp hd
              obtain ⟨q, hq, e⟩ := List.mem_map.mp (cov (y.1, pairI y.2) (List.mem_map.mpr ⟨y, hy, rfl⟩))
              refine List.mem_map.mpr ⟨q, pm.mem_iff.mpr hq, ?_⟩
              have e : q.2 = pairI y.2 := e
              show pairO q.2 = y.2
              rw [e, pairO_I (h3 y hy).2]
            · refine List.pairwise_map.mpr (List.Pairwise.imp_of_mem (fun {q r} hq hr c => ?_) pw)
              obtain ⟨y, hy, rfl⟩ := back' q hq
              obtain ⟨z, hz, rfl⟩ := back' r hr
              show ltX (pairO (pairI z.2)) (pairO (pairI y.2)) = false
              rw [pairO_I (h3 y hy).2, pairO_I (h3 z hz).2]
              exact pair_order (h3 y hy).2 (h3 z hz).2 c
          rw [← es] at q2
          have rw1 : Reps T H1 G1 (L'.map fun q => pairO q.2) (L'.map fun q => V.ref q.1) := reps_map fun q hq => by
            obtain ⟨y, hy, rfl⟩ := back' q hq
            show Rep T H1 G1 (pairO (pairI y.2)) _
            rw [pairO_I (h3 y hy).2]
            exact (h3 y hy).1
          have m2 : Mon H1 G1 (upd H1 b (SetTO X.prog X.w b L)) G1 := (Ext.obj _ hb).mon.toMon
          have hp1 : H1 p = none := by
            by_cases e : p = b
            · rw [e]; exact hb
            · rwa [upd_ne e] at hp
          exact mk_ok q2 hp1 ((Ext.obj _ hb).trans (Ext.obj _ hp)) ((s1.obj _ hb).enter _ hp) upd_same ((rw1.mono m2).mono (Mon.enter _ hp).toMon)
    · have el : l1D .sortpairs (.tup xs) = none := if_neg ok
      rw [el] at q2
      exact q2.elim
  | _ => exact False.elim q2
theorem min_pe {X : Cx} {W : WX} {es : Es} {fs : List Expr} {p q : Pos} (hX : XOk T P C lvl W X) (hb : bltOk P X.env.scope "min" = true) (hne : fs.isEmpty = false) (hi : ∀ e ∈ fs, ixOk e = true) (h : PA X fs (tEs T C W es)) :
    PE X (.Call (.Name "min" p) fs [] q) (tE T C W (.minN es)) := by
  obtain ⟨hg, hm⟩ := blt_mg hX.toXLt hb
  cases fs with
  | nil => cases hne
  | cons f fs =>
    have hp : ∀ pos, (backTo pos (starEach fs X.env)).any (·.1) = false := fun pos => star_any fun e he' => hi e (List.mem_cons_of_mem _ he')
    refine PE.imp (pe_callB (call_min4 hX.calm) hg hm (by decide +kernel) h (he := star_cons (hi f List.mem_cons_self)) (hpl := hp _)) fun σ H Q ⟨ρ, G, he, hs, z⟩ => ⟨ρ, G, he, hs, Post.bind z fun xs H1 G1 x1 s1 q1 vs r => ?_⟩
    split at q1
    · rename_i a b c d
      obtain ⟨v1, l1, rfl, r1, v2, l2, rfl, r2, v3, l3, rfl, r3, v4, l4, rfl, r4, rfl⟩ := r
      exact ⟨a, b, c, d, by rw [show v1 = .int a from r1, show v2 = .int b from r2, show v3 = .int c from r3, show v4 = .int d from r4], q1.here s1 _ rfl⟩
    · exact q1.elim
theorem strs_reps {H : Hp} {G : Wd} : ∀ {ds : List D} {us : List V} {ys : List Str}, strsD ds = some ys → Reps T H G ds us → us = ys.map V.str
  | [], us, ys, h, r => by
    cases h
    exact r
  | d :: ds, us, ys, h, ⟨v, vs, e, r, rs⟩ => by
    cases d with
    | str s =>
      simp only [strsD] at h
      cases q : strsD ds with
      | none => rw [q] at h; cases h
      | some cs =>
        rw [q] at h
        cases h
        rw [e, strs_reps q rs, show v = .str s from r.1]
        rfl
    | _ => cases h
theorem join_pe {X : Cx} {W : WX} {a b : E} {o e : Expr} {ap cp : Pos} (hX : XOk T P C lvl W X) (hl : (ap.endLine == cp.line) = true) (hn : noAttr o = true) (hi : ixOk e = true) (ho : PE X o (tE T C W a)) (h : PE X e (tE T C W b)) :
    PE X (.Call (.Attribute o "join" ap) [e] [] cp) (tE T C W (.join a b)) := by
  refine PE.imp (pe_join ho h (by rw [star_cons hi]; rfl) (noAttr_ok hn) hl) fun σ H Q ⟨ρ, G, he, hs, z⟩ => ?_
  refine tE_bind he hs z fun x v H1 G1 x1 s1 e1 r1 q1 => ?_
  split at q1
  · rename_i s
    refine ⟨⟨s, r1.1⟩, tE_bind e1 s1 q1 fun y u H2 G2 x2 s2 e2 r2 q2 => ?_⟩
    obtain ⟨d, hd, q3⟩ := one_ok s2 r2 q2
    cases d with
    | lst xs =>
      obtain ⟨l, us, ea, t, rs⟩ := hd.lst
      cases es : strsD xs with
      | none =>
        have q3 : Post T W H2 G2 (rD G2.st ((strsD xs).bind fun ys => if (decide ((ys.map (·.length)).sum + ys.length * s.length ≤ 1000000) && okTxt (Txt.join s ys)) = true then some (.str (Txt.join s ys)) else none)) fun x H' G' => ∀ v, RepV T H' G' x v → Q v H' := q3
        rw [es] at q3
        exact q3.elim
      | some ys =>
        have q3 : Post T W H2 G2 (rD G2.st ((strsD xs).bind fun ys => if (decide ((ys.map (·.length)).sum + ys.length * s.length ≤ 1000000) && okTxt (Txt.join s ys)) = true then some (.str (Txt.join s ys)) else none)) fun x H' G' => ∀ v, RepV T H' G' x v → Q v H' := q3
        rw [es] at q3
        have eu := strs_reps es rs
        subst eu
        simp only [Option.bind_some] at q3
        split at q3
        · rename_i ok
          rw [Bool.and_eq_true, decide_eq_true_eq] at ok
          exact ⟨s, l, ys, r1.1, by rw [ea], .inl (hX.K ▸ t), by omega, q3 H2 G2 rfl (Ext.refl _ _) s2 _ ⟨rfl, ok.2⟩⟩
        · exact q3.elim
    | _ => exact False.elim q3
  · exact q1.elim
theorem txt_reps {H : Hp} {G : Wd} : ∀ {ys : List Str}, ys.all okTxt = true → Reps T H G (ys.map .str) (ys.map V.str)
  | [], _ => rfl
  | y :: ys, h => by
    rw [List.all_cons, Bool.and_eq_true] at h
    exact ⟨_, _, rfl, ⟨rfl, h.1⟩, txt_reps h.2⟩
theorem split_pe {X : Cx} {W : WX} {a b : E} {w : Bool} {o e : Expr} {ap cp : Pos} (hX : XOk T P C lvl W X) (hl : (ap.endLine == cp.line) = true) (hn : noAttr o = true) (hi : ixOk e = true) (ho : PE X o (tE T C W a)) (h : PE X e (tE T C W b)) :
    PE X (.Call (.Attribute o "split" ap) [e] [] cp) (tE T C W (.splt w a b)) := by
  refine PE.imp (pe_split ho h (by rw [star_cons hi]; rfl) (noAttr_ok hn) hl) fun σ H Q ⟨ρ, G, he, hs, z⟩ => ?_
  refine tE_bind he hs z fun x v H1 G1 x1 s1 e1 r1 q1 => ?_
  split at q1
  · rename_i s
    refine ⟨⟨s, r1.1⟩, tE_bind e1 s1 q1 fun y u H2 G2 x2 s2 e2 r2 q2 => ?_⟩
    split at q2
    · rename_i t
      split at q2
      · rename_i xs ex
        unfold spltD at ex
        split at ex
        · rename_i hz
          cases ex
          exact ⟨s, t, r1.1, by rw [r2.1], hz.1.1, hz.1.2, fun p hp => mk_new q2 s2 (txt_reps hz.2) p hp⟩
        · cases ex
      · exact q2.elim
    · exact q2.elim
  · exact q1.elim
theorem strI_pe {X : Cx} {W : WX} {m : E} {e : Expr} {p q : Pos} (hX : XOk T P C lvl W X) (hb : bltOk P X.env.scope "str" = true) (hi : ixOk e = true) (h : PE X e (tE T C W m)) : PE X (.Call (.Name "str" p) [e] [] q) (tE T C W (.strI m)) := by
  obtain ⟨hg, hm⟩ := blt_mg hX.toXLt hb
  refine PE.imp (pe_callTy (call_str_int (X := X)) hg hm (by decide +kernel) (pa_cons h pa_nil (star_cons hi)) (he := star_cons hi)) fun σ H Q ⟨ρ, G, he, hs, q⟩ => ?_
  refine tE_bind he hs q fun x v H1 G1 x1 s1 e1 r1 q1 => ?_
  obtain ⟨d, hd, q2⟩ := one_ok s1 r1 q1
  cases d with
  | int i =>
    have q2 : Post T W H1 G1 (rD G1.st (if (decide (i.natAbs < 1000) && okTxt (toString i)) = true then some (.str (toString i)) else none)) fun x H' G' => ∀ v, RepV T H' G' x v → Q v H' := q2
    split at q2
    · rename_i ok
      rw [Bool.and_eq_true, decide_eq_true_eq] at ok
      refine ⟨i, by rw [show v = .int i from hd], ?_, q2 H1 G1 rfl (Ext.refl _ _) s1 _ ⟨rfl, ok.2⟩⟩
      by_cases hz : i.natAbs = 0
      · rw [hz]; decide
      · have := (Nat.log2_lt (n := i.natAbs) (k := 10) hz).mpr (by omega)
        omega
    · exact q2.elim
  | _ => exact False.elim q2
theorem rep_pe {X : Cx} {W : WX} {m : E} {e : Expr} {p q : Pos} (hX : XOk T P C lvl W X) (hb : bltOk P X.env.scope "repr" = true) (hi : ixOk e = true) (h : PE X e (tE T C W m)) : PE X (.Call (.Name "repr" p) [e] [] q) (tE T C W (.rep m)) := by
  obtain ⟨hg, hm⟩ := blt_mg hX.toXLt hb
  refine PE.imp (pe_callB (call_reprD (T := T) hX.K hX.rm hX.gd) hg hm (by decide +kernel) (pa_cons h pa_nil (star_cons hi)) (he := star_cons hi)) fun σ H Q ⟨ρ, G, he, hs, q⟩ => ?_
  refine tE_bind he hs q fun x v H1 G1 x1 s1 e1 r1 q1 => ?_
  obtain ⟨d, hd, q2⟩ := one_ok s1 r1 q1
  cases er : reprD d with
  | none =>
    rw [er] at q2
    exact q2.elim
  | some r =>
    rw [er] at q2
    obtain ⟨t, rfl, ok⟩ := reprD_str er
    exact ⟨G1, d, v, t, rfl, s1, hd, er, q2 H1 G1 rfl (Ext.refl _ _) s1 _ ⟨rfl, ok⟩⟩
theorem revt_pe {X : Cx} {W : WX} {m : E} {e : Expr} {p q p2 q2 : Pos} (hX : XOk T P C lvl W X) (hb : bltOk P X.env.scope "tuple" = true) (hb2 : bltOk P X.env.scope "reversed" = true) (hi : ixOk e = true) (h : PE X e (tE T C W m)) :
    PE X (.Call (.Name "tuple" p) [.Call (.Name "reversed" p2) [e] [] q2] [] q) (tE T C W (.revt m)) := by
  obtain ⟨hg, hm⟩ := blt_mg hX.toXLt hb
  obtain ⟨hg2, hm2⟩ := blt_mg hX.toXLt hb2
  refine PE.imp (pe_revT hX.calm hg hm hg2 hm2 h (star_cons hi) (star_cons rfl)) fun σ H Q ⟨ρ, G, he, hs, q⟩ => ?_
  refine tE_bind he hs q fun x v H1 G1 x1 s1 e1 r1 q1 => ?_
  obtain ⟨d, hd, q2⟩ := one_ok s1 r1 q1
  cases d with
  | tup xs =>
    obtain ⟨a, us, ea, t, rs⟩ := hd.tup
    subst ea
    have q2 : Post T W H1 G1 (rD G1.st (some (.tup xs.reverse))) fun x H' G' => ∀ v, RepV T H' G' x v → Q v H' := q2
    refine ⟨a, us, rfl, hX.K ▸ t, fun b hb => ?_⟩
    exact q2 _ G1 rfl (Ext.obj _ hb) (s1.obj _ hb) _ (Rep.newT s1 hb rs.reverse)
  | _ => exact q2.elim
theorem ints_of_all : ∀ l : List D, (∀ x ∈ l, isIntD x = true) → ∃ ns : List Int, l = ns.map .int
  | [], _ => ⟨[], rfl⟩
  | x :: l, h => by
    obtain ⟨ns, e⟩ := ints_of_all l fun y hy => h y (List.mem_cons_of_mem _ hy)
    have hx := h x List.mem_cons_self
    cases x with
    | int i => exact ⟨i :: ns, by rw [e]; rfl⟩
    | _ => cases hx
/-- tuples of numbers, with their places -/
theorem tupI_rows {H : Hp} {G : Wd} : ∀ {ds : List D} {us : List V}, (∀ d ∈ ds, isTupI d = true) → Reps T H G ds us → ∃ ks : List (Addr × List Int), us = ks.map (fun p => V.ref p.1) ∧ ds = ks.map (fun p => .tup (p.2.map .int)) ∧ ∀ p ∈ ks, SqT T.K H p.1 (p.2.map V.int)
  | [], us, _, h => ⟨[], h, rfl, fun p hp => (by cases hp)⟩
  | d :: ds, us, n, ⟨v, vs, e, r, rs⟩ => by
    obtain ⟨ps, h1, h2, h3⟩ := tupI_rows (fun x hx => n x (List.mem_cons_of_mem _ hx)) rs
    have nd := n d List.mem_cons_self
    cases d with
    | tup xs =>
      have nd2 : xs.all isIntD = true := (and2 nd).2
      obtain ⟨ns, rfl⟩ := ints_of_all xs (List.all_eq_true.mp nd2)
      obtain ⟨a, ws, ea, t, rr⟩ := r
      have ew : ws = ns.map V.int := reps_ints (dInts_all ns) rr
      subst ea e h1 h2 ew
      refine ⟨(a, ns) :: ps, rfl, rfl, fun p hp => ?_⟩
      rcases List.mem_cons.mp hp with rfl | hp
      · exact t.sq
      · exact h3 p hp
    | _ => cases nd
theorem tupI_inj {a b : List Int} (h : D.tup (a.map .int) = .tup (b.map .int)) : a = b := by
  injection h with h
  induction a generalizing b with
  | nil =>
    cases b with
    | nil => rfl
    | cons y b => cases h
  | cons x a ih =>
    cases b with
    | nil => cases h
    | cons y b =>
      simp only [List.map_cons, List.cons.injEq, D.int.injEq] at h
      rw [h.1, ih h.2]
theorem tupI_num (ns : List Int) : numD (.tup (ns.map .int)) = true := by
  show numsD (ns.map .int) = true
  induction ns with
  | nil => rfl
  | cons n ns ih =>
    show (numD (.int n) && numsD (ns.map .int)) = true
    rw [ih]
    rfl
theorem nub_tups {ks L : List (Addr × List Int)} (h1 : ∀ p ∈ L, p ∈ ks) (h2 : ∀ p ∈ ks, p.2 ∈ L.map (·.2)) (nd : (L.map (·.2)).Nodup) : (nubD (ks.map fun p => D.tup (p.2.map .int))).length = L.length := by
  have num : ∀ x ∈ ks.map (fun p => D.tup (p.2.map .int)), numD x = true := fun x hx => by
    obtain ⟨p, _, rfl⟩ := List.mem_map.mp hx
    exact tupI_num _
  have nd2 : ((L.map (·.2)).map fun ns : List Int => D.tup (ns.map .int)).Nodup := List.pairwise_map.mpr (nd.imp fun h e => h (tupI_inj e))
  have pm : (nubD (ks.map fun p => D.tup (p.2.map .int))).Perm ((L.map (·.2)).map fun ns : List Int => D.tup (ns.map .int)) := (List.perm_ext_iff_of_nodup (nubD_nodup num) nd2).mpr fun d => by
    rw [nubD_mem num]
    constructor
    · intro h
      obtain ⟨p, hp, rfl⟩ := List.mem_map.mp h
      exact List.mem_map.mpr ⟨p.2, h2 p hp, rfl⟩
    · intro h
      obtain ⟨ns, hn, rfl⟩ := List.mem_map.mp h
      obtain ⟨p, hp, rfl⟩ := List.mem_map.mp hn
      exact List.mem_map.mpr ⟨p, h1 p hp, rfl⟩
  have := pm.length_eq
  simpa using this
theorem lens_pe {X : Cx} {W : WX} {m : E} {e : Expr} {p q p2 q2 : Pos} (hX : XOk T P C lvl W X) (hb : bltOk P X.env.scope "len" = true) (hb2 : bltOk P X.env.scope "set" = true) (hi : ixOk e = true) (h : PE X e (tE T C W m)) :
    PE X (.Call (.Name "len" p) [.Call (.Name "set" p2) [e] [] q2] [] q) (tE T C W (.lens m)) := by
  obtain ⟨hg, hm⟩ := blt_mg hX.toXLt hb
  obtain ⟨hg2, hm2⟩ := blt_mg hX.toXLt hb2
  have room := hX.room.un
  refine PE.imp (pe_callB (CallR.either cr_lenI cr_lenT) hg hm (by decide +kernel) (pa_cons (pe_callTy (CallR.either (cr_setI (T := T) hX.K hX.calm) (cr_setOfT hX.calm (by omega))) hg2 hm2 (by decide +kernel) (pa_cons h pa_nil (star_cons hi)) (he := star_cons hi)) pa_nil (star_cons rfl)) (he := star_cons rfl)) fun σ H Q ⟨ρ, G, he, hs, q⟩ => ?_
  refine tE_bind he hs q fun x v H1 G1 x1 s1 e1 r1 q1 => ?_
  obtain ⟨d, hd, q2⟩ := one_ok s1 r1 q1
  cases d with
  | tup xs =>
    obtain ⟨a, us, ea, t, rs⟩ := hd.tup
    subst ea
    have q2 : Post T W H1 G1 (rD G1.st (if (xs.all isIntD && decide (xs.length < 60)) = true then some (.int ((nubD xs).length : Nat)) else none)) fun x H' G' => ∀ v, RepV T H' G' x v → Q v H' := q2
    split at q2
    · rename_i ok
      rw [Bool.and_eq_true, decide_eq_true_eq, List.all_eq_true] at ok
      obtain ⟨ns, en⟩ := ints_of_all xs ok.1
      subst en
      have eu := reps_ints (dInts_all ns) rs
      subst eu
      have few : ns.length < 60 := by simpa using ok.2
      refine .inl ⟨a, ns, rfl, t, few, fun b hb => .inl ⟨b, ns, rfl, upd_same, few, ?_⟩⟩
      exact q2 _ G1 rfl (Ext.obj _ hb) (s1.obj _ hb) _ rfl
    · exact q2.elim
  | lst xs =>
    obtain ⟨a, us, ea, t, rs⟩ := hd.lst
    subst ea
    have q2 : Post T W H1 G1 (rD G1.st (if (xs.all isTupI && decide (xs.length < 60)) = true then some (.int ((nubD xs).length : Nat)) else none)) fun x H' G' => ∀ v, RepV T H' G' x v → Q v H' := q2
    split at q2
    · rename_i ok
      rw [Bool.and_eq_true, decide_eq_true_eq, List.all_eq_true] at ok
      obtain ⟨ks, eu, ed, hk⟩ := tupI_rows ok.1 rs
      subst eu
      have few : ks.length < 64 := by
        have := ok.2
        rw [ed, List.length_map] at this
        omega
      rw [hX.K] at t hk
      refine .inr ⟨a, ks, rfl, t, hk, few, fun b L hb l1 l2 => .inr ⟨b, L, rfl, upd_same, fun p hp => ?_, fun nd => ?_⟩⟩
      · have m2 : SqT X.K H1 p.1 (p.2.map V.int) := hk p (l1 p hp)
        rcases m2 with m2 | m2
        · exact .inl (rd_upd m2 hb)
        · exact .inr m2
      · have z := q2 _ G1 rfl (Ext.obj (SetTO X.prog X.w b L) hb) (s1.obj _ hb) _ (show RepV T _ G1 (.d (.int ((nubD xs).length : Nat))) (.int ((nubD xs).length : Nat)) from rfl)
        rw [ed, nub_tups l1 l2 nd] at z
        exact z
    · exact q2.elim
  | _ => exact False.elim q2
theorem m1Q_ty {H : Hp} {G : Wd} {o : Vl} {v : V} (S : Sim T H G) (r : RepV T H G o v) (h : m1Q G.st o = true) {K : PySem.W.Frag} : tyV K "list" v H := by
  unfold m1Q at h
  split at h
  · rename_i xs ex
    obtain ⟨a, us, ea, t, rs⟩ := dr_rd S r ex
    subst ea
    exact .inl ⟨rfl, us, SqL.of t⟩
  · cases h
theorem m1_pe {X : Cx} {W : WX} {a b : E} {f : M1} {o e : Expr} {ap cp : Pos} (hX : XLt T P lvl X) (hf : m1Ok f = true) (hl : (ap.endLine == cp.line) = true) (hn : noAttr o = true) (hi : ixOk e = true) (ho : PE X o (tE T C W a)) (h : PE X e (tE T C W b)) :
    PE X (.Call (.Attribute o (m1N f) ap) [e] [] cp) (tE T C W (.m1 f a b)) := by
  cases f with
  | count =>
    refine PE.imp (pe_bm PySem.F.plainAttrs_list PySem.F.slot_list_count PySem.F.type_list_count (mt_cntD (T := T) hX.K hX.room) ho (pa_cons h pa_nil (star_cons hi)) (noAttr_ok hn) (by rw [star_cons hi]; rfl) hl (star_cons hi) rfl) fun σ H Q ⟨ρ, G, he, hs, z⟩ => ?_
    refine tE_bind he hs z fun x w H1 G1 x1 s1 e1 r1 q1 => ?_
    split at q1
    · rename_i hL
      refine ⟨m1Q_ty s1 r1 hL, tE_bind e1 s1 q1 fun y u H2 G2 x2 s2 e2 r2 q2 => ?_⟩
      obtain ⟨d1, d2, h1, h2, q3⟩ := two_ok s2 (r1.mono x2.mon) r2 q2
      cases d1 with
      | lst xs =>
        obtain ⟨k, us, ea, t, rs⟩ := h1.lst
        subst ea
        obtain ⟨r, eo, q4⟩ := rD_ok s2 q3
        have eo : m1L .count xs d2 = some r := eo
        simp only [m1L] at eo
        split at eo
        · rename_i ok
          cases eo
          exact ⟨k, u, G2, xs, us, d2, rfl, rfl, rs, h2, ok, t, q4 _ _ (Ext.refl _ _) s2 rfl⟩
        · cases eo
      | _ => exact False.elim q3
    · exact False.elim q1
  | index =>
    refine PE.imp (pe_bm PySem.F.plainAttrs_list PySem.F.slot_list_index PySem.F.type_list_index (mt_idxD (T := T) hX.K hX.room) ho (pa_cons h pa_nil (star_cons hi)) (noAttr_ok hn) (by rw [star_cons hi]; rfl) hl (star_cons hi) rfl) fun σ H Q ⟨ρ, G, he, hs, z⟩ => ?_
    refine tE_bind he hs z fun x w H1 G1 x1 s1 e1 r1 q1 => ?_
    split at q1
    · rename_i hL
      refine ⟨m1Q_ty s1 r1 hL, tE_bind e1 s1 q1 fun y u H2 G2 x2 s2 e2 r2 q2 => ?_⟩
      obtain ⟨d1, d2, h1, h2, q3⟩ := two_ok s2 (r1.mono x2.mon) r2 q2
      cases d1 with
      | lst xs =>
        obtain ⟨k, us, ea, t, rs⟩ := h1.lst
        subst ea
        obtain ⟨r, eo, q4⟩ := rD_ok s2 q3
        have eo : m1L .index xs d2 = some r := eo
        simp only [m1L] at eo
        split at eo
        · rename_i ok
          cases ej : xs.findIdx? fun y => eqD y d2 with
          | none => rw [ej] at eo; cases eo
          | some j =>
            rw [ej] at eo
            cases eo
            exact ⟨k, u, G2, xs, us, d2, j, rfl, rfl, rs, h2, ok, ej, t, q4 _ _ (Ext.refl _ _) s2 rfl⟩
        · cases eo
      | _ => exact False.elim q3
    · exact False.elim q1
  | _ => cases hf
theorem both_and {X : Cx} {W : WX} {a b : E} {e : Expr} {y : PySem.BoolOp × Expr × Expr} (h1 : asBo e = some y) (eo : y.1 = .And) (ha : Both T C X W a y.2.1) (hb : Both T C X W b y.2.2) : Both T C X W (.and a b) e := by
  rcases asBo_ok h1 with ⟨p, rfl⟩ | ⟨f, c, r, p, rfl, e2⟩
  · rw [eo]
    have w : tOk (.and a b) = true → PW X (.BoolOp .And [y.2.1, y.2.2] p) (tT T C W (.and a b)) := fun t => sW_and (ha.2.1 (and2 t).1) (pw_and1 (hb.2.1 (and2 t).2))
    exact ⟨sE_and ha.1 (pe_one hb.1), fun t => (w t).pt, fun t _ => w t⟩
  · rw [eo] at e2 ⊢
    rw [e2] at hb
    have w : tOk (.and a b) = true → PW X (.BoolOp .And (y.2.1 :: f :: c :: r) p) (tT T C W (.and a b)) := fun t => sW_and (ha.2.1 (and2 t).1) (hb.2.2 (and2 t).2 ⟨_, _, _, rfl⟩)
    exact ⟨sE_and ha.1 hb.1, fun t => (w t).pt, fun t _ => w t⟩
theorem both_or {X : Cx} {W : WX} {a b : E} {e : Expr} {y : PySem.BoolOp × Expr × Expr} (h1 : asBo e = some y) (eo : y.1 = .Or) (ha : Both T C X W a y.2.1) (hb : Both T C X W b y.2.2) : Both T C X W (.or a b) e := by
  rcases asBo_ok h1 with ⟨p, rfl⟩ | ⟨f, c, r, p, rfl, e2⟩
  · rw [eo]
    have w : tOk (.or a b) = true → PW X (.BoolOp .Or [y.2.1, y.2.2] p) (tT T C W (.or a b)) := fun t => sW_or (ha.2.1 (and2 t).1) (pw_or1 (hb.2.1 (and2 t).2))
    exact ⟨sE_or ha.1 (pe_one hb.1), fun t => (w t).pt, fun t _ => w t⟩
  · rw [eo] at e2 ⊢
    rw [e2] at hb
    have w : tOk (.or a b) = true → PW X (.BoolOp .Or (y.2.1 :: f :: c :: r) p) (tT T C W (.or a b)) := fun t => sW_or (ha.2.1 (and2 t).1) (hb.2.2 (and2 t).2 ⟨_, _, _, rfl⟩)
    exact ⟨sE_or ha.1 hb.1, fun t => (w t).pt, fun t _ => w t⟩
theorem dct_pe {X : Cx} {W : WX} {e : Expr} (h : asDct0 e = true) : PE X e (tE T C W .dct0) := by
  unfold asDct0 at h
  split at h
  · refine PE.imp pe_dnewK fun σ H Q ⟨ρ, G, he, hs, q⟩ p hp => ?_
    exact q _ G rfl (Ext.obj _ hp) (hs.obj _ hp) _ ⟨p, rfl, .inl upd_same, hs.fresh hp⟩
  · cases h
theorem frz_pe {X : Cx} {W : WX} {m : E} {e : Expr} (h : PE X e (tE T C W m)) : PE X e (tE T C W (.frz m)) := by
  refine PE.imp h fun σ H Q ⟨ρ, G, he, hs, q⟩ => tE_bind he hs q fun x v H1 G1 x1 s1 e1 r1 q1 => ?_
  cases x with
  | d d => exact q1.here s1 _ r1
  | r n =>
    have q1 : Post T W H1 G1 (match G1.st[n]? with
      | some (.lst xs) => .ok (.d (.lst xs)) (G1.st.set n .dead)
      | _ => .bad) (fun x H' G' => ∀ v, RepV T H' G' x v → Q v H') := q1
    split at q1
    · rename_i xs ec
      obtain ⟨a, c, rfl, eg⟩ := r1
      have e2 : G1.st[n]? = some c := by unfold Wd.st; rw [List.getElem?_map, eg]; rfl
      rw [ec] at e2
      cases e2
      obtain ⟨us, eh, rs⟩ := s1.cell n a _ eg
      obtain ⟨x4, s4⟩ := cell_set (c' := .dead) (o := .lst us) s1 eg rfl fun m => trivial
      have hu := upd_id eh
      rw [hu] at x4 s4
      refine q1 H1 _ st_set x4 s4 _ ⟨a, us, rfl, ⟨eh, fun m => ?_⟩, rs.mono x4.mon.toMon⟩
      rcases m with ⟨k, d, q, l⟩ | m
      · have q : (G1.g.set n (a, Cell.dead))[k]? = some (a, d) := q
        by_cases hk : n = k
        · subst hk
          rw [List.getElem?_set_self (List.getElem?_eq_some_iff.mp eg).1] at q
          cases q
          cases l
        · rw [List.getElem?_set_ne hk] at q
          exact hk (s1.inj k n a d _ q eg l rfl).symm
      · exact s1.apart a m ⟨n, _, eg, rfl⟩
    · exact q1.elim
/-! no exception is handled here -/
theorem xc_none {X : Cx} {W : WX} (hX : XOk T P C lvl W X) {H : Hp} {G : Wd} {c : Nat} {fs : List Int} {v : V} (r : RepV T H G (.d (.xc c fs)) v) : False := by
  obtain ⟨a, _, e, _⟩ := r
  rw [hX.cold] at e
  cases e
theorem cr_never {X : Cx} {v : Value} : CallR X v (fun _ _ _ => False) := fun _ _ _ _ _ _ _ _ _ h => h.elim
theorem sE_isxC {X : Cx} {W : WX} {a : E} {y : Nat} {e : Expr} {z : Str} {p p2 q : Pos} (hX : XOk T P C lvl W X) (hb : bltOk P X.env.scope "isinstance" = true) (hc : P.cls[y]? = some z) (hz : glOk X.env.scope z = true) (hi : ixOk e = true) (h : PE X e (tE T C W a)) :
    PE X (.Call (.Name "isinstance" p) [e, .Name z p2] [] q) (tE T C W (.isx a y)) := by
  obtain ⟨hgl, hm⟩ := blt_mg hX.toXLt hb
  obtain ⟨g2, d2, _⟩ := gl_ok hz
  refine PE.imp (pe_callB (cr_never (v := .builtin "isinstance")) hgl hm (by decide +kernel) (pa_cons h (pa_cons (pe_glob g2 (hX.cls y z hc) (v := .ref (T.ca y)) rfl d2) pa_nil (star_cons rfl)) (star_cons hi)) (he := star_cons hi)) fun σ H Q ⟨ρ, G, he, hs, q⟩ => tE_bind he hs q fun x v H1 G1 x1 s1 e1 r1 q1 => ?_
  split at q1
  · exact (xc_none hX r1).elim
  · exact q1.elim
theorem sE_isvC {X : Cx} {W : WX} {a : E} {e : Expr} {p p2 q : Pos} (hX : XOk T P C lvl W X) (hb : bltOk P X.env.scope "isinstance" = true) (hz : bltOk P X.env.scope "ValueError" = true) (hi : ixOk e = true) (h : PE X e (tE T C W a)) :
    PE X (.Call (.Name "isinstance" p) [e, .Name "ValueError" p2] [] q) (tE T C W (.isv a)) := by
  obtain ⟨hgl, hm⟩ := blt_mg hX.toXLt hb
  obtain ⟨g2, m2⟩ := blt_mg hX.toXLt hz
  refine PE.imp (pe_callB (cr_never (v := .builtin "isinstance")) hgl hm (by decide +kernel) (pa_cons h (pa_cons (pe_bltn g2 m2 (u := .type "ValueError") (v := .ty "ValueError") PyProof.Rows.Boot.«ValueError» rfl) pa_nil (star_cons rfl)) (star_cons hi)) (he := star_cons hi)) fun σ H Q ⟨ρ, G, he, hs, q⟩ => tE_bind he hs q fun x v H1 G1 x1 s1 e1 r1 q1 => ?_
  split at q1
  · exact (xc_none hX r1).elim
  · exact q1.elim
theorem sE_fldC {X : Cx} {W : WX} {a : E} {b : Bool} {e : Expr} {n : Str} {p : Pos} (hX : XOk T P C lvl W X) (hn : noAttr e = true) (h : PE X e (tE T C W a)) : PE X (.Attribute e n p) (tE T C W (.fld a b)) := by
  refine ⟨fun pins s σ H Q I hh => ?_⟩
  refine attr_of (noAttr_ok hn) (thn (h.run pins s σ H (fun _ _ => False) I ?_) fun u s1 z => ?_)
  · obtain ⟨ρ, G, he, hs, q⟩ := hh
    refine tE_bind he hs q fun x v H1 G1 x1 s1 e1 r1 q1 => ?_
    split at q1
    · exact (xc_none hX r1).elim
    · exact q1.elim
  · obtain ⟨_, _, _, _, z⟩ := z
    exact z.elim
theorem bits_pe {X : Cx} {W : WX} {m : E} {o : Expr} {ap cp : Pos} (hl : (ap.endLine == cp.line) = true) (hn : noAttr o = true) (h : PE X o (tE T C W m)) : PE X (.Call (.Attribute o "bit_length" ap) [] [] cp) (tE T C W (.bits m)) := by
  refine PE.imp (pe_bits h (noAttr_ok hn) hl) fun σ H Q ⟨ρ, G, he, hs, q⟩ => tE_bind he hs q fun x v H1 G1 x1 s1 e1 r1 q1 => ?_
  split at q1
  · rename_i i
    exact ⟨i, r1, q1.here s1 _ rfl⟩
  · exact q1.elim
theorem kd_pe {X : Cx} {W : WX} (hX : XOk T P C lvl W X) {x : Str} {kvs : List (Str × Int)} {p : Pos} (h2 : glOk X.env.scope x = true) (h3 : P.kds.lookup x = some kvs) : ∃ d, KdOk X.K X.w d kvs ∧ PE X (.Name x p) (L2.tC (.ref d)) := by
  obtain ⟨d, g1, g2⟩ := hX.kd x kvs h3
  obtain ⟨hg, hd, _⟩ := gl_ok h2
  exact ⟨d, g2, pe_glob hg g1 rfl hd⟩
theorem gin_imp {W : WX} {a : E} {neg : Bool} {x : Str} {kvs : List (Str × Int)} {d : Addr} {σ : L2.St} {H : Hp} {Q : VK} (h : tE T C W (.gin neg a x kvs) σ H Q) : tOp (rGin neg kvs d) (tE T C W a) (L2.tC (.ref d)) σ H Q := by
  obtain ⟨ρ, G, he, hs, q⟩ := h
  refine tE_bind he hs q fun y v H1 G1 x1 s1 e1 r1 q1 => ?_
  split at q1
  · rename_i s
    exact ⟨s, r1.1, rfl, q1.here s1 _ rfl⟩
  · exact q1.elim
theorem gin_both {X : Cx} {W : WX} {a : E} {neg : Bool} {x : Str} {kvs : List (Str × Int)} {e : Expr} {p p2 : Pos} (hX : XOk T P C lvl W X) (h2 : glOk X.env.scope x = true) (h3 : P.kds.lookup x = some kvs) (h : PE X e (tE T C W a)) :
    Both T C X W (.gin neg a x kvs) (.Compare e [if neg then .NotIn else .In] [.Name x p2] p) := by
  obtain ⟨d, kd, hd⟩ := kd_pe (p := p2) hX h2 h3
  cases neg with
  | true => exact ⟨PE.imp (pe_cmpR (op_gnin kd) h hd (noSet_mk rfl)) fun σ H Q h => gin_imp h, fun _ => PT.imp (pt_cmpR (op_gnin kd) h hd (noSet_mk rfl)) fun σ H Q h => gin_imp (tt_here h), fun _ ⟨_, _, _, e⟩ => by cases e⟩
  | false => exact ⟨PE.imp (pe_cmpR (op_gin kd) h hd (noSet_mk rfl)) fun σ H Q h => gin_imp h, fun _ => PT.imp (pt_cmpR (op_gin kd) h hd (noSet_mk rfl)) fun σ H Q h => gin_imp (tt_here h), fun _ ⟨_, _, _, e⟩ => by cases e⟩
theorem gix_pe {X : Cx} {W : WX} {a : E} {x : Str} {kvs : List (Str × Int)} {e : Expr} {p p2 : Pos} (hX : XOk T P C lvl W X) (h2 : glOk X.env.scope x = true) (h3 : P.kds.lookup x = some kvs) (hi : ixOk e = true) (h : PE X e (tE T C W a)) :
    PE X (.Subscript (.Name x p2) e p) (tE T C W (.gix x kvs a)) := by
  obtain ⟨d, kd, hd⟩ := kd_pe (p := p2) hX h2 h3
  refine PE.imp (pe_ix (ix_gix kd) hd h (plain_ix hi)) fun σ H Q ⟨ρ, G, he, hs, q⟩ => tE_bind he hs q fun y v H1 G1 x1 s1 e1 r1 q1 => ?_
  split at q1
  · rename_i s
    cases es : getS kvs s with
    | none => rw [es] at q1; exact q1.elim
    | some i =>
      rw [es] at q1
      exact ⟨s, i, rfl, r1.1, es, q1.here s1 _ rfl⟩
  · exact q1.elim
theorem isB_imp {W : WX} {a : E} {neg b : Bool} {σ : L2.St} {H : Hp} {Q : VK} (h : tE T C W (.isB neg a b) σ H Q) : tOp (if neg then rNotB else rIsB) (tE T C W a) (L2.tC (.bl b)) σ H Q := by
  obtain ⟨ρ, G, he, hs, q⟩ := h
  refine tE_bind he hs q fun y v H1 G1 x1 s1 e1 r1 q1 => ?_
  split at q1
  · rename_i c
    have q2 := q1.here s1 _ rfl
    cases neg with
    | true => exact ⟨c, b, r1, rfl, by simpa using q2⟩
    | false => exact ⟨c, b, r1, rfl, by simpa using q2⟩
  · exact q1.elim
theorem isB_both {X : Cx} {W : WX} {a : E} {neg b : Bool} {e : Expr} {p p2 : Pos} {k : Nat} (h : PE X e (tE T C W a)) :
    Both T C X W (.isB neg a b) (.Compare e [if neg then .IsNot else .Is] [.Constant (.bool b) k p2] p) := by
  have hd : PE X (.Constant (.bool b) k p2) (L2.tC (.bl b)) := pe_bl
  cases neg with
  | true => exact ⟨PE.imp (pe_cmpR op_notBl h hd (noSet_mk rfl)) fun σ H Q h => isB_imp (neg := true) h, fun _ => PT.imp (pt_cmpR op_notBl h hd (noSet_mk rfl)) fun σ H Q h => isB_imp (neg := true) (tt_here h), fun _ ⟨_, _, _, e⟩ => by cases e⟩
  | false => exact ⟨PE.imp (pe_cmpR op_isBl h hd (noSet_mk rfl)) fun σ H Q h => isB_imp (neg := false) h, fun _ => PT.imp (pt_cmpR op_isBl h hd (noSet_mk rfl)) fun σ H Q h => isB_imp (neg := false) (tt_here h), fun _ ⟨_, _, _, e⟩ => by cases e⟩
theorem nodup_keys {kvs : List (Str × Int)} (h : decide (kvs.map (·.1)).Nodup = true) : (kvs.map (·.1)).Nodup := of_decide_eq_true h
/-- list(d): its keys -/
theorem lsd_pe {X : Cx} {W : WX} {m : E} {o : Bool} {e : Expr} {p q : Pos} (hX : XOk T P C lvl W X) (hb : bltOk P X.env.scope "list" = true) (hi : ixOk e = true) (h : PE X e (tE T C W m)) : PE X (.Call (.Name "list" p) [e] [] q) (tE T C W (.lsd o m)) := by
  obtain ⟨hg, hm⟩ := blt_mg hX.toXLt hb
  refine PE.imp (pe_callTy (call_listD hX.calm) hg hm (by decide +kernel) (pa_cons h pa_nil (star_cons hi)) (he := star_cons hi)) fun σ H Q ⟨ρ, G, he, hs, q⟩ => ?_
  refine tE_bind he hs q fun x v H1 G1 x1 s1 e1 r1 q1 => ?_
  cases x with
  | d d => exact q1.elim
  | r n =>
    have q1 : Post T W H1 G1 (match G1.st[n]? with
      | some (.dic kvs) => (match keysI kvs with
        | some ns => mk o (ns.map .int) G1.st
        | none => .bad)
      | _ => .bad) (fun x H' G' => ∀ v, RepV T H' G' x v → Q v H') := q1
    split at q1
    · rename_i kvs ec
      obtain ⟨a, kus, rfl, eg, eh, rk⟩ := dic_cell s1 r1 ec
      split at q1
      · rename_i ns ek
        have ks : (kus.map fun kv => kV kv.1) = ns.map V.int := by
          have e := congrArg (List.map kV) (rk.to.1.trans (keysI_map ek))
          rw [List.map_map, List.map_map] at e
          exact e
        refine ⟨a, kus, rfl, .inl eh, fun p hp => ?_⟩
        rw [ks]
        exact mk_new q1 s1 (Reps.ints ns) p hp
      · exact q1.elim
    · exact q1.elim
/-- d == {} -/
def rEmp : R2 := fun x y H Q => ∃ a b ks, x = .ref a ∧ y = .ref b ∧ H a = some (.dK ks) ∧ Rd H b (.dK []) ∧ Q (.bl ks.isEmpty) H
theorem op_emp {X : Cx} (hu : X.A.units < cLine) : OpR X (compareOp .Eq) rEmp := by
  intro pins s σ H x y v u Q I rx ry h
  obtain ⟨a, b, ks, rfl, rfl, ea, eb, q⟩ := h
  obtain rfl : v = Value.ref a := rx
  obtain rfl : u = Value.ref b := ry
  obtain ⟨_, ya, va, ra, da⟩ := dk_of I.hok ea
  obtain ⟨_, yb, vb, rb, db⟩ := dk_rd I.hok eb
  have hb : vb = [] := List.eq_nil_of_length_eq_zero (by rw [← rb.length]; rfl)
  subst hb
  have ha := ra.length
  refine PySem.W.keq_eq (knd := mixKind X.prog X.w) (r := true) ya yb da db hu (fun hl => ?_) (fin_bl I q ?_)
  · have : va = [] := List.eq_nil_of_length_eq_zero hl
    subst this
    exact .nil
  · cases ks with
    | nil => cases va with
      | nil => rfl
      | cons _ _ => cases ha
    | cons _ _ => cases va with
      | nil => cases ha
      | cons _ _ => rfl
theorem emp_imp {W : WX} {a : E} {σ : L2.St} {H : Hp} {Q : VK} (h : tE T C W (.emp a) σ H Q) : tOp rEmp (tE T C W a) (tE T C W .dct0) σ H Q := by
  obtain ⟨ρ, G, he, hs, q⟩ := h
  refine tE_bind he hs q fun y v H1 G1 x1 s1 e1 r1 q1 => ⟨ρ, G1, e1, s1, ?_⟩
  cases y with
  | d d => exact q1.elim
  | r n =>
    have q1 : Post T W H1 G1 (match G1.st[n]? with
      | some (.dic kvs) => .ok (.d (.bl kvs.isEmpty)) G1.st
      | _ => .bad) (fun x H' G' => ∀ v, RepV T H' G' x v → Q v H') := q1
    split at q1
    · rename_i kvs ec
      intro H2 G2 e2 x2 s2 u ru
      have ec2 : G2.st[n]? = some (.dic kvs) := by rw [e2]; exact ec
      obtain ⟨a, kus, rfl, eg, eh, rk⟩ := dic_cell s2 (r1.mono x2.mon) ec2
      obtain ⟨b, rfl, eb, _⟩ := ru
      refine ⟨a, b, kus, rfl, rfl, eh, eb, ?_⟩
      have q2 := q1 H2 G2 e2 x2 s2 (.bl kvs.isEmpty) rfl
      have hl := congrArg List.length rk.to.1
      have hh : kus.isEmpty = kvs.isEmpty := by
        cases kus <;> cases kvs <;> simp at hl <;> rfl
      rw [hh]
      exact q2
    · exact q1.elim
theorem emp_both {X : Cx} {W : WX} {a : E} {e f : Expr} {p : Pos} (hX : XOk T P C lvl W X) (hf : asDct0 f = true) (h : PE X e (tE T C W a)) : Both T C X W (.emp a) (.Compare e [.Eq] [f] p) := by
  have hd : PE X f (tE T C W .dct0) := dct_pe hf
  have hn : noSet f = true := by
    unfold asDct0 at hf
    split at hf
    · rfl
    · cases hf
  exact ⟨PE.imp (pe_cmpR (op_emp (Nat.lt_of_succ_lt (hu_of hX.rm))) h hd (noSet_mk hn)) fun σ H Q h => emp_imp h, fun _ => PT.imp (pt_cmpR (op_emp (Nat.lt_of_succ_lt (hu_of hX.rm))) h hd (noSet_mk hn)) fun σ H Q h => emp_imp (tt_here h), fun _ ⟨_, _, _, e⟩ => by cases e⟩
mutual
theorem sE : ∀ (m : E) {X : Cx} {W : WX} (_ : XOk T P C lvl W X) (e : Expr), chkE P X.N m X.env.scope e = true → Both T C X W m e
  | .var i, X, W, hX, e, hc => by
    obtain ⟨x, h1, h⟩ := opt_ok hc
    obtain ⟨p, rfl⟩ := asName_ok h1
    exact both_val rfl (slot_var h)
  | .con d, X, W, hX, e, hc => by
    obtain ⟨x, h1, h⟩ := opt_ok hc
    obtain ⟨k, p, rfl⟩ := asCon_ok h1
    exact both_val rfl (con_ok h)
  | .glb x v, X, W, hX, e, hc => by
    obtain ⟨y, h1, h⟩ := opt_ok hc
    obtain ⟨p, rfl⟩ := asName_ok h1
    obtain ⟨h, h3⟩ := and2 h
    obtain ⟨h, h2⟩ := and2 h
    have e : x = y := of_decide_eq_true h
    subst e
    obtain ⟨w, e1, e2⟩ := opt_ok h3
    have e2 := beqD_eq _ _ e2
    subst e2
    exact both_val rfl (glb_pe hX h2 e1)
  | .op o a b, X, W, hX, e, hc => by
    obtain ⟨y, h1, h⟩ := opt_ok hc
    obtain ⟨p, rfl⟩ := asBin_ok h1
    obtain ⟨h, h3⟩ := and2 h
    obtain ⟨h, h2⟩ := and2 h
    rw [show y.2.1 = bop o from of_decide_eq_true h]
    exact both_val rfl (sE_op hX.toXLt (sE a hX _ h2).1 (sE b hX _ h3).1)
  | .cmp o a b, X, W, hX, e, hc => by
    obtain ⟨y, h1, h⟩ := opt_ok hc
    obtain ⟨p, rfl⟩ := asCmp_ok h1
    obtain ⟨h, h3⟩ := and2 h
    obtain ⟨h, h2⟩ := and2 h
    obtain ⟨h, h4⟩ := and2 h
    rw [show y.2.1 = cop o from of_decide_eq_true h]
    exact ⟨sE_cmp hX.toXLt (noSet_mk h4) (sE a hX _ h2).1 (sE b hX _ h3).1, fun _ => sT_cmp hX.toXLt (noSet_mk h4) (sE a hX _ h2).1 (sE b hX _ h3).1, fun _ ⟨_, _, _, e⟩ => by cases e⟩
  | .cmp2 o o' a b c, X, W, hX, e, hc => by
    obtain ⟨y, h1, h⟩ := opt_ok hc
    obtain ⟨p, rfl⟩ := asCmp2_ok h1
    obtain ⟨h, h5⟩ := and2 h
    obtain ⟨h, h3⟩ := and2 h
    obtain ⟨h, h2⟩ := and2 h
    obtain ⟨h, h4⟩ := and2 h
    obtain ⟨h, h6⟩ := and2 h
    rw [show y.2.1 = cop o from of_decide_eq_true h, show y.2.2.2.1 = cop o' from of_decide_eq_true h6]
    exact ⟨sE_cmp2 hX (noSet_last h4) (sE a hX _ h2).1 (sE b hX _ h3).1 (sE c hX _ h5).1, fun _ => sT_cmp2 hX (noSet_last h4) (sE a hX _ h2).1 (sE b hX _ h3).1 (sE c hX _ h5).1, fun _ ⟨_, _, _, e⟩ => by cases e⟩
  | .isN a, X, W, hX, e, hc => by
    obtain ⟨y, h1, h⟩ := opt_ok hc
    obtain ⟨p, rfl⟩ := asCmp_ok h1
    obtain ⟨h, h2⟩ := and2 h
    obtain ⟨h, h3⟩ := and2 h
    obtain ⟨k, p2, e2⟩ := asCon_ok (of_decide_eq_true h3)
    rw [show y.2.1 = .Is from of_decide_eq_true h, e2]
    have z := pc_isN (j := k) (pos' := p2) (sE a hX _ h2).1
    exact ⟨PE.imp (pe_cmp z) fun σ H Q h => isN_imp h, fun _ => PT.imp (pt_cmp z) fun σ H Q h => isN_imp (tt_here h), fun _ ⟨_, _, _, e⟩ => by cases e⟩
  | .notN a, X, W, hX, e, hc => by
    obtain ⟨y, h1, h⟩ := opt_ok hc
    obtain ⟨p, rfl⟩ := asCmp_ok h1
    obtain ⟨h, h2⟩ := and2 h
    obtain ⟨h, h3⟩ := and2 h
    obtain ⟨k, p2, e2⟩ := asCon_ok (of_decide_eq_true h3)
    rw [show y.2.1 = .IsNot from of_decide_eq_true h, e2]
    have z := pc_notN (j := k) (pos' := p2) (sE a hX _ h2).1
    exact ⟨PE.imp (pe_cmp z) fun σ H Q h => notN_imp h, fun _ => PT.imp (pt_cmp z) fun σ H Q h => notN_imp (tt_here h), fun _ ⟨_, _, _, e⟩ => by cases e⟩
  | .neg a, X, W, hX, e, hc => by
    obtain ⟨y, h1, h⟩ := opt_ok hc
    obtain ⟨p, rfl⟩ := asUn_ok h1
    obtain ⟨h, h2⟩ := and2 h
    rw [show y.1 = .USub from of_decide_eq_true h]
    exact both_val rfl (sE_neg (sE a hX _ h2).1)
  | .not a, X, W, hX, e, hc => by
    obtain ⟨y, h1, h⟩ := opt_ok hc
    obtain ⟨p, rfl⟩ := asUn_ok h1
    obtain ⟨h, h2⟩ := and2 h
    rw [show y.1 = .Not from of_decide_eq_true h]
    have z := sE a hX _ h2
    exact ⟨sE_not z.1, fun t => sT_not (z.2.1 t), fun _ ⟨_, _, _, e⟩ => by cases e⟩
  | .and a b, X, W, hX, e, hc => by
    obtain ⟨y, h1, h⟩ := opt_ok hc
    obtain ⟨h, h3⟩ := and2 h
    obtain ⟨h, h2⟩ := and2 h
    exact both_and h1 (of_decide_eq_true h) (sE a hX _ h2) (sE b hX _ h3)
  | .or a b, X, W, hX, e, hc => by
    obtain ⟨y, h1, h⟩ := opt_ok hc
    obtain ⟨h, h3⟩ := and2 h
    obtain ⟨h, h2⟩ := and2 h
    exact both_or h1 (of_decide_eq_true h) (sE a hX _ h2) (sE b hX _ h3)
  | .ite c a b, X, W, hX, e, hc => by
    obtain ⟨y, h1, h⟩ := opt_ok hc
    obtain ⟨p, rfl⟩ := asIf_ok h1
    obtain ⟨h, h3⟩ := and2 h
    obtain ⟨h, h2⟩ := and2 h
    obtain ⟨h, h4⟩ := and2 h
    exact ⟨sE_ite ((sE c hX _ h4).2.1 h) (sE a hX _ h2).1 (sE b hX _ h3).1, (fun t => by cases t), (fun t => by cases t)⟩
  | .tup es, X, W, hX, e, hc => by
    obtain ⟨y, h1, h⟩ := opt_ok hc
    obtain ⟨k, p, rfl⟩ := asTup_ok h1
    exact both_val rfl (sE_tup (sDs es hX _ h).2)
  | .lst o es, X, W, hX, e, hc => by
    obtain ⟨y, h1, h⟩ := opt_ok hc
    obtain ⟨p, rfl⟩ := asLst_ok h1
    exact both_val rfl (sE_lst (sDs es hX _ h).2)
  | .idx a i, X, W, hX, e, hc => by
    obtain ⟨y, h1, h⟩ := opt_ok hc
    obtain ⟨p, rfl⟩ := asSub_ok h1
    obtain ⟨h, h3⟩ := and2 h
    obtain ⟨h, h2⟩ := and2 h
    exact both_val rfl (sE_idx hX.toXLt h (sE a hX _ h2).1 (sE i hX _ h3).1)
  | .sl a lo hi, X, W, hX, e, hc => by
    obtain ⟨y, h1, h⟩ := opt_ok hc
    obtain ⟨p, rfl⟩ := asSub_ok h1
    obtain ⟨z, h2, h⟩ := opt_ok h
    obtain ⟨p2, e2⟩ := asSl_ok h2
    rw [e2]
    obtain ⟨h, h3⟩ := and2 h
    obtain ⟨h, h4⟩ := and2 h
    exact both_val rfl (sE_sl hX (sE a hX _ h).1 (sO lo hX _ h4) (sO hi hX _ h3))
  | .rev a, X, W, hX, e, hc => by
    obtain ⟨y, h1, h⟩ := opt_ok hc
    obtain ⟨k, rfl⟩ := asRev_ok h1
    exact both_val rfl (sE_rev hX (sE a hX _ h).1)
  | .b1 f a, X, W, hX, e, hc => by
    obtain ⟨y, h1, h⟩ := opt_ok hc
    obtain ⟨p, q, rfl⟩ := asCall_ok h1
    obtain ⟨z, h2, h⟩ := opt_ok h
    rw [as1_ok h2]
    obtain ⟨h, h3⟩ := and2 h
    obtain ⟨h, h4⟩ := and2 h
    obtain ⟨h, h5⟩ := and2 h
    obtain ⟨h, h6⟩ := and2 h
    have e : y.1 = b1N f := of_decide_eq_true h6
    rw [e] at h5 ⊢
    exact both_val rfl (sE_b1 hX h h5 h4 (sE a hX _ h3).1)
  | .cpy a, X, W, hX, e, hc => by
    obtain ⟨y, h1, h⟩ := opt_ok hc
    obtain ⟨p, q, rfl⟩ := asCall_ok h1
    obtain ⟨z, h2, h⟩ := opt_ok h
    rw [as1_ok h2]
    obtain ⟨h, h3⟩ := and2 h
    obtain ⟨h, h4⟩ := and2 h
    obtain ⟨h, h5⟩ := and2 h
    have e : y.1 = "list" := of_decide_eq_true h
    rw [e] at h5 ⊢
    exact both_val rfl (cpy_pe hX h5 h4 (sE a hX _ h3).1)
  | .b2 f a b, X, W, hX, e, hc => by
    obtain ⟨y, h1, h⟩ := opt_ok hc
    obtain ⟨p, q, rfl⟩ := asCall_ok h1
    obtain ⟨z, h2, h⟩ := opt_ok h
    rw [as2_ok h2]
    obtain ⟨h, h3⟩ := and2 h
    obtain ⟨h, h4⟩ := and2 h
    obtain ⟨h, h5⟩ := and2 h
    obtain ⟨h, h6⟩ := and2 h
    obtain ⟨h, h7⟩ := and2 h
    obtain ⟨h, h8⟩ := and2 h
    have e : y.1 = b2N f := of_decide_eq_true h8
    rw [e] at h7 ⊢
    exact both_val rfl (sE_b2 hX h h7 h6 h5 (sE a hX _ h4).1 (sE b hX _ h3).1)
  | .isi a t, X, W, hX, e, hc => by
    obtain ⟨y, h1, h⟩ := opt_ok hc
    obtain ⟨p, q, rfl⟩ := asCall_ok h1
    obtain ⟨z, h2, h⟩ := opt_ok h
    rw [as2_ok h2]
    obtain ⟨w, h3, h⟩ := opt_ok h
    obtain ⟨p2, e2⟩ := asName_ok h3
    obtain ⟨h, h3⟩ := and2 h
    obtain ⟨h, h4⟩ := and2 h
    obtain ⟨h, h5⟩ := and2 h
    obtain ⟨h, h6⟩ := and2 h
    obtain ⟨h, h7⟩ := and2 h
    have e : y.1 = "isinstance" := of_decide_eq_true h
    have e3 : w = Str.ofString (tyN t) := of_decide_eq_true h6
    rw [e2, e3]
    rw [e] at h7 ⊢
    rw [e3] at h5
    exact both_val rfl (sE_isi hX h7 h5 h4 (sE a hX _ h3).1)
  | .minN es, X, W, hX, e, hc => by
    obtain ⟨y, h1, h⟩ := opt_ok hc
    obtain ⟨p, q, rfl⟩ := asCall_ok h1
    obtain ⟨h, h3⟩ := and2 h
    obtain ⟨h, h4⟩ := and2 h
    obtain ⟨h, h5⟩ := and2 h
    rw [show y.1 = "min" from of_decide_eq_true h]
    exact both_val rfl (min_pe hX h5 (nBool h4) (chkEs_ix h3) (sDs es hX _ h3).1)
  | .call k es, X, W, hX, e, hc => by
    obtain ⟨y, h1, h⟩ := opt_ok hc
    obtain ⟨p, q, rfl⟩ := asCall_ok h1
    obtain ⟨h, h3⟩ := and2 h
    obtain ⟨h, h4⟩ := and2 h
    obtain ⟨h, h5⟩ := and2 h
    exact both_val rfl (sE_call hX (of_decide_eq_true h) h5 (nBool h4) (chkEs_ix h3) (sDs es hX _ h3).1)
  | .fldI c a f, X, W, hX, e, hc => by
    obtain ⟨y, h1, h⟩ := opt_ok hc
    obtain ⟨p, rfl⟩ := asAttr_ok h1
    obtain ⟨h, h3⟩ := and2 h
    obtain ⟨h, h4⟩ := and2 h
    obtain ⟨h, h5⟩ := and2 h
    rw [show y.2 = f from of_decide_eq_true h]
    exact both_val rfl (sE_fldI hX h5 h4 (sE a hX _ h3).1)
  | .new c k es, X, W, hX, e, hc => by
    obtain ⟨y, h1, h⟩ := opt_ok hc
    obtain ⟨p, q, rfl⟩ := asCall_ok h1
    obtain ⟨h, h3⟩ := and2 h
    obtain ⟨h, h4⟩ := and2 h
    exact both_val rfl (sE_new hX h h4 h3 (chkEs_ix h3) (sDs es hX _ h3).1)
  | .meth w c m k a es, X, W, hX, e, hc => by
    obtain ⟨y, h1, h⟩ := opt_ok hc
    rw [asMeth_ok h1]
    obtain ⟨h, h3⟩ := and2 h
    obtain ⟨h, h4⟩ := and2 h
    obtain ⟨h, h5⟩ := and2 h
    obtain ⟨h, h6⟩ := and2 h
    obtain ⟨h, h7⟩ := and2 h
    rw [show y.n = m from of_decide_eq_true h]
    exact both_val rfl (sE_meth hX h7 (and2 h6).1 (and2 h6).2 (of_decide_eq_true h5) h3 (chkEs_ix h3) (sE a hX _ h4).1 (sDs es hX _ h3).1)
  | .callo k es, X, W, hX, e, hc => by
    obtain ⟨y, h1, h⟩ := opt_ok hc
    obtain ⟨p, q, rfl⟩ := asCall_ok h1
    obtain ⟨h, h3⟩ := and2 h
    obtain ⟨h, h4⟩ := and2 h
    obtain ⟨h, h5⟩ := and2 h
    exact both_val rfl (sE_callo hX (of_decide_eq_true h) h5 (nBool h4) (chkEs_ix h3) (sDs es hX _ h3).1)
  | .pick _ _ _, X, W, hX, e, hc => by cases hc
  | .isx a y, X, W, hX, e, hc => by
    obtain ⟨x, h1, h⟩ := opt_ok hc
    obtain ⟨p, q, rfl⟩ := asCall_ok h1
    obtain ⟨w, h2, h⟩ := opt_ok h
    rw [as2_ok h2]
    obtain ⟨z, h3, h⟩ := opt_ok h
    obtain ⟨p2, h3⟩ := asName_ok h3
    rw [h3]
    obtain ⟨h, a1⟩ := and2 h
    obtain ⟨h, a2⟩ := and2 h
    obtain ⟨h, a3⟩ := and2 h
    obtain ⟨h, a4⟩ := and2 h
    obtain ⟨h, a5⟩ := and2 h
    rw [show x.1 = "isinstance" from of_decide_eq_true h] at a5 ⊢
    exact both_val rfl (sE_isxC hX a5 (of_decide_eq_true a4) a3 a2 (sE a hX _ a1).1)
  | .isv a, X, W, hX, e, hc => by
    obtain ⟨x, h1, h⟩ := opt_ok hc
    obtain ⟨p, q, rfl⟩ := asCall_ok h1
    obtain ⟨w, h2, h⟩ := opt_ok h
    rw [as2_ok h2]
    obtain ⟨z, h3, h⟩ := opt_ok h
    obtain ⟨p2, h3⟩ := asName_ok h3
    rw [h3]
    obtain ⟨h, a1⟩ := and2 h
    obtain ⟨h, a2⟩ := and2 h
    obtain ⟨h, a3⟩ := and2 h
    obtain ⟨h, a4⟩ := and2 h
    obtain ⟨h, a5⟩ := and2 h
    rw [show x.1 = "isinstance" from of_decide_eq_true h] at a5 ⊢
    rw [show z = "ValueError" from of_decide_eq_true a4] at a3 ⊢
    exact both_val rfl (sE_isvC hX a5 a3 a2 (sE a hX _ a1).1)
  | .fld a b, X, W, hX, e, hc => by
    obtain ⟨x, h1, h⟩ := opt_ok hc
    obtain ⟨p, rfl⟩ := asAttr_ok h1
    obtain ⟨h, a1⟩ := and2 h
    obtain ⟨h, a2⟩ := and2 h
    exact both_val rfl (sE_fldC hX a2 (sE a hX _ a1).1)
  | .callz k es, X, W, hX, e, hc => by
    obtain ⟨y, h1, h⟩ := opt_ok hc
    obtain ⟨p, q, rfl⟩ := asCall_ok h1
    obtain ⟨h, h3⟩ := and2 h
    obtain ⟨h, h4⟩ := and2 h
    obtain ⟨h, h5⟩ := and2 h
    exact both_val rfl (sE_callz hX (of_decide_eq_true h) h5 (nBool h4) (chkEs_ix h3) (sDs es hX _ h3).1)
  | .dct0, X, W, hX, e, hc => by
    refine both_val ?_ (dct_pe hc)
    have hc : asDct0 e = true := hc
    unfold asDct0 at hc
    split at hc
    · rfl
    · cases hc
  | .frz a, X, W, hX, e, hc => ⟨frz_pe (sE a hX e hc).1, (fun t => by cases t), (fun t => by cases t)⟩
  | .comp o e t it c own, X, W, hX, f, hc => by
    obtain ⟨y, h1, h⟩ := opt_ok hc
    obtain ⟨p, rfl⟩ := asComp_ok h1
    obtain ⟨h, h3⟩ := and2 h
    obtain ⟨h, h4⟩ := and2 h
    obtain ⟨h, h5⟩ := and2 h
    obtain ⟨h, h6⟩ := and2 h
    obtain ⟨h, h7⟩ := and2 h
    obtain ⟨h, h8⟩ := and2 h
    obtain ⟨h, h9⟩ := and2 h
    obtain ⟨h, h10⟩ := and2 h
    refine both_val rfl (sE_comp hX (sI it hX _ _ h) (blkOk_by h9) (of_decide_eq_true h8) (fun i hi => by simpa using List.all_eq_true.mp h5 i hi) (fun s H Ca cl fp => ?_) (fun s H Ca cl fp => ?_) (fun s H Ca cl fp => ?_) (noSet_fold h6 _))
    · exact pg_tg (X := X.blk s H y.scope (compEnvC y.scope cl Ca X.env) fp) hX.K hX.calm (fun i x _ hl => stores_blk hX.nd hl) h10
    · exact sC c (hX.blk s H y.scope _ fp) _ h4
    · exact (sE e (hX.blk s H y.scope (compEnvC y.scope cl Ca X.env) fp) _ h3).1
  | .stuck, X, W, hX, e, hc => ⟨PE.none fun _ _ => rfl, fun _ => ⟨fun pins s σ H Q I ⟨ρ, G, he, hs, q⟩ => q.elim⟩, fun _ _ => ⟨fun w pins s σ H Q I ⟨ρ, G, he, hs, q⟩ => q.elim⟩⟩
  | .fnv k, X, W, hX, e, hc => by
    obtain ⟨x, h1, h⟩ := opt_ok hc
    obtain ⟨p, rfl⟩ := asName_ok h1
    obtain ⟨h, h2⟩ := and2 h
    exact both_val rfl (fnv_pe hX (of_decide_eq_true h) h2)
  | .calle f es, X, W, hX, e, hc => by
    obtain ⟨x, h1, h⟩ := opt_ok hc
    have e1 := asCal_ok h1
    subst e1
    obtain ⟨h, h3⟩ := and2 h
    obtain ⟨h, h4⟩ := and2 h
    obtain ⟨h, h5⟩ := and2 h
    exact both_val rfl (sE_calle hX h (nBool h5) (chkEs_ix h3) (sE f hX _ h4).1 (sDs es hX _ h3).1)
  | .l1 o f a, X, W, hX, e, hc => by
    rcases or2 hc with hc | hc
    · obtain ⟨y, h1, h⟩ := opt_ok hc
      obtain ⟨p, q, rfl⟩ := asCall_ok h1
      obtain ⟨z, h2, h⟩ := opt_ok h
      rw [as1_ok h2]
      obtain ⟨h, h3⟩ := and2 h
      obtain ⟨h, h4⟩ := and2 h
      obtain ⟨h, h5⟩ := and2 h
      obtain ⟨h, h6⟩ := and2 h
      have e2 : y.1 = l1N f := of_decide_eq_true h6
      rw [e2] at h5 ⊢
      exact both_val rfl (l1_pe hX h h5 h4 (sE a hX _ h3).1)
    · rcases or2 hc with hc | hc
      · obtain ⟨hf, h⟩ := and2 hc
        obtain ⟨y, h1, h⟩ := opt_ok h
        obtain ⟨h, h3⟩ := and2 h
        obtain ⟨h, h4⟩ := and2 h
        rw [asSum0_ok h1]
        obtain rfl : f = .sumcat := of_decide_eq_true hf
        exact both_val rfl (sumcat_pe hX h h4 (sE a hX _ h3).1)
      · rcases or2 hc with hc | hc
        · obtain ⟨hf, hc⟩ := and2 hc
          obtain ⟨y, h1, h⟩ := opt_ok hc
          obtain ⟨p, q, rfl⟩ := asCall_ok h1
          obtain ⟨z, h2, h⟩ := opt_ok h
          rw [as1_ok h2]
          obtain ⟨w, h3, h⟩ := opt_ok h
          obtain ⟨p2, q2, h3⟩ := asCall_ok h3
          obtain ⟨v, h4, h⟩ := opt_ok h
          rw [h3, as1_ok h4]
          obtain ⟨h, h5⟩ := and2 h
          obtain ⟨h, h6⟩ := and2 h
          obtain ⟨h, h7⟩ := and2 h
          obtain ⟨h, h8⟩ := and2 h
          obtain ⟨h, h9⟩ := and2 h
          rw [show y.1 = "sorted" from of_decide_eq_true h, show w.1 = "set" from of_decide_eq_true h8]
          rcases (of_decide_eq_true hf : f = .sortset ∨ f = .sortpairs) with rfl | rfl
          · exact both_val rfl (sortset_pe hX h9 h7 h6 (sE a hX _ h5).1)
          · exact both_val rfl (sortpairs_pe hX h9 h7 h6 (sE a hX _ h5).1)
        · obtain ⟨hf, hc⟩ := and2 hc
          obtain ⟨y, h1, h⟩ := opt_ok hc
          obtain ⟨p, q, rfl⟩ := asCall_ok h1
          obtain ⟨z, h2, h⟩ := opt_ok h
          rw [as1_ok h2]
          obtain ⟨w, h3, h⟩ := opt_ok h
          obtain ⟨p2, q2, h3⟩ := asCall_ok h3
          obtain ⟨v, h4, h⟩ := opt_ok h
          rw [h3, as1_ok h4]
          obtain ⟨h, h5⟩ := and2 h
          obtain ⟨h, h6⟩ := and2 h
          obtain ⟨h, h7⟩ := and2 h
          obtain ⟨h, h8⟩ := and2 h
          obtain ⟨h, h9⟩ := and2 h
          rw [show y.1 = "list" from of_decide_eq_true h, show w.1 = "range" from of_decide_eq_true h8]
          obtain rfl : f = .range := of_decide_eq_true hf
          exact both_val rfl (sE_lrange hX h9 h7 h6 (sE a hX _ h5).1)
  | .m1 f a b, X, W, hX, e, hc => by
    obtain ⟨y, h1, h⟩ := opt_ok hc
    obtain ⟨z, h2, h⟩ := opt_ok h
    rw [asMeth_ok h1]
    rw [as1_ok h2]
    obtain ⟨h, h3⟩ := and2 h
    obtain ⟨h, h4⟩ := and2 h
    obtain ⟨h, h5⟩ := and2 h
    obtain ⟨h, h6⟩ := and2 h
    obtain ⟨h, h7⟩ := and2 h
    rw [show y.n = m1N f from of_decide_eq_true h7]
    exact both_val rfl (m1_pe hX.toXLt h (and2 h6).1 (and2 h6).2 h5 (sE a hX _ h4).1 (sE b hX _ h3).1)
  | .popi a i, X, W, hX, e, hc => by
    obtain ⟨y, h1, h⟩ := opt_ok hc
    obtain ⟨z, h2, h⟩ := opt_ok h
    rw [asMeth_ok h1]
    rw [as1_ok h2]
    obtain ⟨h, h3⟩ := and2 h
    obtain ⟨h, h4⟩ := and2 h
    obtain ⟨h, h5⟩ := and2 h
    obtain ⟨h, h6⟩ := and2 h
    rw [show y.n = "pop" from of_decide_eq_true h]
    exact both_val rfl (sE_popi hX (and2 h6).1 (and2 h6).2 h5 (sE a hX _ h4).1 (sE i hX _ h3).1)
  | .opo a b, X, W, hX, e, hc => by
    obtain ⟨y, h1, h⟩ := opt_ok hc
    obtain ⟨p, rfl⟩ := asBin_ok h1
    obtain ⟨h, h3⟩ := and2 h
    obtain ⟨h, h2⟩ := and2 h
    rw [show y.2.1 = bop .add from of_decide_eq_true h]
    exact both_val rfl (sE_opo hX.toXLt (sE a hX _ h2).1 (sE b hX _ h3).1)
  | .join a b, X, W, hX, e, hc => by
    obtain ⟨y, h1, h⟩ := opt_ok hc
    obtain ⟨z, h2, h⟩ := opt_ok h
    rw [asMeth_ok h1]
    rw [as1_ok h2]
    obtain ⟨h, h3⟩ := and2 h
    obtain ⟨h, h4⟩ := and2 h
    obtain ⟨h, h5⟩ := and2 h
    obtain ⟨h, h6⟩ := and2 h
    rw [show y.n = "join" from of_decide_eq_true h]
    exact both_val rfl (join_pe hX (and2 h6).1 (and2 h6).2 h5 (sE a hX _ h4).1 (sE b hX _ h3).1)
  | .lsd o a, X, W, hX, e, hc => by
    obtain ⟨y, h1, h⟩ := opt_ok hc
    obtain ⟨p, q, rfl⟩ := asCall_ok h1
    obtain ⟨z, h2, h⟩ := opt_ok h
    rw [as1_ok h2]
    obtain ⟨h, h3⟩ := and2 h
    obtain ⟨h, h4⟩ := and2 h
    obtain ⟨h, h5⟩ := and2 h
    rw [show y.1 = "list" from of_decide_eq_true h]
    exact both_val rfl (lsd_pe hX h5 h4 (sE a hX _ h3).1)
  | .emp a, X, W, hX, e, hc => by
    obtain ⟨x, h1, h⟩ := opt_ok hc
    obtain ⟨p, rfl⟩ := asCmp_ok h1
    obtain ⟨h, h3⟩ := and2 h
    obtain ⟨h, h4⟩ := and2 h
    rw [show x.2.1 = .Eq from of_decide_eq_true h]
    exact emp_both hX h4 (sE a hX _ h3).1
  | .splt w a b, X, W, hX, e, hc => by
    obtain ⟨y, h1, h⟩ := opt_ok hc
    obtain ⟨z, h2, h⟩ := opt_ok h
    rw [asMeth_ok h1]
    rw [as1_ok h2]
    obtain ⟨h, h3⟩ := and2 h
    obtain ⟨h, h4⟩ := and2 h
    obtain ⟨h, h5⟩ := and2 h
    obtain ⟨h, h6⟩ := and2 h
    rw [show y.n = "split" from of_decide_eq_true h]
    exact both_val rfl (split_pe hX (and2 h6).1 (and2 h6).2 h5 (sE a hX _ h4).1 (sE b hX _ h3).1)
  | .strI a, X, W, hX, e, hc => by
    obtain ⟨y, h1, h⟩ := opt_ok hc
    obtain ⟨p, q, rfl⟩ := asCall_ok h1
    obtain ⟨z, h2, h⟩ := opt_ok h
    rw [as1_ok h2]
    obtain ⟨h, h3⟩ := and2 h
    obtain ⟨h, h4⟩ := and2 h
    obtain ⟨h, h5⟩ := and2 h
    rw [show y.1 = "str" from of_decide_eq_true h]
    exact both_val rfl (strI_pe hX h5 h4 (sE a hX _ h3).1)
  | .rep a, X, W, hX, e, hc => by
    obtain ⟨y, h1, h⟩ := opt_ok hc
    obtain ⟨p, q, rfl⟩ := asCall_ok h1
    obtain ⟨z, h2, h⟩ := opt_ok h
    rw [as1_ok h2]
    obtain ⟨h, h3⟩ := and2 h
    obtain ⟨h, h4⟩ := and2 h
    obtain ⟨h, h5⟩ := and2 h
    rw [show y.1 = "repr" from of_decide_eq_true h]
    exact both_val rfl (rep_pe hX h5 h4 (sE a hX _ h3).1)
  | .revt a, X, W, hX, e, hc => by
    obtain ⟨y, h1, h⟩ := opt_ok hc
    obtain ⟨p, q, rfl⟩ := asCall_ok h1
    obtain ⟨z, h2, h⟩ := opt_ok h
    rw [as1_ok h2]
    obtain ⟨w, h3, h⟩ := opt_ok h
    obtain ⟨p2, q2, h3⟩ := asCall_ok h3
    obtain ⟨v, h4, h⟩ := opt_ok h
    rw [h3, as1_ok h4]
    obtain ⟨h, h5⟩ := and2 h
    obtain ⟨h, h6⟩ := and2 h
    obtain ⟨h, h7⟩ := and2 h
    obtain ⟨h, h8⟩ := and2 h
    obtain ⟨h, h9⟩ := and2 h
    rw [show y.1 = "tuple" from of_decide_eq_true h, show w.1 = "reversed" from of_decide_eq_true h8]
    exact both_val rfl (revt_pe hX h9 h7 h6 (sE a hX _ h5).1)
  | .lens a, X, W, hX, e, hc => by
    obtain ⟨y, h1, h⟩ := opt_ok hc
    obtain ⟨p, q, rfl⟩ := asCall_ok h1
    obtain ⟨z, h2, h⟩ := opt_ok h
    rw [as1_ok h2]
    obtain ⟨w, h3, h⟩ := opt_ok h
    obtain ⟨p2, q2, h3⟩ := asCall_ok h3
    obtain ⟨v, h4, h⟩ := opt_ok h
    rw [h3, as1_ok h4]
    obtain ⟨h, h5⟩ := and2 h
    obtain ⟨h, h6⟩ := and2 h
    obtain ⟨h, h7⟩ := and2 h
    obtain ⟨h, h8⟩ := and2 h
    obtain ⟨h, h9⟩ := and2 h
    rw [show y.1 = "len" from of_decide_eq_true h, show w.1 = "set" from of_decide_eq_true h8]
    exact both_val rfl (lens_pe hX h9 h7 h6 (sE a hX _ h5).1)
  | .bits a, X, W, hX, e, hc => by
    obtain ⟨y, h1, h⟩ := opt_ok hc
    obtain ⟨h, h2⟩ := and2 h
    obtain ⟨h, h3⟩ := and2 h
    obtain ⟨h, h4⟩ := and2 h
    rw [asMeth_ok h1, List.isEmpty_iff.mp h, show y.n = "bit_length" from of_decide_eq_true h4]
    exact both_val rfl (bits_pe (and2 h3).1 (and2 h3).2 (sE a hX _ h2).1)
  | .dnw ks es, X, W, hX, e, hc => by
    obtain ⟨y, h1, h⟩ := opt_ok hc
    obtain ⟨p, rfl⟩ := asDct_ok h1
    obtain ⟨h, h2⟩ := and2 h
    obtain ⟨h, h3⟩ := and2 h
    obtain ⟨h, h4⟩ := and2 h
    exact both_val rfl (dnw_pe h (of_decide_eq_true h4) (of_decide_eq_true h3) (chkEs_len h2) (sEach es hX _ h2))
  | .sortd o a, X, W, hX, e, hc => by
    obtain ⟨y, h1, h⟩ := opt_ok hc
    obtain ⟨p, q, rfl⟩ := asCall_ok h1
    obtain ⟨z, h2, h⟩ := opt_ok h
    rw [as1_ok h2]
    obtain ⟨h, h3⟩ := and2 h
    obtain ⟨h, h4⟩ := and2 h
    obtain ⟨h, h5⟩ := and2 h
    rw [show y.1 = "sorted" from of_decide_eq_true h]
    exact both_val rfl (sortd_pe hX h5 h4 (sE a hX _ h3).1)
  | .dget d k x, X, W, hX, e, hc => by
    obtain ⟨y, h1, h⟩ := opt_ok hc
    obtain ⟨z, h2, h⟩ := opt_ok h
    rw [asMeth_ok h1, as2_ok h2]
    obtain ⟨h, a1⟩ := and2 h
    obtain ⟨h, a2⟩ := and2 h
    obtain ⟨h, a3⟩ := and2 h
    obtain ⟨h, a4⟩ := and2 h
    obtain ⟨h, a5⟩ := and2 h
    obtain ⟨h, a6⟩ := and2 h
    rw [show y.n = "get" from of_decide_eq_true h]
    exact both_val rfl (dget_pe hX (and2 a6).1 (and2 a6).2 a5 a4 (sE d hX _ a3).1 (sE k hX _ a2).1 (sE x hX _ a1).1)
  | .dgetK kvs k x, X, W, hX, e, hc => by
    obtain ⟨y, h1, h⟩ := opt_ok hc
    obtain ⟨z, h2, h⟩ := opt_ok h
    obtain ⟨d, h3, h⟩ := opt_ok h
    obtain ⟨dp, h3⟩ := asDct_ok h3
    rw [asMeth_ok h1, as2_ok h2, h3]
    obtain ⟨h, a1⟩ := and2 h
    obtain ⟨h, a2⟩ := and2 h
    obtain ⟨h, a0⟩ := and2 h
    obtain ⟨h, a3⟩ := and2 h
    obtain ⟨h, a4⟩ := and2 h
    obtain ⟨h, a5⟩ := and2 h
    obtain ⟨h, a6⟩ := and2 h
    obtain ⟨h, a7⟩ := and2 h
    obtain ⟨h, a8⟩ := and2 h
    rw [show y.n = "get" from of_decide_eq_true h]
    exact both_val rfl (dgetK_pe hX a5 (of_decide_eq_true a4) (of_decide_eq_true a3) (nodup_keys a0) (and2 a8).1 a7 a6 (sE k hX _ a2).1 (sE x hX _ a1).1)
  | .gin neg a x kvs, X, W, hX, e, hc => by
    obtain ⟨y, h1, h⟩ := opt_ok hc
    obtain ⟨p, rfl⟩ := asCmp_ok h1
    obtain ⟨z, h2, h⟩ := opt_ok h
    obtain ⟨p2, h2⟩ := asName_ok h2
    obtain ⟨h, a1⟩ := and2 h
    obtain ⟨h, a2⟩ := and2 h
    obtain ⟨h, a3⟩ := and2 h
    obtain ⟨h, a4⟩ := and2 h
    rw [h2, show y.2.1 = _ from of_decide_eq_true h]
    obtain rfl : z = x := of_decide_eq_true a4
    exact gin_both hX a3 (of_decide_eq_true a2) (sE a hX _ a1).1
  | .gix x kvs a, X, W, hX, e, hc => by
    obtain ⟨y, h1, h⟩ := opt_ok hc
    obtain ⟨p, rfl⟩ := asSub_ok h1
    obtain ⟨z, h2, h⟩ := opt_ok h
    obtain ⟨p2, h2⟩ := asName_ok h2
    obtain ⟨h, a1⟩ := and2 h
    obtain ⟨h, a2⟩ := and2 h
    obtain ⟨h, a3⟩ := and2 h
    obtain ⟨h, a4⟩ := and2 h
    rw [h2]
    have hi := h
    obtain rfl : z = x := of_decide_eq_true a4
    exact both_val rfl (gix_pe hX a3 (of_decide_eq_true a2) hi (sE a hX _ a1).1)
  | .isB neg a b, X, W, hX, e, hc => by
    obtain ⟨y, h1, h⟩ := opt_ok hc
    obtain ⟨p, rfl⟩ := asCmp_ok h1
    obtain ⟨h, h2⟩ := and2 h
    obtain ⟨h, h3⟩ := and2 h
    obtain ⟨k, p2, e2⟩ := asCon_ok (of_decide_eq_true h3)
    rw [e2, show y.2.1 = _ from of_decide_eq_true h]
    exact isB_both (sE a hX _ h2).1
  | .trange a, X, W, hX, e, hc => by
    obtain ⟨y, h1, h⟩ := opt_ok hc
    obtain ⟨p, q, rfl⟩ := asCall_ok h1
    obtain ⟨z, h2, h⟩ := opt_ok h
    rw [as1_ok h2]
    obtain ⟨w, h3, h⟩ := opt_ok h
    obtain ⟨p2, q2, h3⟩ := asCall_ok h3
    obtain ⟨v, h4, h⟩ := opt_ok h
    rw [h3, as1_ok h4]
    obtain ⟨h, h5⟩ := and2 h
    obtain ⟨h, h6⟩ := and2 h
    obtain ⟨h, h7⟩ := and2 h
    obtain ⟨h, h8⟩ := and2 h
    obtain ⟨h, h9⟩ := and2 h
    have e1 : y.1 = "tuple" := of_decide_eq_true h
    have e2 : w.1 = "range" := of_decide_eq_true h8
    rw [e1] at h9 ⊢
    rw [e2] at h7 ⊢
    exact both_val rfl (sE_trange hX h9 h7 h6 (sE a hX _ h5).1)
  | .trange2 a b, X, W, hX, e, hc => by
    obtain ⟨y, h1, h⟩ := opt_ok hc
    obtain ⟨p, q, rfl⟩ := asCall_ok h1
    obtain ⟨z, h2, h⟩ := opt_ok h
    rw [as1_ok h2]
    obtain ⟨w, h3, h⟩ := opt_ok h
    obtain ⟨p2, q2, h3⟩ := asCall_ok h3
    obtain ⟨v, h4, h⟩ := opt_ok h
    rw [h3, as2_ok h4]
    obtain ⟨h, h5⟩ := and2 h
    obtain ⟨h, h6⟩ := and2 h
    obtain ⟨h, h7⟩ := and2 h
    obtain ⟨h, h8⟩ := and2 h
    obtain ⟨h, h9⟩ := and2 h
    obtain ⟨h, h10⟩ := and2 h
    obtain ⟨h, h11⟩ := and2 h
    have e1 : y.1 = "tuple" := of_decide_eq_true h
    have e2 : w.1 = "range" := of_decide_eq_true h10
    rw [e1] at h11 ⊢
    rw [e2] at h9 ⊢
    exact both_val rfl (sE_trange2 hX h11 h9 h8 h7 (sE a hX _ h6).1 (sE b hX _ h5).1)
  | .compr e t it own, X, W, hX, f, hc => by
    obtain ⟨y, h1, h⟩ := opt_ok hc
    obtain ⟨p, rfl⟩ := asComp_ok h1
    obtain ⟨h, h3⟩ := and2 h
    obtain ⟨h, h4⟩ := and2 h
    obtain ⟨h, h5⟩ := and2 h
    obtain ⟨h, h6⟩ := and2 h
    obtain ⟨h, h7⟩ := and2 h
    obtain ⟨h, h8⟩ := and2 h
    obtain ⟨h, h9⟩ := and2 h
    obtain ⟨h, h10⟩ := and2 h
    rw [List.isEmpty_iff.mp h4]
    refine both_val rfl (sE_compr hX (sI it hX _ _ h) (blkOk_by h9) (of_decide_eq_true h8) (fun i hi => by simpa using List.all_eq_true.mp h5 i hi) (fun s H Ca cl fp => ?_) (fun s H Ca cl fp => ?_) (noSet_fold h6 _))
    · exact pg_tg (X := X.blk s H y.scope (compEnvC y.scope cl Ca X.env) fp) hX.K hX.calm (fun i x _ hl => stores_blk hX.nd hl) h10
    · exact (sE e (hX.blk s H y.scope (compEnvC y.scope cl Ca X.env) fp) _ h3).1
  | .idxr a i, X, W, hX, e, hc => by
    obtain ⟨y, h1, h⟩ := opt_ok hc
    obtain ⟨p, rfl⟩ := asSub_ok h1
    obtain ⟨h, h3⟩ := and2 h
    obtain ⟨h, h2⟩ := and2 h
    exact both_val rfl (sE_idxr hX h (sE a hX _ h2).1 (sE i hX _ h3).1)
theorem sDs : ∀ (m : Es) {X : Cx} {W : WX} (_ : XOk T P C lvl W X) (fs : List Expr), chkEs P X.N m X.env.scope fs = true → PA X fs (tEs T C W m) ∧ PA X fs (tDs T C W m)
  | .nil, X, W, hX, fs, hc => by
    have h : fs.isEmpty = true := hc
    rw [List.isEmpty_iff.mp h]
    exact ⟨PA.imp pa_nil fun σ H Q ⟨ρ, G, he, hs, q⟩ => q.here hs [] rfl, PA.imp pa_nil fun σ H Q ⟨ρ, G, he, hs, q⟩ => q.here hs [] rfl⟩
  | .cons m ms, X, W, hX, fs, hc => by
    obtain ⟨f, h1, h⟩ := opt_ok hc
    cases fs with
    | nil => cases h1
    | cons g gs =>
      cases h1
      obtain ⟨h, h3⟩ := and2 h
      obtain ⟨h, h4⟩ := and2 h
      have z1 := (sE m hX _ h4).1
      have z2 := sDs ms hX gs h3
      refine ⟨PA.imp (pa_cons z1 z2.1 (star_cons h)) fun σ H Q ⟨ρ, G, he, hs, q⟩ => ?_, PA.imp (pa_cons z1 z2.2 (star_cons h)) fun σ H Q ⟨ρ, G, he, hs, q⟩ => ?_⟩
      · exact tE_bind he hs q fun x v H1 G1 x1 s1 e1 r1 q1 => ⟨ρ, G1, e1, s1, Post.bind q1 fun xs H2 G2 x2 s2 q2 vs rs => q2.here s2 _ ⟨v, vs, rfl, r1.mono x2.mon, rs⟩⟩
      · refine tE_bind he hs q fun x v H1 G1 x1 s1 e1 r1 q1 => ?_
        cases x with
        | r n => exact False.elim q1
        | d y => exact ⟨ρ, G1, e1, s1, Post.bind q1 fun xs H2 G2 x2 s2 q2 vs rs => q2.here s2 _ ⟨v, vs, rfl, Rep.mono x2.mon.toMon r1, rs⟩⟩
theorem sEach : ∀ (m : Es) {X : Cx} {W : WX} (_ : XOk T P C lvl W X) (fs : List Expr), chkEs P X.N m X.env.scope fs = true → EachE T C W X m fs
  | .nil, X, W, hX, fs, hc => by
    have h : fs.isEmpty = true := hc
    rw [List.isEmpty_iff.mp h]
    exact .nil
  | .cons m ms, X, W, hX, fs, hc => by
    obtain ⟨f, h1, h⟩ := opt_ok hc
    cases fs with
    | nil => cases h1
    | cons g gs =>
      cases h1
      obtain ⟨h, h3⟩ := and2 h
      obtain ⟨h, h4⟩ := and2 h
      exact .cons (sE m hX _ h4).1 (sEach ms hX gs h3)
theorem sO : ∀ (m : Eo) {X : Cx} {W : WX} (_ : XOk T P C lvl W X) (o : Option Expr), chkO P X.N m X.env.scope o = true → PO X o (tO T C W m)
  | .none, X, W, hX, o, hc => by
    have h : o.isNone = true := hc
    rw [Option.isNone_iff_eq_none.mp h]
    exact PO.imp po_none fun σ H Q ⟨ρ, G, he, hs, q⟩ => q.here hs
  | .some m, X, W, hX, o, hc => by
    obtain ⟨f, h1, h⟩ := opt_ok hc
    rw [h1]
    refine PO.imp (po_some (sE m hX _ h).1) fun σ H Q ⟨ρ, G, he, hs, q⟩ => tE_bind he hs q fun x v H1 G1 x1 s1 e1 r1 q1 => ?_
    split at q1
    · exact ⟨_, r1, q1.here s1⟩
    · exact False.elim q1
theorem sC : ∀ (m : Eo) {X : Cx} {W : WX} (_ : XOk T P C lvl W X) (fs : List Expr), chkC P X.N m X.env.scope fs = true → PTs X fs (tC T C W m)
  | .none, X, W, hX, fs, hc => by
    have h : fs.isEmpty = true := hc
    rw [List.isEmpty_iff.mp h]
    exact ⟨fun pins s σ H Q I ⟨ρ, G, he, hs, q⟩ => pts_nil.run pins s σ H Q I (q.here hs)⟩
  | .some m, X, W, hX, fs, hc => by
    obtain ⟨f, h1, h⟩ := opt_ok hc
    rw [as1_ok h1]
    obtain ⟨h, h2⟩ := and2 h
    refine pts_one (PT.imp ((sE m hX _ h2).2.1 h) fun σ H Q ⟨ρ, G, he, hs, q⟩ => tT_test he hs q fun b H1 G1 x1 s1 e1 q1 => q1.here s1)
theorem sI : ∀ (m : It) {X : Cx} {W : WX} (_ : XOk T P C lvl W X) (e tg : Expr), chkI P X.N m X.env.scope e tg = true → PI X tg e (tI T C W m)
  | .seq m, X, W, hX, e, tg, hc => sI_seq hX (sE m hX _ hc).1
  | .range1 m, X, W, hX, e, tg, hc => by
    obtain ⟨y, h1, h⟩ := opt_ok hc
    obtain ⟨p, q, rfl⟩ := asCall_ok h1
    obtain ⟨z, h2, h⟩ := opt_ok h
    rw [as1_ok h2]
    obtain ⟨h, h3⟩ := and2 h
    obtain ⟨h, h4⟩ := and2 h
    obtain ⟨h, h5⟩ := and2 h
    have e : y.1 = "range" := of_decide_eq_true h
    rw [e] at h5 ⊢
    exact sI_range1 hX h5 h4 (sE m hX _ h3).1
  | .range2 a b, X, W, hX, e, tg, hc => by
    obtain ⟨y, h1, h⟩ := opt_ok hc
    obtain ⟨p, q, rfl⟩ := asCall_ok h1
    obtain ⟨z, h2, h⟩ := opt_ok h
    rw [as2_ok h2]
    obtain ⟨h, h3⟩ := and2 h
    obtain ⟨h, h4⟩ := and2 h
    obtain ⟨h, h5⟩ := and2 h
    obtain ⟨h, h6⟩ := and2 h
    obtain ⟨h, h7⟩ := and2 h
    have e : y.1 = "range" := of_decide_eq_true h
    rw [e] at h7 ⊢
    exact sI_range2 hX h7 h6 h5 (sE a hX _ h4).1 (sE b hX _ h3).1
  | .enum m, X, W, hX, e, tg, hc => by
    obtain ⟨ts, h0, h⟩ := opt_ok hc
    obtain ⟨y, h1, h⟩ := opt_ok h
    obtain ⟨z, h2, h⟩ := opt_ok h
    obtain ⟨k, tp, h0⟩ := asTup_ok h0
    obtain ⟨p, q, h1⟩ := asCall_ok h1
    rw [h0, h1, as1_ok h2]
    obtain ⟨h, h3⟩ := and2 h
    obtain ⟨h, h4⟩ := and2 h
    obtain ⟨h, h5⟩ := and2 h
    have e : y.1 = "enumerate" := of_decide_eq_true h
    rw [e] at h5 ⊢
    exact sI_enum hX h5 h4 (sE m hX _ h3).1
  | .zip a b, X, W, hX, e, tg, hc => by
    obtain ⟨ts, h0, h⟩ := opt_ok hc
    obtain ⟨y, h1, h⟩ := opt_ok h
    obtain ⟨z, h2, h⟩ := opt_ok h
    obtain ⟨k, tp, h0⟩ := asTup_ok h0
    obtain ⟨p, q, h1⟩ := asCall_ok h1
    rw [h0, h1, as2_ok h2]
    obtain ⟨h, h3⟩ := and2 h
    obtain ⟨h, h4⟩ := and2 h
    obtain ⟨h, h5⟩ := and2 h
    obtain ⟨h, h6⟩ := and2 h
    obtain ⟨h, h7⟩ := and2 h
    have e : y.1 = "zip" := of_decide_eq_true h
    rw [e] at h7 ⊢
    exact sI_zip hX h7 h6 h5 (sE a hX _ h4).1 (sE b hX _ h3).1
  | .rev m, X, W, hX, e, tg, hc => by
    obtain ⟨y, h1, h⟩ := opt_ok hc
    obtain ⟨p, q, rfl⟩ := asCall_ok h1
    obtain ⟨z, h2, h⟩ := opt_ok h
    rw [as1_ok h2]
    obtain ⟨h, h3⟩ := and2 h
    obtain ⟨h, h4⟩ := and2 h
    obtain ⟨h, h5⟩ := and2 h
    have e : y.1 = "reversed" := of_decide_eq_true h
    rw [e] at h5 ⊢
    exact sI_rev hX h5 h4 (sE m hX _ h3).1
  | .seqr m, X, W, hX, e, tg, hc => sI_seqr hX (sE m hX _ hc).1
  | .keys m, X, W, hX, e, tg, hc => sI_keys hX (sE m hX _ hc).1
end
end
end Br

/-! Br10: statements. -/
namespace Br
open PySem PySem.Spec PyProof.Rows L2

/-! ### shapes -/
def asSet : Stmt → Option (Expr × Expr × Pos)
  | .Assign [t] v p => some (t, v, p)
  | _ => none
theorem asSet_ok {s : Stmt} {x : Expr × Expr × Pos} (h : asSet s = some x) : s = .Assign [x.1] x.2.1 x.2.2 := by
  unfold asSet at h
  split at h
  · cases h
    rfl
  · cases h
def asNameP : Expr → Option (Str × Pos)
  | .Name x p => some (x, p)
  | _ => none
theorem asNameP_ok {e : Expr} {x : Str × Pos} (h : asNameP e = some x) : e = .Name x.1 x.2 := by
  unfold asNameP at h
  split at h
  · cases h
    rfl
  · cases h
def asAug : Stmt → Option (Expr × Operator × Expr)
  | .AugAssign t o v _ => some (t, o, v)
  | _ => none
theorem asAug_ok {s : Stmt} {x : Expr × Operator × Expr} (h : asAug s = some x) : ∃ p, s = .AugAssign x.1 x.2.1 x.2.2 p := by
  unfold asAug at h
  split at h
  · cases h
    exact ⟨_, rfl⟩
  · cases h
def asEx : Stmt → Option (Expr)
  | .Expr e _ => some e
  | _ => none
theorem asEx_ok {s : Stmt} {x : Expr} (h : asEx s = some x) : ∃ p, s = .Expr x p := by
  unfold asEx at h
  split at h
  · cases h
    exact ⟨_, rfl⟩
  · cases h
def asIfS : Stmt → Option (Expr × List Stmt × List Stmt)
  | .If c a b _ => some (c, a, b)
  | _ => none
theorem asIfS_ok {s : Stmt} {x : Expr × List Stmt × List Stmt} (h : asIfS s = some x) : ∃ p, s = .If x.1 x.2.1 x.2.2 p := by
  unfold asIfS at h
  split at h
  · cases h
    exact ⟨_, rfl⟩
  · cases h
def asFor : Stmt → Option (Expr × Expr × List Stmt × Pos)
  | .For t i b [] p => some (t, i, b, p)
  | _ => none
theorem asFor_ok {s : Stmt} {x : Expr × Expr × List Stmt × Pos} (h : asFor s = some x) : s = .For x.1 x.2.1 x.2.2.1 [] x.2.2.2 := by
  unfold asFor at h
  split at h
  · cases h
    rfl
  · cases h
def asWhl : Stmt → Option (Expr × List Stmt)
  | .While c b [] _ => some (c, b)
  | _ => none
theorem asWhl_ok {s : Stmt} {x : Expr × List Stmt} (h : asWhl s = some x) : ∃ p, s = .While x.1 x.2 [] p := by
  unfold asWhl at h
  split at h
  · cases h
    exact ⟨_, rfl⟩
  · cases h
def asRet : Stmt → Option (Option Expr)
  | .Return e _ => some e
  | _ => none
theorem asRet_ok {s : Stmt} {x : Option Expr} (h : asRet s = some x) : ∃ p, s = .Return x p := by
  unfold asRet at h
  split at h
  · cases h
    exact ⟨_, rfl⟩
  · cases h
def asPass : Stmt → Bool
  | .Pass _ => true
  | _ => false
def noComp : Expr → Bool
  | .ListComp .. => false
  | .SetComp .. => false
  | .DictComp .. => false
  | _ => true
def noTup : Expr → Bool
  | .Tuple .. => false
  | _ => true
def asLc : Expr → Option (Scope × Pos)
  | .ListComp _ _ s p => some (s, p)
  | _ => none
theorem asLc_ok {e : Expr} {x : Scope × Pos} (h : asLc e = some x) : ∃ a b, e = .ListComp a b x.1 x.2 := by
  unfold asLc at h
  split at h
  · cases h
    exact ⟨_, _, rfl⟩
  · cases h
/-- name = [.. for ..] that is stored within the block -/
def swIn (sc : Scope) (x : Str) (py : Pos) (v : Expr) : Bool := opt (asLc v) fun c => decide (sc.names.lookup x = some .local) && (py.line == c.2.line) && !(c.1.names.any fun (n, k) => n == x && (k == .local || k == .cell))
/-- name = e in the plain way -/
def swOut (sc : Scope) (x : Str) (v : Expr) : Bool := noComp v || decide (sc.names.lookup x = some .cell)
def isCompE : E → Bool
  | .comp .. => true
  | .compr .. => true
  | _ => false
theorem sw_out {v : Expr} {x : Str} {p : Pos} {l : Nat} {env : PySem.Env} (hk : env.scope.kind = .function) (h : swOut env.scope x v = true) : swapsWith v (some (.Name x p)) l env = pure false := by
  rcases Bool.or_eq_true_iff.mp h with h | h
  · cases v <;> first | rfl | (cases h; done)
  · have hx : env.kindOf x = some .cell := of_decide_eq_true h
    have hb : env.blockKind = .function := by unfold PySem.Env.blockKind; rw [hk]; rfl
    cases v <;> first | rfl | (unfold swapsWith; simp only [hb, hx]; rfl)
theorem sw_none {v : Expr} {l : Nat} {env : PySem.Env} (h : noComp v = true) : swapsWith v none l env = pure false := by
  cases v <;> first | rfl | (cases h; done)
theorem sw_oth2 {v t : Expr} {l : Nat} {env : PySem.Env} (h : noComp v = true) : swapsWith v (some t) l env = pure false := by
  cases v <;> first | rfl | cases h
theorem sw_other {v t : Expr} {l : Nat} {env : PySem.Env} (h : noComp v = true) : swapsWithSole [t] v l env = pure false := by
  cases v <;> first | rfl | (cases h; done)
/-! ### swapped stores -/
def tupNames (sc : Scope) (line : Nat) (ts : List Expr) : List Str := ts.filterMap fun
    | .Name id pos => if sc.names.lookup id == some .local && pos.line == line then some id else none
    | _ => none
def swS (sc : Scope) (ts vs : List Expr) : Option (Option (List Str)) :=
  if !(ts.length == 2 || ts.length == 3) || vs.length != ts.length then some none
  else if (tupNames sc ((ts.head?.map (·.pos.line)).getD 0) ts).length != ts.length || (tupNames sc ((ts.head?.map (·.pos.line)).getD 0) ts).eraseDups.length != (tupNames sc ((ts.head?.map (·.pos.line)).getD 0) ts).length then some none
  else if vs.all (foldedForSure 8) then some none
  else if vs.all (constantsAlone 8) then none
  else some (some (tupNames sc ((ts.head?.map (·.pos.line)).getD 0) ts))
theorem swS_ok {ts vs : List Expr} {k p k2 p2} {env : PySem.Env} {r : Option (List Str)} (hk : env.scope.kind = .function) (hx : ∀ e ∈ vs, ixOk e = true) (h : swS env.scope ts vs = some r) : swappedStores [.Tuple ts k p] (.Tuple vs k2 p2) env = pure r := by
  have hb : env.blockKind = .function := by unfold PySem.Env.blockKind; rw [hk]; rfl
  have hn : (ts.filterMap fun
      | .Name id pos => if env.kindOf id == some .local && pos.line == ((ts.head?.map (·.pos.line)).getD 0) then some id else none
      | _ => none) = tupNames env.scope ((ts.head?.map (·.pos.line)).getD 0) ts := rfl
  have hst : ∀ f : Expr → Bool, (∀ e, ixOk e = true → f e = false) → vs.any f = false := fun f hf => List.any_eq_false.mpr fun e he => by rw [hf e (hx e he)]; decide
  unfold swS at h
  unfold swappedStores
  by_cases h1 : (!(ts.length == 2 || ts.length == 3) || vs.length != ts.length) = true
  · rw [if_pos h1] at h
    cases h
    simp only [hb, h1, Bool.true_or, if_true]
  · rw [if_neg h1] at h
    have h1 : (!(ts.length == 2 || ts.length == 3) || vs.length != ts.length) = false := Bool.eq_false_iff.mpr h1
    simp only [hb, h1, Bool.false_or, bne_self_eq_false, Bool.false_eq_true, if_false]
    rw [if_neg (by rw [hst _ (fun e he => by cases e <;> first | rfl | cases he)]; decide)]
    show (if ((tupNames env.scope ((ts.head?.map (·.pos.line)).getD 0) ts).length != ts.length || (tupNames env.scope ((ts.head?.map (·.pos.line)).getD 0) ts).eraseDups.length != (tupNames env.scope ((ts.head?.map (·.pos.line)).getD 0) ts).length) = true then _ else _) = _
    split at h
    · rename_i h3
      cases h
      rw [if_pos h3]
    · rename_i h3
      rw [if_neg h3]
      split at h
      · rename_i h4
        cases h
        simp only [h4, if_true]
      · rename_i h4
        simp only [h4, if_false]
        split at h
        · cases h
        · rename_i h5
          cases h
          simp only [h5, if_false]
          rfl
end Br

/-! Br11: statements as a whole. -/
namespace Br
open PySem PySem.Spec PyProof.Rows L2
def parOk (N : List Str) (sc : Scope) (is : List Nat) (xs : List Str) (ts vs : List Expr) : Bool := match is, ts, vs with
  | [i, j], [.Name x _, .Name y _], [_, _] => decide (N[i]? = some x ∧ N[j]? = some y ∧ i ≠ j ∧ sc.names.lookup x = some .local ∧ sc.names.lookup y = some .local ∧ xs = [x, y])
  | [i, j, l], [.Name x _, .Name y _, .Name z _], [_, _, _] => decide (N[i]? = some x ∧ N[j]? = some y ∧ N[l]? = some z ∧ i ≠ j ∧ i ≠ l ∧ j ≠ l ∧ sc.names.lookup x = some .local ∧ sc.names.lookup y = some .local ∧ sc.names.lookup z = some .local ∧ xs = [x, y, z])
  | _, _, _ => false
def parR (N : List Str) (sc : Scope) (is : List Nat) (ts vs : List Expr) : Option (List Str) → Bool
  | none => true
  | some xs => parOk N sc is xs ts vs
theorem parOk_ok {N : List Str} {sc : Scope} {is : List Nat} {xs : List Str} {ts vs : List Expr} (h : parOk N sc is xs ts vs = true) :
    (∃ i j x y px py a b, is = [i, j] ∧ ts = [.Name x px, .Name y py] ∧ vs = [a, b] ∧ N[i]? = some x ∧ N[j]? = some y ∧ i ≠ j ∧ sc.names.lookup x = some .local ∧ sc.names.lookup y = some .local ∧ xs = [x, y]) ∨
    (∃ i j l x y z px py pz a b c, is = [i, j, l] ∧ ts = [.Name x px, .Name y py, .Name z pz] ∧ vs = [a, b, c] ∧ N[i]? = some x ∧ N[j]? = some y ∧ N[l]? = some z ∧ i ≠ j ∧ i ≠ l ∧ j ≠ l ∧ sc.names.lookup x = some .local ∧ sc.names.lookup y = some .local ∧ sc.names.lookup z = some .local ∧ xs = [x, y, z]) := by
  unfold parOk at h
  split at h
  · exact .inl ⟨_, _, _, _, _, _, _, _, rfl, rfl, rfl, of_decide_eq_true h⟩
  · exact .inr ⟨_, _, _, _, _, _, _, _, _, _, _, _, rfl, rfl, rfl, of_decide_eq_true h⟩
  · cases h
def asRaise : Stmt → Option (Str × List Expr)
  | .Raise (some (.Call (.Name x _) es [] _)) none _ => some (x, es)
  | _ => none
theorem asRaise_ok {s : Stmt} {x : Str × List Expr} (h : asRaise s = some x) : ∃ p q r, s = .Raise (some (.Call (.Name x.1 p) x.2 [] q)) none r := by
  unfold asRaise at h
  split at h
  · cases h
    exact ⟨_, _, _, rfl⟩
  · cases h
/-- try: body except cls as nm: suite -/
structure TryV where
  body : List Stmt
  cls : Str
  nm : Str
  suite : List Stmt
def asTry : Stmt → Option TryV
  | .Try b [.ExceptHandler (some (.Name x _)) (some n) hs _] [] [] _ => some ⟨b, x, n, hs⟩
  | _ => none
theorem asTry_ok {s : Stmt} {x : TryV} (h : asTry s = some x) : ∃ p q r, s = .Try x.body [.ExceptHandler (some (.Name x.cls p)) (some x.nm) x.suite q] [] [] r := by
  unfold asTry at h
  split at h
  · cases h
    exact ⟨_, _, _, rfl⟩
  · cases h
/-! what may run while an exception is handled -/
mutual
def hotE (P : Pg) : E → Bool
  | .var _ => true
  | .con _ => true
  | .op _ a b => hotE P a && hotE P b
  | .cmp _ a b => hotE P a && hotE P b
  | .not a => hotE P a
  | .and a b => hotE P a && hotE P b
  | .or a b => hotE P a && hotE P b
  | .lst _ es => hotEs P es
  | .idx a i => hotE P a && hotE P i
  | .m1 _ a b => hotE P a && hotE P b
  | .isx a _ => hotE P a
  | .isv a => hotE P a
  | .fld a _ => hotE P a
  | .call k es => (P.fns[k]?.map (·.hot) == some true) && hotEs P es
  | _ => false
def hotEs (P : Pg) : Es → Bool
  | .nil => true
  | .cons e es => hotE P e && hotEs P es
end
mutual
def hotS (P : Pg) : S → Bool
  | .set _ e => hotE P e
  | .ite c a b => hotE P c && hotSs P a && hotSs P b
  | .ret e => hotE P e
  | _ => false
def hotSs (P : Pg) : Ss → Bool
  | .nil => true
  | .cons s r => hotS P s && hotSs P r
  | .frz _ _ => false
end
mutual
def chkS (P : Pg) (N : List Str) : S → Scope → Stmt → Bool
  | .set i e, sc, s => opt (asSet s) fun x => opt (asNameP x.1) fun y => decide (N[i]? = some y.1) && loc sc y.1 && plainName y.1 && (swOut sc y.1 x.2.1 || (isCompE e && swIn sc y.1 y.2 x.2.1)) && chkE P N e sc x.2.1
  | .setT is e, sc, s => opt (asSet s) fun x => opt (asTup x.1) fun ts => tgNames N sc is ts && noTup x.2.1 && noComp x.2.1 && chkE P N e sc x.2.1
  | .setP is es, sc, s => opt (asSet s) fun x => opt (asTup x.1) fun ts => opt (asTup x.2.1) fun vs => opt (swS sc ts vs) fun r => parR N sc is ts vs r && tgNames N sc is ts && chkEs P N es sc vs
  | .aug i e, sc, s => opt (asAug s) fun x => opt (asName x.1) fun y => decide (x.2.1 = .Add) && decide (N[i]? = some y) && loc sc y && plainName y && chkE P N e sc x.2.2
  | .seti a i v, sc, s => opt (asSet s) fun x => opt (asSub x.1) fun y => noComp x.2.1 && ixOk y.2 && chkE P N a sc y.1 && chkE P N i sc y.2 && chkE P N v sc x.2.1
  | .app a v, sc, s => opt (asEx s) fun x => opt (asMeth x) fun y => opt (as1 y.as) fun z => decide (y.n = "append") && (y.ap.endLine == y.cp.line) && noAttr y.o && ixOk z && chkE P N a sc y.o && chkE P N v sc z
  | .ext a v, sc, s => opt (asEx s) fun x => opt (asMeth x) fun y => opt (as1 y.as) fun z => decide (y.n = "extend") && (y.ap.endLine == y.cp.line) && noAttr y.o && ixOk z && chkE P N a sc y.o && chkE P N v sc z
  | .ex e, sc, s => opt (asEx s) fun x => noComp x && chkE P N e sc x
  | .ite c a b, sc, s => opt (asIfS s) fun x => tOk c && chkE P N c sc x.1 && chkSs P N a sc x.2.1 && chkSs P N b sc x.2.2
  | .for t it b, sc, s => opt (asFor s) fun x => chkI P N it sc x.2.1 x.1 && noSet x.2.1 && chkT N sc t x.1 && chkSs P N b sc x.2.2.1
  | .whl c b, sc, s => opt (asWhl s) fun x => tOk c && chkE P N c sc x.1 && chkSs P N b sc x.2
  | .ret e, sc, s => opt (asRet s) fun x => opt x fun y => chkE P N e sc y
  | .retN, _, s => opt (asRet s) fun x => x.isNone
  | .rais c es, sc, s => opt (asRaise s) fun x => decide (P.cls[c]? = some x.1) && glOk sc x.1 && (match es with
    | .nil => x.2.isEmpty && decide (P.gr ≠ some c)
    | _ => !es.isNil && decide (P.gr = some c) && !x.2.isEmpty && chkEs P N es sc x.2)
  | .tryk n b i hs, sc, s => opt (asTry s) fun x => decide (n ≤ P.cls.length) && decide (P.cls[0]? = some x.cls) && glOk sc x.cls && decide (N[i]? = some x.nm) && decide (sc.names.lookup x.nm = some .local) && plainName x.nm && !x.suite.isEmpty && hotSs P hs && chkSs P N b sc x.body && chkSs P N hs sc x.suite
  | .pass, _, s => asPass s
  | .stuck, _, _ => true
  | .setf c a f v, sc, s => opt (asSet s) fun x => opt (asAttr x.1) fun y => decide (y.2 = f) && fldOk P c f && noAttr y.1 && noComp x.2.1 && chkE P N a sc y.1 && chkE P N v sc x.2.1
  | .dset d k v, sc, s => opt (asSet s) fun x => opt (asSub x.1) fun y => ixOk y.2 && chkE P N d sc y.1 && chkE P N k sc y.2 && chkE P N v sc x.2.1
  | .ins a i v, sc, s => opt (asEx s) fun x => opt (asMeth x) fun y => opt (as2 y.as) fun z => decide (y.n = "insert") && methOk y && ixOk z.1 && ixOk z.2 && chkE P N a sc y.o && chkE P N i sc z.1 && chkE P N v sc z.2
def chkSs (P : Pg) (N : List Str) : Ss → Scope → List Stmt → Bool
  | .nil, _, ss => ss.isEmpty
  | .cons m r, sc, ss => opt ss.head? fun s => chkS P N m sc s && chkSs P N r sc ss.tail
  | .frz _ r, sc, ss => chkSs P N r sc ss
end

/-! ### defs that run while an exception is handled -/
/-- the exception at p.1 is handled, of the c-th class -/
def Tb.hot (T : Tb) (c : Nat) (p : Addr × Obj) : Tb := { T with xa := some p.1, xc := c, xd := p.2.dict }
/-- nothing is let out -/
abbrev W00 : WX := fun _ _ _ _ => False
def spH (T : Tb) (P : Pg) (C : Oracle) (k : Nat) (p : Addr × Obj) : Sp := fun vs H Q _ => ∃ c ds G f, p.2.cls = .ref (T.ca c) ∧ c < P.cls.length ∧ P.fns[k]? = some f ∧ ds.length = f.np ∧ RepVs (T.hot c p) H G ds vs ∧ Sim (T.hot c p) H G ∧
  Post (T.hot c p) W00 H G (C k ds G.st) fun x H' G' => ∀ v, RepV (T.hot c p) H' G' x v → Q v H'
/-- what such a def promises; sp speaks of the exception too -/
structure FnP (P : Program) (w : World) (K : PySem.W.Frag) (mg : Str → Option Value) (base : Heap) (CX : CXT) (k : Nat) (f : Addr) (fd : FuncData) (ps : List Str) (sp : Addr × Obj → Sp) : Prop where
  len : ∀ p vs H Q E, sp p vs H Q E → vs.length = ps.length
  run : ∀ (p : Addr × Obj) (A : Around) (out : List PySem.Env) (s : Shared) (H : Hp) (ar : Args) (us : List Value) (vs : List V) (Q : VK) (E : XK), L2H.RoomH k A → L2H.Hot1 A p → L2H.PinOk out H s p → Env0 P w K mg base A out s H →
    BindsTo s fd ar (ps.zip us) → Vals vs us → sp p vs H Q E → codeAny (model P w) A (.call (.ref f) ar) (CR CX out P w H s Q E) s
/-- a body's place -/
structure SOk (T : Tb) (P : Pg) (C : Oracle) (lvl : Nat) (W : WX) (X : Cx) : Prop extends XOk T P C lvl W X where
  hp : PassesOwn (model X.prog X.w) X.A X.env X.xe
  fn1 : ∀ x, X.fn x = true
  stk : X.stack = X.env :: X.outer
  frm : X.env.frame = some X.env.locals
  hfn : ∀ k f, P.fns[k]? = some f → f.hot = true → (f.m = false → X.mg f.name = some (.ref (T.fa k))) ∧ PySem.W.keepIn X.K (.ref (T.fa k)) = true ∧ ∃ fd ps, FnP X.prog X.w X.K X.mg X.base (L2N.CX X.prog X.w) lvl (T.fa k) fd ps (spH T P C k) ∧ Binds X.K fd ps []
section
variable {T : Tb} {P : Pg} {C : Oracle} {lvl : Nat} {W : WX}
def kF (T : Tb) (D : Ends) : Fl → Hp → Wd → Prop
  | .next ρ, H, G => ∀ σ', EnvOk T H G ρ σ' → D.nx σ' H
  | .ret v, H, G => ∀ u, RepV T H G v u → D.rt u H
def tS (T : Tb) (C : Oracle) (W : WX) (m : S) : TS := fun D σ H => ∃ ρ G, EnvOk T H G ρ σ ∧ Sim T H G ∧ Post T W H G (evS C m ρ G.st) (kF T D)
def tSs (T : Tb) (C : Oracle) (W : WX) (m : Ss) : TS := fun D σ H => ∃ ρ G, EnvOk T H G ρ σ ∧ Sim T H G ∧ Post T W H G (evSs C m ρ G.st) (kF T D)
theorem PS.imp {X : Cx} {e : Stmt} {t t' : TS} (h : PS X e t) (f : ∀ D σ H, t' D σ H → t D σ H) : PS X e t' := ⟨fun pins s σ H D I q => h.run pins s σ H D I (f D σ H q)⟩
theorem PSs.imp {X : Cx} {e : List Stmt} {t t' : TS} (h : PSs X e t) (f : ∀ D σ H, t' D σ H → t D σ H) : PSs X e t' := ⟨fun pins s σ H D I q => h.run pins s σ H D I (f D σ H q)⟩
/-- in a def's body -/
theorem PS.fn {X : Cx} {e : Stmt} {t : TS} (h : X.env.scope.kind = .function → PS X e t) : PS X e t := ⟨fun pins s σ H D I q => (h I.ok.kind).run pins s σ H D I q⟩
theorem SOk.stores {X : Cx} (hX : SOk T P C lvl W X) {x : Str} (h : loc X.env.scope x = true) : Stores X x := ⟨hX.nd, loc_ok h, .inl (hX.fn1 x)⟩
theorem sS_set {X : Cx} {i : Nat} {m : E} {x : Str} {p q : Pos} {e : Expr} (hX : SOk T P C lvl W X) (hi : X.N[i]? = some x) (hl : loc X.env.scope x = true) (hw : swOut X.env.scope x e = true) (h : PE X e (tE T C W m)) : PS X (.Assign [.Name x p] e q) (tS T C W (.set i m)) :=
  PS.fn fun hk => PS.imp (ps_set hX.nd hi (loc_ok hl) h (sw_out hk hw) (.inl (hX.fn1 x))) fun D σ H ⟨ρ, G, he, hs, z⟩ =>
    tE_bind he hs z fun v u H1 G1 x1 s1 e1 r1 q1 => q1.here s1 _ (e1.set i r1)
theorem sS_setC {X : Cx} {i : Nat} {o : Bool} {m : E} {t : Tg} {it : It} {c : Eo} {own : List Nat} {x : Str} {p q : Pos} {e : Expr} (hX : SOk T P C lvl W X) (hi : X.N[i]? = some x) (hw : swIn X.env.scope x p e = true) (hc : chkE P X.N (.comp o m t it c own) X.env.scope e = true) :
    PS X (.Assign [.Name x p] e q) (tS T C W (.set i (.comp o m t it c own))) := by
  refine PS.fn fun hk => ?_
  obtain ⟨y, h1, h⟩ := opt_ok hc
  obtain ⟨p2, rfl⟩ := asComp_ok h1
  obtain ⟨h, h3⟩ := and2 h
  obtain ⟨h, h4⟩ := and2 h
  obtain ⟨h, h5⟩ := and2 h
  obtain ⟨h, h6⟩ := and2 h
  obtain ⟨h, h7⟩ := and2 h
  obtain ⟨h, h8⟩ := and2 h
  obtain ⟨h, h9⟩ := and2 h
  obtain ⟨h, h10⟩ := and2 h
  have hw : (decide (X.env.scope.names.lookup x = some .local) && (p.line == p2.line) && !(y.scope.names.any fun (n, k) => n == x && (k == .local || k == .cell))) = true := hw
  obtain ⟨hw, w3⟩ := and2 hw
  obtain ⟨w1, w2⟩ := and2 hw
  have w1 := of_decide_eq_true w1
  refine PS.imp (ps_setLc (i := i) (g := tTg T t) (tt := tC T C W0 c) (te := tE T C W0 m) hX.calm hX.nd hi w1 (sw_true hk w1 w2 (nBool w3)) (sI it hX.toXOk _ _ h) (blkOk_by h9) (fun s H Ca cl fp => ?_) (fun s H Ca cl fp => ?_) (fun s H Ca cl fp => ?_) (noSet_fold h6 _)) fun D σ H ⟨ρ, G, he, hs, z⟩ => ?_
  · exact pg_tg (X := X.blk s H y.scope (compEnvC y.scope cl Ca X.env) fp) hX.K hX.calm (fun i x _ hl => stores_blk hX.nd hl) h10
  · exact sC c (hX.blk s H y.scope _ fp) _ h4
  · exact (sE m (hX.blk s H y.scope (compEnvC y.scope cl Ca X.env) fp) _ h3).1
  · exact lc_of (of_decide_eq_true h8) (fun i hi => by simpa using List.all_eq_true.mp h5 i hi) (tE_bind he hs z fun v u H1 G1 x1 s1 e1 r1 q1 => q1.here s1 _ (e1.set i r1))
theorem sS_setCr {X : Cx} {i : Nat} {m : E} {t : Tg} {it : It} {own : List Nat} {x : Str} {p q : Pos} {e : Expr} (hX : SOk T P C lvl W X) (hi : X.N[i]? = some x) (hw : swIn X.env.scope x p e = true) (hc : chkE P X.N (.compr m t it own) X.env.scope e = true) :
    PS X (.Assign [.Name x p] e q) (tS T C W (.set i (.compr m t it own))) := by
  refine PS.fn fun hk => ?_
  obtain ⟨y, h1, h⟩ := opt_ok hc
  obtain ⟨p2, rfl⟩ := asComp_ok h1
  obtain ⟨h, h3⟩ := and2 h
  obtain ⟨h, h4⟩ := and2 h
  obtain ⟨h, h5⟩ := and2 h
  obtain ⟨h, h6⟩ := and2 h
  obtain ⟨h, h7⟩ := and2 h
  obtain ⟨h, h8⟩ := and2 h
  obtain ⟨h, h9⟩ := and2 h
  obtain ⟨h, h10⟩ := and2 h
  have hw : (decide (X.env.scope.names.lookup x = some .local) && (p.line == p2.line) && !(y.scope.names.any fun (n, k) => n == x && (k == .local || k == .cell))) = true := hw
  obtain ⟨hw, w3⟩ := and2 hw
  obtain ⟨w1, w2⟩ := and2 hw
  have w1 := of_decide_eq_true w1
  rw [List.isEmpty_iff.mp h4]
  refine PS.imp (ps_setLc (i := i) (g := tTg T t) (te := tE T C W0 m) hX.calm hX.nd hi w1 (sw_true hk w1 w2 (nBool w3)) (sI it hX.toXOk _ _ h) (blkOk_by h9) (fun s H Ca cl fp => ?_) (fun s H Ca cl fp => pts_nil) (fun s H Ca cl fp => ?_) (noSet_fold h6 _)) fun D σ H ⟨ρ, G, he, hs, z⟩ => ?_
  · exact pg_tg (X := X.blk s H y.scope (compEnvC y.scope cl Ca X.env) fp) hX.K hX.calm (fun i x _ hl => stores_blk hX.nd hl) h10
  · exact (sE m (hX.blk s H y.scope (compEnvC y.scope cl Ca X.env) fp) _ h3).1
  · exact lcr_of (of_decide_eq_true h8) (fun i hi => by simpa using List.all_eq_true.mp h5 i hi) (tE_bind he hs z fun v u H1 G1 x1 s1 e1 r1 q1 => q1.here s1 _ (e1.set i r1))
theorem sS_setT {X : Cx} {is : List Nat} {m : E} {ts : List Expr} {k p q} {e : Expr} (hX : SOk T P C lvl W X) (ht : tgNames X.N X.env.scope is ts = true) (h1 : noTup e = true) (h2 : noComp e = true) (h : PE X e (tE T C W m)) : PS X (.Assign [.Tuple ts k p] e q) (tS T C W (.setT is m)) := by
  refine PS.imp (ps_asg h (pg_tg (T := T) (sc := X.env.scope) (t := .names is) hX.K hX.calm (fun i x _ hl => hX.stores hl) ht) (sw_other h2) (by cases e <;> first | rfl | cases h1) rfl) fun D σ H ⟨ρ, G, he, hs, z⟩ =>
    tE_bind he hs z fun v u H1 G1 x1 s1 e1 r1 q1 => ?_
  have q1 : Post T W H1 G1 (match put (.names is) v ρ with
    | some ρ' => .ok (.next ρ') G1.st
    | none => .bad) (kF T D) := q1
  split at q1
  · rename_i ρ' ep
    exact ⟨ρ, G1, v, ρ', e1, s1, r1, ep, fun σ' e2 _ => q1.here s1 _ e2⟩
  · exact q1.elim

end
end Br

namespace Br
open PySem PySem.Spec PyProof.Rows L2
section
variable {T : Tb} {P : Pg} {C : Oracle} {lvl : Nat} {W : WX}
theorem putN_len : ∀ {is : List Nat} {ds : List Vl} {ρ ρ' : Env}, putN is ds ρ = some ρ' → ds.length = is.length
  | [], [], _, _, _ => rfl
  | [], _ :: _, _, _, e => by cases e
  | _ :: _, [], _, _, e => by cases e
  | i :: is, d :: ds, _, _, e => by rw [List.length_cons, List.length_cons, putN_len (is := is) (ds := ds) e]
theorem sS_setP {X : Cx} {is : List Nat} {es : Es} {ts vs : List Expr} {k p k2 p2 q} {r : Option (List Str)} (hX : SOk T P C lvl W X) (hr : swS X.env.scope ts vs = some r) (hp : parR X.N X.env.scope is ts vs r = true) (ht : tgNames X.N X.env.scope is ts = true) (hc : chkEs P X.N es X.env.scope vs = true) : PS X (.Assign [.Tuple ts k p] (.Tuple vs k2 p2) q) (tS T C W (.setP is es)) := by
  refine PS.fn fun hk => ?_
  have hw := swS_ok (k := k) (p := p) (k2 := k2) (p2 := p2) hk (chkEs_ix hc) hr
  have hA := (sDs es hX.toXOk _ hc).1
  have go : ∀ (D : Ends) (σ : L2.St) (H : Hp), tS T C W (.setP is es) D σ H → tEs T C W es σ H fun us H1 => us.length ≤ sizeLine ∧ ∃ ρ ds G1 ρ', EnvOk T H1 G1 ρ σ ∧ Sim T H1 G1 ∧ RepVs T H1 G1 ds us ∧ putN is ds ρ = some ρ' ∧ ∀ H2 G2, G2.st = G1.st → Ext H1 G1 H2 G2 → Sim T H2 G2 → ∀ σ', EnvOk T H2 G2 ρ' σ' → D.nx σ' H2 := by
    rintro D σ H ⟨ρ, G, he, hs, z⟩
    refine ⟨ρ, G, he, hs, Post.bind z fun ds H1 G1 x1 s1 q1 us rs => ?_⟩
    split at q1
    · rename_i hz
      split at q1
      · rename_i ρ' ep
        exact ⟨by rw [rs.length]; exact hz, ρ, ds, G1, ρ', he.mono x1.mon, s1, rs, ep, fun H2 G2 e x S => q1 H2 G2 e x S⟩
      · exact q1.elim
    · exact q1.elim
  cases r with
  | none =>
    obtain ⟨a1, a2, _⟩ := assignEach_names (X := X) ht
    refine PS.imp (ps_asg (pe_tup hA) (pg_tup (n := is.length) hX.calm (pgs_nms (T := T) (sc := X.env.scope) (fun i x _ hl => hX.stores hl) ht) a1 a2) rfl hw rfl) fun D σ H h => ?_
    obtain ⟨ρ0, G0, he0, hs0, z0⟩ := go D σ H h
    refine ⟨ρ0, G0, he0, hs0, Post.mono z0 fun ds H1 G1 x1 s1 w1 us rs => ?_⟩
    obtain ⟨z1, ρ, ds', G1', ρ', e1, s1', rs', ep, fin⟩ := w1 us rs
    refine ⟨z1, fun p hp => ?_⟩
    have x2 : Ext H1 G1' (upd H1 p (.tup us)) G1' := Ext.obj _ hp
    have s2 : Sim T (upd H1 p (.tup us)) G1' := s1'.obj _ hp
    refine ⟨p, us, rfl, .inl (.inl upd_same), ?_, ρ, G1', ds', ρ', e1.mono x2.mon, s2, rs'.mono x2.mon, ep, fun σ' e2 _ => fin _ _ rfl x2 s2 σ' e2⟩
    rw [rs'.length]
    exact putN_len ep
  | some xs =>
    rcases parOk_ok hp with ⟨i, j, x, y, px, py, a, b, e1, e2, e3, h1, h2, h3, h4, h5, e4⟩ | ⟨i, j, l, x, y, w, px, py, pw, a, b, c, e1, e2, e3, h1, h2, h3, h4, h5, h6, h7, h8, h9, e4⟩
    · rw [e2, e3, e4] at hw
      rw [e3] at hA
      rw [e2, e3]
      refine PS.imp (ps_par hX.calm hX.nd h1 h2 h3 h4 h5 hA hw) fun D σ H h => ?_
      obtain ⟨ρ0, G0, he0, hs0, z0⟩ := go D σ H h
      refine ⟨ρ0, G0, he0, hs0, Post.mono z0 fun ds H1 G1 x1 s1 w1 us rs => ?_⟩
      obtain ⟨z1, ρ, ds', G1', ρ', en, s1', rs', ep, fin⟩ := w1 us rs
      rw [e1] at ep
      obtain ⟨d1, d2, ed⟩ : ∃ d1 d2, ds' = [d1, d2] := by
        have hl := putN_len ep
        cases ds' with
        | nil => cases hl
        | cons d1 r =>
          cases r with
          | nil => cases hl
          | cons d2 r =>
            cases r with
            | nil => exact ⟨_, _, rfl⟩
            | cons _ _ => simp at hl
      subst ed
      obtain ⟨v1, _, ev, r1, v2, _, ev2, r2, ev3⟩ := rs'
      have ev3 : _ = [] := ev3
      subst ev3 ev2 ev
      have ep : some ((ρ.set i (some d1)).set j (some d2)) = some ρ' := ep
      cases ep
      exact ⟨v1, v2, rfl, fin H1 G1' rfl (Ext.refl _ _) s1' _ ((en.set i r1).set j r2)⟩
    · rw [e2, e3, e4] at hw
      rw [e3] at hA
      rw [e2, e3]
      refine PS.imp (ps_par3 hX.calm hX.nd h1 h2 h3 h4 h5 h6 h7 h8 h9 hA hw) fun D σ H h => ?_
      obtain ⟨ρ0, G0, he0, hs0, z0⟩ := go D σ H h
      refine ⟨ρ0, G0, he0, hs0, Post.mono z0 fun ds H1 G1 x1 s1 w1 us rs => ?_⟩
      obtain ⟨z1, ρ, ds', G1', ρ', en, s1', rs', ep, fin⟩ := w1 us rs
      rw [e1] at ep
      obtain ⟨d1, d2, d3, ed⟩ : ∃ d1 d2 d3, ds' = [d1, d2, d3] := by
        have hl := putN_len ep
        cases ds' with
        | nil => cases hl
        | cons d1 r =>
          cases r with
          | nil => cases hl
          | cons d2 r =>
            cases r with
            | nil => cases hl
            | cons d3 r =>
              cases r with
              | nil => exact ⟨_, _, _, rfl⟩
              | cons _ _ => simp at hl
      subst ed
      obtain ⟨v1, _, ev, r1, v2, _, ev2, r2, v3, _, ev3, r3, ev4⟩ := rs'
      have ev4 : _ = [] := ev4
      subst ev4 ev3 ev2 ev
      have ep : some (((ρ.set i (some d1)).set j (some d2)).set l (some d3)) = some ρ' := ep
      cases ep
      exact ⟨v1, v2, v3, rfl, fin H1 G1' rfl (Ext.refl _ _) s1' _ (((en.set i r1).set j r2).set l r3)⟩
end
end Br

/-! Br11h: raise; what runs while an exception is handled. -/
namespace Br
open PySem PySem.Spec PyProof.Rows L2
/-! ### C() -/
theorem pmk_zero {X : Cx} {D : Addr} {x : Str} {p pos : Pos} (q : PySem.W.excIn X.K D veL "ValueError.__new__" = true) (gC : X.mg x = some (.ref D)) (kC : PySem.W.keepIn X.K (.ref D) = true) (r : Raises X (.ref D)) (hg : Gl X x)
    (hdb : (x == ("__debug__" : Str)) = false) : L2N.PMk X (.Call (.Name x p) [] [] pos) (fun _ H Q => Q (.ref D) none H) := by
  intro pins s σ H Q I h
  refine wpAny_Call_Name_kw (ld_glob I hg gC ?_ hdb)
  refine PySem.W.callWith_K0 I.kIn kC ?_
  show wpAny _ _ (call (.ref D) []) _ _ _
  obtain ⟨bm, N, nm, qn, bs, hdct, sn, sub, ab, col, dd, k0, k1, k2, k3, k5, mN, hC, hN, hni, tl⟩ := exc_obj I.kIn q
  exact wpAny_call_exc_subT PySem.F.excBase_ValueError tl hC hN hni (fun h' e hm => L2N.mk_of I hm r h (I.hok.gone hm.new)) (Nat.zero_le _)
/-! ### C(many, most) -/
theorem pmk_two {X : Cx} {CX : CXT} {x : Str} {D fI : Addr} {k : Nat} {fd : FuncData} {ps : List Str} {sp : Sp} {e : Expr} {es : List Expr} {ta : TA} {p pos : Pos} (O : OexC X.K D) (iC : PySem.W.findIn X.K (.ref D) "__init__" = some (some (.ref fI)))
    (tI : PySem.W.typeIn X.K (.ref fI) = some (.type "function")) (F1 : FnOk X.prog X.w X.K X.mg X.base CX k fI fd ps sp) (hr : Room (k + 1) X.A) (hb : Binds X.K fd ps []) (hx : Passes CX X (fun _ _ _ => False)) (hg : Gl X x) (hm : X.mg x = some (.ref D)) (ha : PA X (e :: es) ta)
    (hdb : (x == ("__debug__" : Str)) = false) (he : starEach (e :: es) X.env = (false, eval e X.env) :: starEach es X.env) (hpl : (backTo pos (starEach es X.env)).any (·.1) = false) :
    L2N.PMk X (.Call (.Name x p) (e :: es) [] pos) (tMkO D sp [] ta) := by
  intro pins s σ H Q I h
  obtain ⟨nm, q, N, bs, bm, sn, sub, ab, col, dd, k0, k1, k2, k3, k5, hC, hbm⟩ := O.cls
  refine wpAny_Call_Name_kw (ld_glob I hg hm ?_ hdb)
  refine PySem.W.callWith_K (h₀ := X.base) I.ok.mod.kin O.kC (thn (ha.run pos pins s σ H _ I h) fun us s1 ⟨vs, H1, J1, r1, hz, q1⟩ => ⟨J1.kIn, ?_⟩) he hpl
  show wpAny _ _ (call (.ref D) us) _ _ _
  obtain ⟨hp, g, dr, tk, os⟩ := s1
  have le1 : hp.objs.size ≤ hp.objs.size + 1 := Nat.le_succ _
  have fr : H1 (hp.objs.size + 1) = none := J1.hok.fresh le1
  have hq := q1 (hp.objs.size + 1) fr
  have up : ∀ b o, hp.get? b = some o → ((hp.push (PySem.W.kdv_tup us)).push (PySem.HandSPX.excO D hp.objs.size)).get? b = some o := fun b o z => Heap.get?_push_of_some _ (Heap.get?_push_of_some _ z)
  have at1 : ((hp.push (PySem.W.kdv_tup us)).push (PySem.HandSPX.excO D hp.objs.size)).get? (hp.objs.size + 1) = some (PySem.HandSPX.excO D hp.objs.size) := by
    heap_get
  have J2 : Inv X pins σ (upd H1 (hp.objs.size + 1) (exo (hp.objs.size + 1) D none)) ⟨(hp.push (PySem.W.kdv_tup us)).push (PySem.HandSPX.excO D hp.objs.size), g, dr, tk, os⟩ :=
    J1.laid (t' := tk) (a := hp.objs.size + 1) (o := exo (hp.objs.size + 1) D none) (h' := (hp.push (PySem.W.kdv_tup us)).push (PySem.HandSPX.excO D hp.objs.size)) up le1 (exo_ok at1)
  have r2 : Vals (V.ref (hp.objs.size + 1) :: (vs ++ [])) (Value.ref (hp.objs.size + 1) :: (us ++ [])) := .cons rfl (r1.append .nil)
  have hl : (Value.ref (hp.objs.size + 1) :: us ++ []).length = ps.length := by
    have z := r2.length
    rw [F1.len _ _ _ _ hq] at z
    exact z.symm
  have bnd := hb _ (Value.ref (hp.objs.size + 1) :: us) J2.kIn hl
  rw [List.cons_append] at bnd
  have few : us.length ≤ sizeLine := by
    rw [← Paired.length r1, sizeLine_eq]
    omega
  refine wpAny_call (PySem.HandSPX.call_own PySem.F.excBase_ValueError (fun Y => PySem.HandSPX.refsVE_contains Y bm hbm) (J1.kIn _ _ hC) (PySem.W.looks_findIn J1.kIn iC) (fun self => PySem.W.bind_fn J1.kIn self tI) few ?_)
  refine codeAny_mono (F1.run _ X.stack _ _ ⟨Value.ref (hp.objs.size + 1) :: us, []⟩ (Value.ref (hp.objs.size + 1) :: (us ++ [])) _ _ (fun _ _ _ => False) (hr.make D us []) (J2.env0.make D us []) bnd r2 hq) fun r s' hq' => ?_
  cases r with
  | error er => exact hx pins σ _ _ er s' J2 hq'
  | ok fl =>
    cases fl with
    | ret u =>
      obtain ⟨v, H2, os2, bare2, un2, hok2, rv, ev, d, fs, ea, ed, hd1, q2⟩ := hq'
      subst ev
      obtain ⟨h2, g2, d2, t2, os'⟩ := s'
      obtain ⟨t0, G, J, kG, ge, hoe, na⟩ := mk_end0 (d2 := d2) (t2 := t2) J1 le1 up un2 hok2 os2 bare2 ea ed hd1
      refine ⟨rv, hp.objs.size + 1, _, _, ⟨G, g2, d2, t2, os'⟩, _, .ref D, some d, rfl, J, kG, ge, hoe, ⟨rfl, rfl, fun vs hv => ?_⟩, rfl, rfl, na, rfl, bare2, raises_own O.exC O.tyC, q2⟩
      cases hv
      rfl
    | next => exact False.elim hq'
    | brk => exact False.elim hq'
    | cont => exact False.elim hq'
theorem lt_of_get {α : Type} {l : List α} {i : Nat} {x : α} (h : l[i]? = some x) : i < l.length := (List.getElem?_eq_some_iff.mp h).1
section
variable {T : Tb} {P : Pg} {C : Oracle} {lvl : Nat} {W : WX}
theorem raises_cls {X : Cx} {D : Addr} (h : ClsOk X.K D) : Raises X (.ref D) := raises_own h.sb h.ty
theorem sS_rais0 {X : Cx} {c : Nat} {x : Str} {p q r : Pos} (hX : SOk T P C lvl W X) (hc : P.cls[c]? = some x) (hg : glOk X.env.scope x = true) (hn : P.gr ≠ some c) : PS X (.Raise (some (.Call (.Name x p) [] [] q)) none r) (tS T C W (.rais c .nil)) := by
  obtain ⟨g, hd, _⟩ := gl_ok hg
  have lt := lt_of_get hc
  refine PS.imp (L2N.ps_raise hX.calm hX.takes (pmk_zero (hX.cg.mx c lt hn) (hX.cls c x hc) (hX.cg.ok c lt).kp (raises_cls (hX.cg.ok c lt)) g hd)) fun D σ H ⟨ρ, G, he, hs, z⟩ => ?_
  have z : Post T W H G (.exc c [] G.st : Res Fl) (kF T D) := z
  exact z σ none H G rfl (Ext.refl _ _) hs (.inl ⟨rfl, rfl⟩)
theorem sS_rais2 {X : Cx} {c : Nat} {x : Str} {es : Es} {fs : List Expr} {p q r : Pos} (nn : es.isNil = false) (hX : SOk T P C lvl W X) (hc : P.cls[c]? = some x) (hg : glOk X.env.scope x = true) (hn : P.gr = some c) (hi : ∀ e ∈ fs, ixOk e = true) (hne : fs.isEmpty = false) (ha : PA X fs (tDs T C W es)) :
    PS X (.Raise (some (.Call (.Name x p) fs [] q)) none r) (tS T C W (.rais c es)) := by
  obtain ⟨g, hd, _⟩ := gl_ok hg
  have lt := lt_of_get hc
  obtain ⟨oc, fI, fd, i1, i2, F1, B⟩ := hX.gr c hn
  cases fs with
  | nil => cases hne
  | cons e es' =>
    have two : Room 2 X.A := hX.rm.mono hX.two
    refine PS.imp (L2N.ps_raise hX.calm hX.takes (pmk_two oc i1 i2 F1 two B pass0 g (hX.cls c x hc) ha hd (star_cons (hi e List.mem_cons_self)) (star_any fun y hy => hi y (List.mem_cons_of_mem _ hy)))) fun D σ H ⟨ρ, G, he, hs, z⟩ => ?_
    refine ⟨ρ, G, he, hs, Post.bind z fun xs H1 G1 x1 s1 q1 vs rs => ?_⟩
    have q1 : Post T W H1 G1 (raisR c es xs G1.st) (kF T D) := q1
    unfold raisR at q1
    split at q1
    · cases nn
    · rename_i m ms x y z0 q0
      obtain ⟨v, vs, rfl, rx, w, ws, rfl, ry, rfl⟩ := rs
      refine ⟨by show 2 ≤ 1000; decide, fun a na => ⟨a, v, w, rfl, upd_same, fun d nd ne => ⟨rfl, d, _, ?_, upd_same, ?_, ?_⟩⟩⟩
      · rw [upd_ne (Ne.symm ne)]
        exact upd_same
      · rw [upd_ne ne] at nd
        exact nd
      · have nd1 : H1 d = none := by
          rw [upd_ne ne] at nd
          exact nd
        have hh : ∀ b, b ≠ d → upd (del (upd (upd (upd (upd H1 a (exo a (T.ca c) none)) d (exd d [("many", v)])) a (exo a (T.ca c) (some d))) d (exd d [("most", w), ("many", v)])) a) d (.xd [("most", w), ("many", v)]) b = H1 b := fun b hb => by
          rw [upd_ne hb]
          by_cases hba : b = a
          · rw [hba, del_same, na]
          · rw [del_ne hba, upd_ne hb, upd_ne hba, upd_ne hb, upd_ne hba]
        have eh : upd (del (upd (upd (upd (upd H1 a (exo a (T.ca c) none)) d (exd d [("many", v)])) a (exo a (T.ca c) (some d))) d (exd d [("most", w), ("many", v)])) a) d (.xd [("most", w), ("many", v)]) = upd H1 d (.xd [("most", w), ("many", v)]) := by
          funext b
          by_cases hb : b = d
          · rw [hb, upd_same, upd_same]
          · rw [hh b hb, upd_ne hb]
        rw [eh]
        have m := (Ext.obj (G := G1) (HO.xd [("most", w), ("many", v)]) nd1).mon
        exact q1 σ (some d) _ G1 rfl (Ext.obj _ nd1) (s1.obj _ nd1) (.inr ⟨d, .int x, .int y, v, w, rfl, rfl, upd_same, s1.fresh nd1, Rep.mono m.toMon rx, Rep.mono m.toMon ry⟩)
    · exact q1.elim
end
/-! ### while an exception is handled -/
section
variable {P : Program} {w : World} {K : PySem.W.Frag} {mg : Str → Option Value} {base : Heap}
/-- a def from its body -/
theorem fn_ofP {CX : CXT} {k : Nat} {f : Addr} {x qual : Str} {st : Stmt} {fd : FuncData} {N ps : List Str} {sp : Addr × Obj → Sp} (F : Fun K x qual st f fd) (S : FnScope N ps (defScope st)) (len : ∀ p vs H Q E, sp p vs H Q E → vs.length = ps.length)
    (body : ∀ (p : Addr × Obj) (cdv : Value) (A : Around) (out : List PySem.Env) (s : Shared) (H : Hp) (vs : List V) (Q : VK) (E : XK), L2H.Hot1 A p → L2H.RoomH k (A.deeper (envOfC qual (defScope st) s.heap.objs.size f cdv)) → sp p vs H Q E →
      ∃ t, PSs (L2H.cxH CX P w K mg base N qual (defScope st) f cdv A out s H E p) (defBody st) t ∧ t { nx := fun _ H' => Q .non H', rt := Q } (L2.start N vs) H) : FnP P w K mg base CX (k + 1) f fd ps sp := by
  obtain ⟨oc, od, kV, doc, pm, an, cdv, ct, osl, rfl, lk, hcd⟩ := F.ex
  refine ⟨len, fun p A out s H ar us vs Q E hr hot pin e0 hb r hsp => ?_⟩
  have nv := len _ _ _ _ _ hsp
  have inK : K.In s.heap := e0.mod.kin.keeps fun b o e => (e0.bs b o e).1
  refine codeAny_call_function hr.depth (inK _ _ lk) rfl S.co S.gen rfl (PySem.W.codeRec_of inK hcd) (hb _ _ _ _ ?_)
  refine wpAny_newFunctionEnv_cells S.kind (fun ⟨n, v⟩ hy => ?_) fun env he s1 z => ?_
  · rcases S.par n (List.of_mem_zip hy).1 with q | q
    · exact .inl q
    · exact .inr ⟨q, PySem.W.cellsFrom_some _ _ _ (.inl q)⟩
  · subst he
    have nolim : s.heap.NoLimit := e0.mod.nolimit.keeps fun b o e => (e0.bs b o e).1
    refine ⟨nolim.keeps z.toInCall.keep, codeAny_func ?_⟩
    obtain ⟨t, ht, hq⟩ := body p cdv A out s H vs Q E hot (hr.deeper _) hsp
    refine wpAny_mono (ht.run [] s1 (L2.start N vs) H _ (L2H.inv_startH S pin e0 nv r z) hq) (fun fl s' hs => ?_) fun _ _ hs => hs
    cases fl with
    | ret u =>
      obtain ⟨v, σ', H', J, rv, q⟩ := hs
      exact ⟨v, H', J.os, J.bare, J.base, J.hok, rv, q⟩
    | next =>
      obtain ⟨σ', H', J, q⟩ := hs
      exact ⟨.non, H', J.os, J.bare, J.base, J.hok, rfl, q⟩
    | brk => exact hs.elim fun _ hs => hs.elim fun _ hs => hs.2.elim
    | cont => exact hs.elim fun _ hs => hs.elim fun _ hs => hs.2.elim
end
section
variable {T : Tb} {P : Pg} {C : Oracle} {lvl : Nat}
/-- where the exception p of the c-th class is handled -/
structure HOk (T : Tb) (P : Pg) (C : Oracle) (lvl : Nat) (c : Nat) (p : Addr × Obj) (X : Cx) : Prop extends XLt (T.hot c p) P lvl X where
  hot : L2H.Hot1 X.A p
  mem : p ∈ X.pn
  cls1 : p.2.cls = .ref (T.ca c)
  lt : c < P.cls.length
  fn1 : ∀ x, X.fn x = true
  len : ∀ k vs st, C k vs st ≠ .bad → ∃ f, P.fns[k]? = some f ∧ vs.length = f.np
  hfn : ∀ k f, P.fns[k]? = some f → f.hot = true → (f.m = false → X.mg f.name = some (.ref (T.fa k))) ∧ PySem.W.keepIn X.K (.ref (T.fa k)) = true ∧ ∃ fd ps, FnP X.prog X.w X.K X.mg X.base (L2N.CX X.prog X.w) lvl (T.fa k) fd ps (spH T P C k) ∧ Binds X.K fd ps []
def noE : XK := fun _ _ _ => False
theorem pass_no {X : Cx} (σ : L2.St) : PassesAt (L2N.CX X.prog X.w) X σ noE := fun _ _ _ _ _ _ h => by
  obtain ⟨_, _, _, _, _, _, _, _, _, _, _, _, z⟩ := h
  exact z.elim
variable {X : Cx} {c : Nat} {p : Addr × Obj}
theorem run_fnP {CX : CXT} {k : Nat} {f : Addr} {fd : FuncData} {ps : List Str} {sp : Addr × Obj → Sp} {pins : List (Addr × Obj)} {σ : L2.St} {H : Hp} {s : Shared} {Q : VK} {E : XK} {us : List Value} {vs : List V} (F : FnP X.prog X.w X.K X.mg X.base CX k f fd ps sp)
    (hr : L2H.RoomH k X.A) (hot : L2H.Hot1 X.A p) (mem : p ∈ X.pn) (hb : Binds X.K fd ps []) (hx : PassesAt CX X σ E) (I : Inv X pins σ H s) (r : Vals vs us) (h : sp p vs H Q E) : wpAny (model X.prog X.w) X.A (call (.ref f) us) (EP X pins σ Q) X.xe s := by
  have nv : us.length = ps.length := by rw [← r.length]; exact F.len _ _ _ _ _ h
  have b := hb s us I.kIn (by rw [List.append_nil]; exact nv)
  rw [List.append_nil] at b
  obtain ⟨i1, i2, i3, i4, i5⟩ := I.pin p (List.mem_append_left _ mem)
  refine wpAny_call (codeAny_mono (F.run p X.A X.stack s H ⟨us, []⟩ us vs Q E hr hot ⟨i1, i2, fun hm => ?_, i5⟩ I.env0 b r h) fun r s' hq => ?_)
  · rcases List.mem_cons.mp (I.stkSub p.1 hm) with z | z
    · exact i3 z
    · exact i4 z
  · cases r with
    | error e => exact hx pins H s e s' I hq
    | ok fl =>
      cases fl with
      | ret u => exact I.after hq
      | _ => exact False.elim hq
theorem pe_callP {CX : CXT} {k : Nat} {f : Addr} {fd : FuncData} {ps : List Str} {sp : Addr × Obj → Sp} {x : Str} {e : Expr} {es : List Expr} {t : TA} {E : XK} {q pos : Pos} (F : FnP X.prog X.w X.K X.mg X.base CX k f fd ps sp) (hr : L2H.RoomH k X.A) (hot : L2H.Hot1 X.A p)
    (mem : p ∈ X.pn) (hg : Gl X x) (hm : X.mg x = some (.ref f)) (hk : PySem.W.keepIn X.K (.ref f) = true) (hb : Binds X.K fd ps []) (hx : ∀ σ, PassesAt CX X σ E) (ha : PA X (e :: es) t) (hdb : (x == ("__debug__" : Str)) = false)
    (he : starEach (e :: es) X.env = (false, eval e X.env) :: starEach es X.env) (hpl : (backTo pos (starEach es X.env)).any (·.1) = false) :
    PE X (.Call (.Name x q) (e :: es) [] pos) (fun σ H Q => t σ H fun vs H1 => sp p vs H1 Q E) := by
  refine ⟨fun pins s σ H Q I h => ?_⟩
  refine wpAny_Call_Name_kw (ld_glob I hg hm ?_ hdb)
  exact PySem.W.callWith_K (h₀ := X.base) I.ok.mod.kin hk (thn (ha.run pos pins s σ H _ I h) fun us s1 ⟨vs, H1, I1, r, q⟩ => ⟨I1.kIn, run_fnP F hr hot mem hb (hx σ) I1 r q⟩) he hpl
/-- isinstance(e, y) of the exception that is handled -/
theorem call_isH (hX : HOk T P C lvl c p X) : CallR X (.builtin "isinstance") (fun xs H Q => ∃ y cv b, xs = [.ref p.1, y] ∧ (∀ u, RelV y u → u = cv) ∧ (p.2.dict = none ∨ ∃ d fs, p.2.dict = some d ∧ H d = some (.xd fs)) ∧ PySem.W.kitOne X.K (.ref (T.ca c)) cv = some b ∧ Q (.bl b) H) := by
  intro pins s σ H xs us Q I r h
  obtain ⟨y, cv, b, rfl, hcv, hd, e, q⟩ := h
  cases r with
  | cons rx rr =>
    cases rr with
    | cons rt rr =>
      cases rr
      cases rx
      have ec := hcv _ rt
      subst ec
      obtain ⟨hget, _⟩ := I.pin p (List.mem_append_left _ hX.mem)
      obtain ⟨vs, hv, _⟩ := hX.hot.2
      have O : ClsOk X.K (T.ca c) := hX.cg.ok c hX.lt
      have lt0 : 0 < P.cls.length := Nat.lt_of_le_of_lt (Nat.zero_le _) hX.lt
      have hcl : (PySem.W.clsIn X.K (T.ca c)).isSome = true := by
        obtain ⟨cd, hc, _⟩ := PySem.W.any_some O.hdt
        rw [hc]
        rfl
      have J : ∃ od, PySem.W.InstAt s.heap p.1 p.2 (T.ca c) od := by
        rcases hd with hd | ⟨d, fs, hd, hx⟩
        · exact ⟨none, hget, hX.cls1, by unfold PySem.W.notCls; rw [hv] <;> rfl, by rw [hd]; trivial⟩
        · have ob : ObjOk X.prog X.w H s.heap d (.xd fs) := I.hok d _ hx
          obtain ⟨mA, hns, _⟩ := ob
          obtain ⟨od, ho, _⟩ := lookIn_ns hns
          exact ⟨some od, hget, hX.cls1, by unfold PySem.W.notCls; rw [hv] <;> rfl, by rw [hd]; exact ho⟩
      obtain ⟨od, J⟩ := J
      exact PySem.W.kia_one (PySem.W.kitx_exc hcl O.hga O.hgg O.sb O.hcl (hX.cg.hn lt0) (hX.cg.ht lt0) O.hmr) I.kIn J e (fun z => nomatch z) fun tk => ⟨.bl b, H, I.kept (t' := tk) fun _ _ z => z, rfl, q⟩
theorem xfs_dict {H : Hp} {G : Wd} {fs : List Int} (h : XFs (T.hot c p) H G fs) : p.2.dict = none ∨ ∃ d fs, p.2.dict = some d ∧ H d = some (.xd fs) := by
  rcases h with ⟨_, h⟩ | ⟨d, i, j, h, _, e, _⟩
  · exact .inl h
  · exact .inr ⟨d, _, h, e⟩
variable {a b : E} {e f : Expr}
theorem sH_isx {y : Nat} {z : Str} {q p1 p2 : Pos} (hX : HOk T P C lvl c p X) (hb : bltOk P X.env.scope "isinstance" = true) (hc : P.cls[y]? = some z) (hz : glOk X.env.scope z = true) (hi : ixOk e = true) (h : PE X e (tE (T.hot c p) C W00 a)) :
    PE X (.Call (.Name "isinstance" p1) [e, .Name z p2] [] q) (tE (T.hot c p) C W00 (.isx a y)) := by
  obtain ⟨hgl, hm⟩ := blt_mg hX.toXLt hb
  obtain ⟨g2, d2, _⟩ := gl_ok hz
  refine PE.imp (pe_callB (call_isH hX) hgl hm (by decide +kernel) (pa_cons h (pa_cons (pe_glob g2 (hX.cls y z hc) (v := .ref (T.ca y)) rfl d2) pa_nil (star_cons rfl)) (star_cons hi)) (he := star_cons hi)) fun σ H Q ⟨ρ, G, he, hs, q⟩ => tE_bind he hs q fun x v H1 G1 x1 s1 e1 r1 q1 => ?_
  split at q1
  · rename_i c' fs
    obtain ⟨a1, ev, ea, ec, xf⟩ := r1
    cases ea
    subst ev
    have ec : c' = c := ec
    subst ec
    exact ⟨_, .ref (T.ca y), _, rfl, fun u hu => hu, xfs_dict xf, hX.cg.pr _ y hX.lt (lt_of_get hc), q1.here s1 _ rfl⟩
  · exact q1.elim
theorem sH_isv {q p1 p2 : Pos} (hX : HOk T P C lvl c p X) (hb : bltOk P X.env.scope "isinstance" = true) (hz : bltOk P X.env.scope "ValueError" = true) (hi : ixOk e = true) (h : PE X e (tE (T.hot c p) C W00 a)) :
    PE X (.Call (.Name "isinstance" p1) [e, .Name "ValueError" p2] [] q) (tE (T.hot c p) C W00 (.isv a)) := by
  obtain ⟨hgl, hm⟩ := blt_mg hX.toXLt hb
  obtain ⟨g2, m2⟩ := blt_mg hX.toXLt hz
  refine PE.imp (pe_callB (call_isH hX) hgl hm (by decide +kernel) (pa_cons h (pa_cons (pe_bltn g2 m2 (u := .type "ValueError") (v := .ty "ValueError") PyProof.Rows.Boot.«ValueError» rfl) pa_nil (star_cons rfl)) (star_cons hi)) (he := star_cons hi)) fun σ H Q ⟨ρ, G, he, hs, q⟩ => tE_bind he hs q fun x v H1 G1 x1 s1 e1 r1 q1 => ?_
  split at q1
  · rename_i c' fs
    obtain ⟨a1, ev, ea, ec, xf⟩ := r1
    cases ea
    subst ev
    exact ⟨_, .type "ValueError", _, rfl, fun u hu => hu, xfs_dict xf, (hX.cg.ok c hX.lt).ve, q1.here s1 _ rfl⟩
  · exact q1.elim
theorem lk_mm (v w : V) : List.lookup ("many" : Str) [(("most" : Str), w), (("many" : Str), v)] = some v ∧ List.lookup ("most" : Str) [(("most" : Str), w), (("many" : Str), v)] = some w := by
  constructor <;> rfl
/-- a field of the exception that is handled -/
theorem sH_fld {t : Bool} {n : Str} {q : Pos} (hX : HOk T P C lvl c p X) (hnn : n = if t then "many" else "most") (ha : noAttr e = true) (h : PE X e (tE (T.hot c p) C W00 a)) :
    PE X (.Attribute e n q) (tE (T.hot c p) C W00 (.fld a t)) := by
  refine ⟨fun pins s σ H Q I hh => ?_⟩
  obtain ⟨ρ, G, he, hs, z⟩ := hh
  refine attr_of (noAttr_ok ha) (thn (h.run pins s σ H (fun v H1 => v = .ref p.1 ∧ ∃ d i j, p.2.dict = some d ∧ H1 d = some (.xd [("most", .int j), ("many", .int i)]) ∧ Q (.int (if t then i else j)) H1) I ?_) fun u s1 hz => ?_)
  · refine tE_bind he hs z fun x v H1 G1 x1 s1 e1 r1 q1 => ?_
    split at q1
    · obtain ⟨a1, ev, ea, ec, xf⟩ := r1
      cases ea
      subst ev
      rcases xf with ⟨h1, _⟩ | ⟨d, i', j', h1, h2, h3, _⟩
      · cases h1
      · cases h2
        exact ⟨rfl, d, _, _, h1, h3, q1.here s1 _ rfl⟩
    · exact q1.elim
  · obtain ⟨x, H1, I1, rx, ex, d, i, j, ed, eh, q1⟩ := hz
    subst ex
    obtain rfl : u = Value.ref p.1 := rx
    obtain ⟨hget, _⟩ := I1.pin p (List.mem_append_left _ hX.mem)
    obtain ⟨vs, hv, _⟩ := hX.hot.2
    have O : ClsOk X.K (T.ca c) := hX.cg.ok c hX.lt
    have ob : ObjOk X.prog X.w H1 s1.heap d (.xd [("most", .int j), ("many", .int i)]) := I1.hok d _ eh
    obtain ⟨mA, hns, hr⟩ := ob
    obtain ⟨od, ho, hl⟩ := lookIn_ns hns
    have l : List.lookup n [(("most" : Str), V.int j), (("many" : Str), V.int i)] = some (.int (if t then i else j)) := by
      subst hnn
      cases t
      · exact (lk_mm _ _).2
      · exact (lk_mm _ _).1
    have hm : PySem.W.findIn X.K (.ref (T.ca c)) n = some none := by
      subst hnn
      cases t
      · exact O.ns
      · exact O.nm
    obtain ⟨u, hu, ru⟩ := RelO.some_of (v := .int (if t then i else j)) (o := mA n) (by rw [← l]; exact hr n)
    have J : PySem.W.InstAt s1.heap p.1 p.2 (T.ca c) (some od) := ⟨hget, hX.cls1, by unfold PySem.W.notCls; rw [hv] <;> rfl, by rw [ed]; exact ho⟩
    exact HandSPX.exc_get I1.kIn J O.hga O.hgg O.sb (PySem.W.findObj_own O.hdt hm rfl (by rw [hl, hu])) (handed_of ru) ⟨_, H1, I1.tok _, ru, q1⟩
end
end Br

/-! Br11i: what runs while an exception is handled, as a whole; try. -/
namespace Br
open PySem PySem.Spec PyProof.Rows L2
section
variable {T : Tb} {P : Pg} {C : Oracle} {lvl : Nat} {c : Nat} {p : Addr × Obj}
theorem sH_call {X : Cx} {k : Nat} {x : Str} {es : Es} {fs : List Expr} {q p1 : Pos} (hX : HOk T P C lvl c p X) (hk : P.fns[k]?.bind (·.gn) = some x) (hh : P.fns[k]?.map (·.hot) = some true) (hb : glOk X.env.scope x = true) (hne : fs.isEmpty = false) (hi : ∀ e ∈ fs, ixOk e = true)
    (h : PA X fs (tEs (T.hot c p) C W00 es)) : PE X (.Call (.Name x p1) fs [] q) (tE (T.hot c p) C W00 (.call k es)) := by
  cases hf : P.fns[k]? with
  | none => rw [hf] at hk; cases hk
  | some f =>
    rw [hf] at hk hh
    obtain ⟨m0, rfl⟩ := gn_ok (show f.gn = some x from hk)
    obtain ⟨hm, kp, fd, ps, F, B⟩ := hX.hfn k f hf (Option.some.inj hh)
    replace hm := hm m0
    obtain ⟨hg, hd, _⟩ := gl_ok hb
    cases fs with
    | nil => cases hne
    | cons e es' =>
      refine PE.imp (pe_callP F hX.room hX.hot hX.mem hg hm kp B (fun σ => pass_no σ) h hd (star_cons (hi e List.mem_cons_self)) (star_any fun x hx => hi x (List.mem_cons_of_mem _ hx))) fun σ H Q ⟨ρ, G, he, hs, q⟩ => ⟨ρ, G, he, hs, Post.bind q fun xs H1 G1 x1 s1 q1 vs r => ?_⟩
      have q2 := fin_ok s1 q1
      obtain ⟨f', hf', hl⟩ := hX.len k xs G1.st q2.nebad
      exact ⟨c, xs, G1, f', hX.cls1, hX.lt, hf', hl, r, s1, q2⟩
mutual
theorem sEH : ∀ (m : E) {X : Cx} (_ : hotE P m = true) (_ : HOk T P C lvl c p X) (e : Expr), chkE P X.N m X.env.scope e = true → Both (T.hot c p) C X W00 m e
  | .var i, X, hm, hX, e, hc => by
    obtain ⟨x, h1, h⟩ := opt_ok hc
    obtain ⟨p, rfl⟩ := asName_ok h1
    exact both_val rfl (slot_var h)
  | .con d, X, hm, hX, e, hc => by
    obtain ⟨x, h1, h⟩ := opt_ok hc
    obtain ⟨k, p, rfl⟩ := asCon_ok h1
    exact both_val rfl (con_ok h)
  | .op o a b, X, hm, hX, e, hc => by
    obtain ⟨m1, m2⟩ := and2 hm
    obtain ⟨x, h1, h⟩ := opt_ok hc
    obtain ⟨p, rfl⟩ := asBin_ok h1
    obtain ⟨h, h3⟩ := and2 h
    obtain ⟨h, h2⟩ := and2 h
    rw [show x.2.1 = bop o from of_decide_eq_true h]
    exact both_val rfl (sE_op hX.toXLt (sEH a m1 hX _ h2).1 (sEH b m2 hX _ h3).1)
  | .cmp o a b, X, hm, hX, e, hc => by
    obtain ⟨m1, m2⟩ := and2 hm
    obtain ⟨x, h1, h⟩ := opt_ok hc
    obtain ⟨p, rfl⟩ := asCmp_ok h1
    obtain ⟨h, h3⟩ := and2 h
    obtain ⟨h, h2⟩ := and2 h
    obtain ⟨h, h4⟩ := and2 h
    rw [show x.2.1 = cop o from of_decide_eq_true h]
    exact ⟨sE_cmp hX.toXLt (noSet_mk h4) (sEH a m1 hX _ h2).1 (sEH b m2 hX _ h3).1, fun _ => sT_cmp hX.toXLt (noSet_mk h4) (sEH a m1 hX _ h2).1 (sEH b m2 hX _ h3).1, fun _ ⟨_, _, _, e⟩ => by cases e⟩
  | .not a, X, hm, hX, e, hc => by
    obtain ⟨y, h1, h⟩ := opt_ok hc
    obtain ⟨p, rfl⟩ := asUn_ok h1
    obtain ⟨h, h2⟩ := and2 h
    rw [show y.1 = .Not from of_decide_eq_true h]
    have z := sEH a hm hX _ h2
    exact ⟨sE_not z.1, fun t => sT_not (z.2.1 t), fun _ ⟨_, _, _, e⟩ => by cases e⟩
  | .and a b, X, hm, hX, e, hc => by
    obtain ⟨m1, m2⟩ := and2 hm
    obtain ⟨y, h1, h⟩ := opt_ok hc
    obtain ⟨h, h3⟩ := and2 h
    obtain ⟨h, h2⟩ := and2 h
    exact both_and h1 (of_decide_eq_true h) (sEH a m1 hX _ h2) (sEH b m2 hX _ h3)
  | .or a b, X, hm, hX, e, hc => by
    obtain ⟨m1, m2⟩ := and2 hm
    obtain ⟨y, h1, h⟩ := opt_ok hc
    obtain ⟨h, h3⟩ := and2 h
    obtain ⟨h, h2⟩ := and2 h
    exact both_or h1 (of_decide_eq_true h) (sEH a m1 hX _ h2) (sEH b m2 hX _ h3)
  | .lst o es, X, hm, hX, e, hc => by
    obtain ⟨y, h1, h⟩ := opt_ok hc
    obtain ⟨p, rfl⟩ := asLst_ok h1
    exact both_val rfl (sE_lst (sEsH es hm hX _ h).2)
  | .idx a i, X, hm, hX, e, hc => by
    obtain ⟨m1, m2⟩ := and2 hm
    obtain ⟨y, h1, h⟩ := opt_ok hc
    obtain ⟨p, rfl⟩ := asSub_ok h1
    obtain ⟨h, h3⟩ := and2 h
    obtain ⟨h, h2⟩ := and2 h
    exact both_val rfl (sE_idx hX.toXLt h (sEH a m1 hX _ h2).1 (sEH i m2 hX _ h3).1)
  | .m1 f a b, X, hm, hX, e, hc => by
    obtain ⟨m1, m2⟩ := and2 hm
    obtain ⟨y, h1, h⟩ := opt_ok hc
    obtain ⟨z, h2, h⟩ := opt_ok h
    rw [asMeth_ok h1]
    rw [as1_ok h2]
    obtain ⟨h, h3⟩ := and2 h
    obtain ⟨h, h4⟩ := and2 h
    obtain ⟨h, h5⟩ := and2 h
    obtain ⟨h, h6⟩ := and2 h
    obtain ⟨h, h7⟩ := and2 h
    rw [show y.n = m1N f from of_decide_eq_true h7]
    exact both_val rfl (m1_pe hX.toXLt h (and2 h6).1 (and2 h6).2 h5 (sEH a m1 hX _ h4).1 (sEH b m2 hX _ h3).1)
  | .isx a y, X, hm, hX, e, hc => by
    obtain ⟨x, h1, h⟩ := opt_ok hc
    obtain ⟨p, q, rfl⟩ := asCall_ok h1
    obtain ⟨w, h2, h⟩ := opt_ok h
    rw [as2_ok h2]
    obtain ⟨z, h3, h⟩ := opt_ok h
    obtain ⟨p2, h3⟩ := asName_ok h3
    rw [h3]
    obtain ⟨h, a1⟩ := and2 h
    obtain ⟨h, a2⟩ := and2 h
    obtain ⟨h, a3⟩ := and2 h
    obtain ⟨h, a4⟩ := and2 h
    obtain ⟨h, a5⟩ := and2 h
    rw [show x.1 = "isinstance" from of_decide_eq_true h] at a5 ⊢
    exact both_val rfl (sH_isx hX a5 (of_decide_eq_true a4) a3 a2 (sEH a hm hX _ a1).1)
  | .isv a, X, hm, hX, e, hc => by
    obtain ⟨x, h1, h⟩ := opt_ok hc
    obtain ⟨p, q, rfl⟩ := asCall_ok h1
    obtain ⟨w, h2, h⟩ := opt_ok h
    rw [as2_ok h2]
    obtain ⟨z, h3, h⟩ := opt_ok h
    obtain ⟨p2, h3⟩ := asName_ok h3
    rw [h3]
    obtain ⟨h, a1⟩ := and2 h
    obtain ⟨h, a2⟩ := and2 h
    obtain ⟨h, a3⟩ := and2 h
    obtain ⟨h, a4⟩ := and2 h
    obtain ⟨h, a5⟩ := and2 h
    rw [show x.1 = "isinstance" from of_decide_eq_true h] at a5 ⊢
    rw [show z = "ValueError" from of_decide_eq_true a4] at a3 ⊢
    exact both_val rfl (sH_isv hX a5 a3 a2 (sEH a hm hX _ a1).1)
  | .fld a b, X, hm, hX, e, hc => by
    obtain ⟨x, h1, h⟩ := opt_ok hc
    obtain ⟨p, rfl⟩ := asAttr_ok h1
    obtain ⟨h, a1⟩ := and2 h
    obtain ⟨h, a2⟩ := and2 h
    exact both_val rfl (sH_fld hX (of_decide_eq_true h) a2 (sEH a hm hX _ a1).1)
  | .call k es, X, hm, hX, e, hc => by
    obtain ⟨m1, m2⟩ := and2 hm
    obtain ⟨y, h1, h⟩ := opt_ok hc
    obtain ⟨p, q, rfl⟩ := asCall_ok h1
    obtain ⟨h, h3⟩ := and2 h
    obtain ⟨h, h4⟩ := and2 h
    obtain ⟨h, h5⟩ := and2 h
    exact both_val rfl (sH_call hX (of_decide_eq_true h) (eq_of_beq m1) h5 (nBool h4) (chkEs_ix h3) (sEsH es m2 hX _ h3).1)
  | .glb _ _, _, hm, _, _, _ => by cases hm
  | .cmp2 _ _ _ _ _, _, hm, _, _, _ => by cases hm
  | .isN _, _, hm, _, _, _ => by cases hm
  | .notN _, _, hm, _, _, _ => by cases hm
  | .neg _, _, hm, _, _, _ => by cases hm
  | .ite _ _ _, _, hm, _, _, _ => by cases hm
  | .tup _, _, hm, _, _, _ => by cases hm
  | .sl _ _ _, _, hm, _, _, _ => by cases hm
  | .rev _, _, hm, _, _, _ => by cases hm
  | .b1 _ _, _, hm, _, _, _ => by cases hm
  | .cpy _, _, hm, _, _, _ => by cases hm
  | .b2 _ _ _, _, hm, _, _, _ => by cases hm
  | .isi _ _, _, hm, _, _, _ => by cases hm
  | .callo _ _, _, hm, _, _, _ => by cases hm
  | .callz _ _, _, hm, _, _, _ => by cases hm
  | .pick _ _ _, _, hm, _, _, _ => by cases hm
  | .dct0, _, hm, _, _, _ => by cases hm
  | .frz _, _, hm, _, _, _ => by cases hm
  | .comp _ _ _ _ _ _, _, hm, _, _, _ => by cases hm
  | .stuck, _, hm, _, _, _ => by cases hm
  | .fnv _, _, hm, _, _, _ => by cases hm
  | .calle _ _, _, hm, _, _, _ => by cases hm
  | .l1 _ _ _, _, hm, _, _, _ => by cases hm
  | .popi _ _, _, hm, _, _, _ => by cases hm
  | .trange _, _, hm, _, _, _ => by cases hm
  | .opo _ _, _, hm, _, _, _ => by cases hm
  | .revt _, _, hm, _, _, _ => by cases hm
  | .lens _, _, hm, _, _, _ => by cases hm
  | .join _ _, _, hm, _, _, _ => by cases hm
  | .strI _, _, hm, _, _, _ => by cases hm
  | .rep _, _, hm, _, _, _ => by cases hm
  | .fldI _ _ _, _, hm, _, _, _ => by cases hm
  | .new _ _ _, _, hm, _, _, _ => by cases hm
  | .meth _ _ _ _ _ _, _, hm, _, _, _ => by cases hm
  | .bits _, _, hm, _, _, _ => by cases hm
  | .dnw _ _, _, hm, _, _, _ => by cases hm
  | .sortd _ _, _, hm, _, _, _ => by cases hm
  | .dget _ _ _, _, hm, _, _, _ => by cases hm
  | .dgetK _ _ _, _, hm, _, _, _ => by cases hm
  | .gin _ _ _ _, _, hm, _, _, _ => by cases hm
  | .gix _ _ _, _, hm, _, _, _ => by cases hm
  | .isB _ _ _, _, hm, _, _, _ => by cases hm
  | .splt _ _ _, _, hm, _, _, _ => by cases hm
  | .lsd _ _, _, hm, _, _, _ => by cases hm
  | .minN _, _, hm, _, _, _ => by cases hm
  | .emp _, _, hm, _, _, _ => by cases hm
  | .trange2 _ _, _, hm, _, _, _ => by cases hm
  | .compr _ _ _ _, _, hm, _, _, _ => by cases hm
  | .idxr _ _, _, hm, _, _, _ => by cases hm
theorem sEsH : ∀ (m : Es) {X : Cx} (_ : hotEs P m = true) (_ : HOk T P C lvl c p X) (fs : List Expr), chkEs P X.N m X.env.scope fs = true → PA X fs (tEs (T.hot c p) C W00 m) ∧ PA X fs (tDs (T.hot c p) C W00 m)
  | .nil, X, hm, hX, fs, hc => by
    have h : fs.isEmpty = true := hc
    rw [List.isEmpty_iff.mp h]
    exact ⟨PA.imp pa_nil fun σ H Q ⟨ρ, G, he, hs, q⟩ => q.here hs [] rfl, PA.imp pa_nil fun σ H Q ⟨ρ, G, he, hs, q⟩ => q.here hs [] rfl⟩
  | .cons m ms, X, hm, hX, fs, hc => by
    obtain ⟨m1, m2⟩ := and2 hm
    obtain ⟨f, h1, h⟩ := opt_ok hc
    cases fs with
    | nil => cases h1
    | cons g gs =>
      cases h1
      obtain ⟨h, h3⟩ := and2 h
      obtain ⟨h, h4⟩ := and2 h
      have z1 := (sEH m m1 hX _ h4).1
      have z2 := sEsH ms m2 hX gs h3
      refine ⟨PA.imp (pa_cons z1 z2.1 (star_cons h)) fun σ H Q ⟨ρ, G, he, hs, q⟩ => ?_, PA.imp (pa_cons z1 z2.2 (star_cons h)) fun σ H Q ⟨ρ, G, he, hs, q⟩ => ?_⟩
      · exact tE_bind he hs q fun x v H1 G1 x1 s1 e1 r1 q1 => ⟨ρ, G1, e1, s1, Post.bind q1 fun xs H2 G2 x2 s2 q2 vs rs => q2.here s2 _ ⟨v, vs, rfl, r1.mono x2.mon, rs⟩⟩
      · refine tE_bind he hs q fun x v H1 G1 x1 s1 e1 r1 q1 => ?_
        cases x with
        | r n => exact False.elim q1
        | d y => exact ⟨ρ, G1, e1, s1, Post.bind q1 fun xs H2 G2 x2 s2 q2 vs rs => q2.here s2 _ ⟨v, vs, rfl, Rep.mono x2.mon.toMon r1, rs⟩⟩
end
mutual
theorem sSH : ∀ (m : S) {X : Cx} (_ : hotS P m = true) (_ : HOk T P C lvl c p X) (s : Stmt), chkS P X.N m X.env.scope s = true → PS X s (tS (T.hot c p) C W00 m)
  | .set i e, X, hm, hX, s, hc => by
    obtain ⟨x, h1, h⟩ := opt_ok hc
    rw [asSet_ok h1]
    obtain ⟨y, h2, h⟩ := opt_ok h
    rw [asNameP_ok h2]
    obtain ⟨h, h3⟩ := and2 h
    obtain ⟨h, h4⟩ := and2 h
    obtain ⟨h, h5⟩ := and2 h
    obtain ⟨h, h6⟩ := and2 h
    have hi := of_decide_eq_true h
    rcases Bool.or_eq_true_iff.mp h4 with h4 | h4
    · exact PS.fn fun hk => PS.imp (ps_set hX.nd hi (loc_ok h6) (sEH e hm hX _ h3).1 (sw_out hk h4) (.inl (hX.fn1 y.1))) fun D σ H ⟨ρ, G, he, hs, z⟩ => tE_bind he hs z fun v u H1 G1 x1 s1 e1 r1 q1 => q1.here s1 _ (e1.set i r1)
    · obtain ⟨h7, h8⟩ := and2 h4
      cases e <;> first | (cases h7; done) | (cases hm; done)
  | .ite c a b, X, hm, hX, s, hc => by
    obtain ⟨m1, m3⟩ := and2 hm
    obtain ⟨m1, m2⟩ := and2 m1
    obtain ⟨x, h1, h⟩ := opt_ok hc
    obtain ⟨p, rfl⟩ := asIfS_ok h1
    obtain ⟨h, h3⟩ := and2 h
    obtain ⟨h, h4⟩ := and2 h
    obtain ⟨h, h5⟩ := and2 h
    refine PS.imp (ps_if ((sEH c m1 hX _ h5).2.1 h) (sSsH a m2 hX _ h4) (sSsH b m3 hX _ h3)) fun D σ H ⟨ρ, G, he, hs, z⟩ => tT_test he hs z fun t H1 G1 x1 s1 e1 q1 => ?_
    cases t with
    | true => exact iteT ⟨ρ, G1, e1, s1, q1⟩
    | false => exact iteF ⟨ρ, G1, e1, s1, q1⟩
  | .ret e, X, hm, hX, s, hc => by
    obtain ⟨x, h1, h⟩ := opt_ok hc
    obtain ⟨p, rfl⟩ := asRet_ok h1
    obtain ⟨y, rfl, h⟩ := opt_ok h
    exact PS.imp (ps_ret (sEH e hm hX _ h).1) fun D σ H ⟨ρ, G, he, hs, z⟩ => tE_bind he hs z fun v u H1 G1 x1 s1 e1 r1 q1 => q1.here s1 _ r1
  | .setT _ _, _, hm, _, _, _ => by cases hm
  | .setP _ _, _, hm, _, _, _ => by cases hm
  | .aug _ _, _, hm, _, _, _ => by cases hm
  | .seti _ _ _, _, hm, _, _, _ => by cases hm
  | .dset _ _ _, _, hm, _, _, _ => by cases hm
  | .setf _ _ _ _, _, hm, _, _, _ => by cases hm
  | .app _ _, _, hm, _, _, _ => by cases hm
  | .ext _ _, _, hm, _, _, _ => by cases hm
  | .ex _, _, hm, _, _, _ => by cases hm
  | .for _ _ _, _, hm, _, _, _ => by cases hm
  | .whl _ _, _, hm, _, _, _ => by cases hm
  | .retN, _, hm, _, _, _ => by cases hm
  | .rais _ _, _, hm, _, _, _ => by cases hm
  | .pass, _, hm, _, _, _ => by cases hm
  | .stuck, _, hm, _, _, _ => by cases hm
  | .ins _ _ _, _, hm, _, _, _ => by cases hm
  | .tryk _ _ _ _, _, hm, _, _, _ => by cases hm
theorem sSsH : ∀ (m : Ss) {X : Cx} (_ : hotSs P m = true) (_ : HOk T P C lvl c p X) (s : List Stmt), chkSs P X.N m X.env.scope s = true → PSs X s (tSs (T.hot c p) C W00 m)
  | .nil, X, hm, hX, s, hc => by
    have h : s.isEmpty = true := hc
    rw [List.isEmpty_iff.mp h]
    exact PSs.imp pss_nil fun D σ H ⟨ρ, G, he, hs, z⟩ => z.here hs _ he
  | .cons m r, X, hm, hX, s, hc => by
    obtain ⟨m1, m2⟩ := and2 hm
    obtain ⟨f, h1, h⟩ := opt_ok hc
    cases s with
    | nil => cases h1
    | cons g gs =>
      cases h1
      obtain ⟨h, h3⟩ := and2 h
      refine PSs.imp (pss_cons (sSH m m1 hX _ h) (sSsH r m2 hX _ h3)) fun D σ H ⟨ρ, G, he, hs, z⟩ => ⟨ρ, G, he, hs, Post.bind z fun fl H1 G1 x1 s1 q1 => ?_⟩
      cases fl with
      | next ρ2 => exact fun σ' e2 => ⟨ρ2, G1, e2, s1, q1⟩
      | ret v => exact q1.here s1
  | .frz _ _, _, hm, _, _, _ => by cases hm
end
end
/-! ### try -/
mutual
theorem noX_rep {T : Tb} {H : Hp} {G : Wd} {c : Nat} {p : Addr × Obj} : ∀ {d : D} {v : V}, noX d = true → Rep (T.hot c p) H G d v → Rep T H G d v
  | .non, _, _, h => h
  | .bl _, _, _, h => h
  | .int _, _, _, h => h
  | .str _, _, _, h => h
  | .dct, _, _, h => h
  | .fn _, _, _, h => h
  | .xc _ _, _, n, _ => by cases n
  | .tup ds, _, n, ⟨a, us, e, t, r⟩ => ⟨a, us, e, t, noXs_rep n r⟩
  | .lst ds, _, n, ⟨a, us, e, t, r⟩ => ⟨a, us, e, t, noXs_rep n r⟩
  | .kst ds, _, n, ⟨a, us, e, t, r⟩ => ⟨a, us, e, t, noXs_rep n r⟩
theorem noXs_rep {T : Tb} {H : Hp} {G : Wd} {c : Nat} {p : Addr × Obj} : ∀ {ds : List D} {us : List V}, noXs ds = true → Reps (T.hot c p) H G ds us → Reps T H G ds us
  | [], _, _, h => h
  | d :: ds, _, n, ⟨v, vs, e, r, rs⟩ => ⟨v, vs, e, noX_rep (and2 n).1 r, noXs_rep (and2 n).2 rs⟩
end
/-- all that may change -/
def muL (G : Wd) : List Addr := (G.g.filter fun q => q.2.live).map (·.1) ++ G.ex
theorem mem_muL {G : Wd} {a : Addr} : a ∈ muL G ↔ Mu G a := by
  unfold muL
  rw [List.mem_append, List.mem_map]
  constructor
  · rintro (⟨⟨b, d⟩, h, rfl⟩ | h)
    · obtain ⟨h1, h2⟩ := List.mem_filter.mp h
      obtain ⟨n, hn⟩ := List.getElem?_of_mem h1
      exact .inl ⟨n, d, hn, h2⟩
    · exact .inr h
  · rintro (⟨n, d, e, l⟩ | h)
    · exact .inl ⟨(a, d), List.mem_filter.mpr ⟨List.mem_of_getElem? e, l⟩, rfl⟩
    · exact .inr h
theorem nodup_live : ∀ (l : List (Addr × Cell)), (∀ (n m : Nat) a c c', l[n]? = some (a, c) → l[m]? = some (a, c') → c.live = true → c'.live = true → n = m) → ((l.filter fun q => q.2.live).map (·.1)).Nodup
  | [], _ => List.nodup_nil
  | q :: l, h => by
    have ih := nodup_live l fun n m a c c' h1 h2 l1 l2 => by
      have := h (n + 1) (m + 1) a c c' (by simpa using h1) (by simpa using h2) l1 l2
      omega
    by_cases hl : q.2.live = true
    · rw [List.filter_cons_of_pos (by simpa using hl), List.map_cons, List.nodup_cons]
      refine ⟨fun m => ?_, ih⟩
      obtain ⟨⟨b, d⟩, hm, e⟩ := List.mem_map.mp m
      obtain ⟨h1, h2⟩ := List.mem_filter.mp hm
      obtain ⟨n, hn⟩ := List.getElem?_of_mem h1
      have e : b = q.1 := e
      subst e
      have := h 0 (n + 1) q.1 q.2 d rfl (by simpa using hn) hl h2
      omega
    · rw [List.filter_cons_of_neg (by simpa using hl)]
      exact ih
/-- the world in which nothing may change -/
def Wd.hide (G : Wd) : Wd := ⟨[], muL G⟩
theorem hide_mu {G : Wd} {a : Addr} : Mu G.hide a ↔ Mu G a := by
  constructor
  · rintro (⟨n, d, e, l⟩ | h)
    · simp [Wd.hide] at e
    · exact mem_muL.mp h
  · exact fun h => .inr (mem_muL.mpr h)
theorem hide_sim {T T' : Tb} {H : Hp} {G : Wd} (S : Sim T H G) : Sim T' H G.hide := by
  refine ⟨fun n a c e => ?_, fun n m a c c' e => ?_, fun a h l => ?_, fun a h => ?_, ?_⟩
  · simp [Wd.hide] at e
  · simp [Wd.hide] at e
  · obtain ⟨n, c, e, _⟩ := l
    simp [Wd.hide] at e
  · rcases mem_muL.mp h with ⟨n, c, e, l⟩ | h
    · exact (S.cell n a c e).there l
    · exact S.exs a h
  · show (muL G).Nodup
    unfold muL
    rw [List.nodup_append]
    refine ⟨nodup_live _ S.inj, S.exn, fun a ha b hb e => ?_⟩
    subst e
    obtain ⟨⟨b', d⟩, hm, e⟩ := List.mem_map.mp ha
    obtain ⟨h1, h2⟩ := List.mem_filter.mp hm
    obtain ⟨n, hn⟩ := List.getElem?_of_mem h1
    have e : b' = a := e
    subst e
    exact S.apart _ hb ⟨n, d, hn, h2⟩
theorem dInts_pair {x y : D} {is : List Int} (h : dInts [x, y] = some is) : ∃ i j, x = .int i ∧ y = .int j ∧ is = [i, j] := by
  cases x <;> first | (cases h; done) | skip
  cases y <;> first | (cases h; done) | skip
  cases h
  exact ⟨_, _, rfl, rfl, rfl⟩
theorem tryEnv_get {n i j c : Nat} {fs : List Int} {d : Vl} (h : (tryEnv n i c fs)[j]? = some (some d)) : j = i ∧ d = .d (.xc c fs) := by
  unfold tryEnv at h
  by_cases hj : i = j
  · subst hj
    by_cases hl : i < n
    · rw [List.getElem?_set_self (by simpa using hl)] at h
      cases h
      exact ⟨rfl, rfl⟩
    · rw [List.getElem?_eq_none (by simpa using hl)] at h
      cases h
  · rw [List.getElem?_set_ne hj, List.getElem?_replicate] at h
    split at h <;> cases h
section
variable {T : Tb} {P : Pg} {C : Oracle} {lvl : Nat} {W : WX}
theorem SOk.tr {X : Cx} (hX : SOk T P C lvl W X) {W' : WX} (pn : List (Addr × Obj)) (xe : Value → Shared → Prop) (tk : L2N.Takes (X.tr pn xe) W') (po : PassesOwn (model X.prog X.w) X.A X.env xe) : SOk T P C lvl W' (X.tr pn xe) :=
  { K := hX.K, room := hX.room, nd := hX.nd, glb := hX.glb, blt := hX.blt, cls := hX.cls, cg := hX.cg, calm := hX.calm, cold := hX.cold, rm := hX.rm, gd := hX.gd, two := hX.two, fn := hX.fn, len := hX.len, gr := hX.gr, kd := hX.kd, mkr := hX.mkr, oc := hX.oc
    takes := tk, hp := po, fn1 := hX.fn1, stk := hX.stk, frm := hX.frm, hfn := hX.hfn }
theorem SOk.hok {X : Cx} (hX : SOk T P C lvl W X) {c : Nat} {a : Addr} {oe : Obj} {pn : List (Addr × Obj)} {d : Option Addr} (lt : c < P.cls.length) (hz : L2N.Zn (.ref (T.ca c)) d oe) (hf : ∃ vs, oe.data = .fields vs) : HOk T P C lvl c (a, oe) (X.suite a ((a, oe) :: pn)) :=
  { K := hX.K, room := ⟨hX.rm.dp, hX.rm.un⟩, nd := hX.nd, blt := hX.blt, cls := hX.cls, cg := hX.cg
    hot := ⟨rfl, by obtain ⟨vs, hv⟩ := hf; exact ⟨vs, hv, hz.2.2 vs hv⟩⟩
    mem := List.mem_cons_self, cls1 := hz.1, lt := lt, fn1 := hX.fn1, len := hX.len, hfn := hX.hfn }
theorem sS_tryk {X : Cx} {n i : Nat} {b hs : Ss} {body suite : List Stmt} {x nm : Str} {p q r : Pos} (hX : SOk T P C lvl W X) (hn : n ≤ P.cls.length) (hc : P.cls[0]? = some x) (hg : glOk X.env.scope x = true) (hi : X.N[i]? = some nm) (hl : X.env.scope.names.lookup nm = some .local)
    (hne : suite.isEmpty = false) (hh : hotSs P hs = true) (hb : ∀ (W' : WX) (pn : List (Addr × Obj)) (xe : Value → Shared → Prop), SOk T P C lvl W' (X.tr pn xe) → PSs (X.tr pn xe) body (tSs T C W' b)) (hk : chkSs P X.N hs X.env.scope suite = true) :
    PS X (.Try body [.ExceptHandler (some (.Name x p)) (some nm) suite q] [] [] r) (tS T C W (.tryk n b i hs)) := by
  cases suite with
  | nil => cases hne
  | cons s0 rest =>
    obtain ⟨g, hd, _⟩ := gl_ok hg
    let ts : Addr → Value → Option Addr → TS := fun a cls d D σ H => ∃ c, cls = .ref (T.ca c) ∧ c < P.cls.length ∧ (σ.length = X.N.length → tSs { T with xa := some a, xc := c, xd := d } C W00 hs D σ H)
    have rule := L2N.ps_try_as (X := X) (body := body) (suite := rest) (b₀ := s0) (np := p) (pos := r) (pos' := q) (tb := fun W' => tSs T C W' b) (ts := ts) (Wout := W) hX.stk hX.frm hX.nd hi hl (x := x) (c := .ref (T.ca 0)) ⟨g, hd, .inl (hX.cls 0 x hc)⟩ hX.takes
      (fun W' pn xe tk po => hb W' pn xe (hX.tr pn xe tk po))
      (fun a oe cls d pn hz hf => ⟨fun pins s σ H D I ⟨c, ec, lt, z⟩ => by
        subst ec
        have HK := hX.hok (a := a) (pn := pn) lt hz hf
        have run := (sSsH hs hh HK (s0 :: rest) hk).run pins s σ H D I
        have e : ({ T with xa := some a, xc := c, xd := d } : Tb) = T.hot c (a, oe) := by
          unfold Tb.hot
          rw [hz.2.1]
        rw [e] at z
        exact run (z I.len)⟩)
    refine ⟨fun pins s σ H D I ⟨ρ, G, he, hs1, z⟩ => rule.run pins s σ H D I ⟨ρ, G, he, hs1, ?_⟩⟩
    have z : Post T W H G (match evSs C b ρ G.st with
      | .exc c fs st1 => if c < n then (match dInts fs with
        | some is => (match evSs C hs (tryEnv ρ.length i c is) [] with
          | .ok (.ret (.d y)) _ => if noX y then .ok (.ret (.d y)) st1 else .bad
          | _ => .bad)
        | none => .bad) else .bad
      | .ok a st1 => .ok a st1
      | .bad => .bad) (kF T D) := z
    revert z
    cases er : evSs C b ρ G.st with
    | ok a st => exact fun z => z
    | bad => exact fun z => z
    | exc c fs st1 =>
      intro z
      dsimp only at z
      split at z
      · rename_i ltn
        split at z
        · rename_i is ei
          split at z
          · rename_i y st2 e2
            split at z
            · rename_i nx
              intro σ' dx H' G' eg x1 s1 xr
              have lt : c < P.cls.length := Nat.lt_of_lt_of_le ltn hn
              refine ⟨true, hX.cg.ex c lt, fun _ a na => ⟨c, rfl, lt, fun len => ⟨tryEnv ρ.length i c is, G'.hide, ⟨?_, fun j d ej => ?_⟩, hide_sim s1, ?_⟩⟩, fun z => by cases z⟩
              · unfold tryEnv
                rw [List.length_set, List.length_replicate, he.1, len]
                exact I.len
              · obtain ⟨rfl, rfl⟩ := tryEnv_get ej
                have hj : j < σ'.length := by
                  rw [List.length_set] at len
                  rw [len]
                  exact lt_of_get hi
                refine ⟨.ref a, List.getElem?_set_self hj, a, rfl, rfl, rfl, ?_⟩
                rcases xr with ⟨rfl, rfl⟩ | ⟨dd, x', y', v, w, rfl, rfl, hd', nm', rx, ry⟩
                · cases ei
                  exact .inl ⟨rfl, rfl⟩
                · obtain ⟨i', j', rfl, rfl, rfl⟩ := dInts_pair ei
                  have rx : v = .int i' := rx
                  have ry : w = .int j' := ry
                  subst rx ry
                  exact .inr ⟨dd, i', j', rfl, rfl, hd', fun m => nm' (hide_mu.mp m)⟩
              · have es : (G'.hide).st = [] := rfl
                rw [es, e2]
                intro H2 G2 _ x2 s2 u ru
                have kp : ∀ b o, H' b = some o → H2 b = some o := fun b o e => x2.keep b o e fun ⟨n, d, e, _⟩ => by simp [Wd.hide] at e
                refine z H2 G' eg (x1.trans (ext_kept kp)) (sim_kept s1 kp) u ?_
                have ru' : Rep T H2 G2 y u := noX_rep (c := c) (p := (a, { cls := .none, dict := dx, data := .fields #[] })) nx ru
                refine Rep.mono ⟨fun _ _ e _ => e, fun b m => .inl (.inr ?_)⟩ ru'
                rw [x2.ex]
                exact mem_muL.mpr m
            · exact z.elim
          · exact z.elim
        · exact z.elim
      · exact z.elim
end
end Br

/-! Br12: statements as a whole. -/
namespace Br
open PySem PySem.Spec PyProof.Rows L2
section
variable {T : Tb} {P : Pg} {C : Oracle} {lvl : Nat} {W : WX}
theorem sS_aug {X : Cx} {i : Nat} {m : E} {x : Str} {p q : Pos} {e : Expr} (hX : SOk T P C lvl W X) (hi : X.N[i]? = some x) (hl : loc X.env.scope x = true) (h : PE X e (tE T C W m)) : PS X (.AugAssign (.Name x p) .Add e q) (tS T C W (.aug i m)) := by
  refine PS.imp (ps_aug hX.nd hi (loc_ok hl) h ip_add (.inl (hX.fn1 x))) fun D σ H ⟨ρ, G, he, hs, z⟩ => ?_
  simp only [evS] at z
  split at z
  · rename_i a ea
    obtain ⟨v, ev, rv⟩ := he.2 i _ ea
    have rv : v = .int a := rv
    subst rv
    refine ⟨.int a, ev, tE_bind he hs z fun y u H1 G1 x1 s1 e1 r1 q1 => ?_⟩
    split at q1
    · rename_i b
      have r1 : u = .int b := r1
      subst r1
      exact ⟨a, b, rfl, rfl, q1.here s1 _ (e1.set i (d := .d (.int (a + b))) rfl)⟩
    · exact q1.elim
  · exact z.elim
theorem sS_setf {X : Cx} {c : Nat} {f : Str} {a v : E} {o e : Expr} {p q : Pos} (hX : SOk T P C lvl W X) (hf : fldOk P c f = true) (hn : noComp e = true) (ho : PE X o (tE T C W a)) (h : PE X e (tE T C W v)) : PS X (.Assign [.Attribute o f p] e q) (tS T C W (.setf c a f v)) := by
  refine PS.imp (ps_fld ho h (sw_oth2 hn)) fun D σ H ⟨ρ, G, he, hs, z⟩ =>
    tE_bind he hs z fun y u H1 G1 x1 s1 e1 r1 q1 => tE_bind e1 s1 q1 fun x w H2 G2 x2 s2 e2 r2 q2 => ?_
  replace r1 := r1.mono x2.mon
  split at q2
  · rename_i n
    split at q2
    · rename_i c' fs ec
      split at q2
      · rename_i hz
        obtain ⟨rfl, hl⟩ := hz
        obtain ⟨ad, dx, us, rfl, eg, eh, ek, rs⟩ := ins_cell s2 r2 ec
        obtain ⟨g1, g2⟩ := setF_put (f := f) ek rs r1
        obtain ⟨k, oo⟩ := fldOk_ok hX.toXOk hf
        have hul : us.length = fs.length := by
          have := congrArg List.length ek
          simpa using this
        obtain ⟨x4, s4⟩ := cell_set (c' := .ins c' (setF f y fs)) (o := .ins (T.oa c') dx (putF f u us)) s2 eg rfl fun m => ⟨dx, _, upd_same, g1, g2.mono m⟩
        exact ⟨ad, T.oa c', dx, us, rfl, eh, k, oo, by rw [hul]; omega, q2 _ _ st_set x4 s4 σ (e2.mono x4.mon)⟩
      · exact q2.elim
    · exact q2.elim
  · exact q2.elim
theorem sS_seti {X : Cx} {a i v : E} {o ie e : Expr} {p q : Pos} (hX : SOk T P C lvl W X) (hn : noComp e = true) (hi : ixOk ie = true) (ho : PE X o (tE T C W a)) (hI : PE X ie (tE T C W i)) (h : PE X e (tE T C W v)) : PS X (.Assign [.Subscript o ie p] e q) (tS T C W (.seti a i v)) := by
  refine PS.imp (ps_asg h (pg_sub ho hI set_list (by intro _; cases ie <;> first | rfl | cases hi)) (sw_other hn) (by cases e <;> rfl) rfl) fun D σ H ⟨ρ, G, he, hs, z⟩ =>
    tE_bind he hs z fun x u H1 G1 x1 s1 e1 r1 q1 => tE_bind e1 s1 q1 fun y w H2 G2 x2 s2 e2 r2 q2 => tE_bind e2 s2 q2 fun k t H3 G3 x3 s3 e3 r3 q3 => ?_
  replace r1 := (r1.mono x2.mon).mono x3.mon
  replace r2 := r2.mono x3.mon
  split at q3
  · rename_i d n kk
    split at q3
    · rename_i xs ec
      obtain ⟨ad, us, rfl, eg, eh, rs⟩ := list_cell s3 r2 ec
      have r3 : t = .int kk := r3
      subst r3
      split at q3
      · rename_i ys ey
        unfold setIx at ey
        cases hj : L2.ixN xs.length kk with
        | none => rw [hj] at ey; cases ey
        | some j =>
          rw [hj] at ey
          cases ey
          obtain ⟨x4, s4⟩ := cell_set (c' := .lst (xs.set j d)) (o := .lst (us.set j u)) s3 eg rfl fun m => ⟨_, upd_same, (rs.mono m.toMon).set (Rep.mono m.toMon r1) j⟩
          exact ⟨ad, us, kk, j, rfl, rfl, eh, by rw [rs.length]; exact hj, q3 _ _ st_set x4 s4 σ (e3.mono x4.mon)⟩
      · exact q3.elim
    · exact q3.elim
  · exact q3.elim
theorem sS_dset {X : Cx} {a i v : E} {o ie e : Expr} {p q : Pos} (hX : SOk T P C lvl W X) (hi : ixOk ie = true) (ho : PE X o (tE T C W a)) (hI : PE X ie (tE T C W i)) (h : PE X e (tE T C W v)) : PS X (.Assign [.Subscript o ie p] e q) (tS T C W (.dset a i v)) := by
  refine PS.imp (ps_dput (hu_of hX.rm) ho hI h (by cases e <;> rfl)) fun D σ H ⟨ρ, G, he, hs, z⟩ =>
    tE_bind he hs z fun x u H1 G1 x1 s1 e1 r1 q1 => tE_bind e1 s1 q1 fun y w H2 G2 x2 s2 e2 r2 q2 => tE_bind e2 s2 q2 fun k t H3 G3 x3 s3 e3 r3 q3 => ?_
  replace r1 := (r1.mono x2.mon).mono x3.mon
  replace r2 := r2.mono x3.mon
  split at q3
  · rename_i d n k'
    split at q3
    · rename_i key kvs ek ec
      obtain ⟨ad, kus, rfl, eg, eh, rk⟩ := dic_cell s3 r2 ec
      have et : t = kV key := dKey_ok ek r3
      subst et
      split at q3
      · rename_i hz
        obtain ⟨x4, s4⟩ := cell_set (c' := .dic (putD kvs key d)) (o := .dK (putK kus key u)) s3 eg rfl fun m => by
          obtain ⟨k1, k2⟩ := ((rk.mono m.toMon).put (k := key) (Rep.mono m.toMon r1)).to
          exact ⟨_, upd_same, k1, k2⟩
        exact ⟨ad, _, rfl, DPut.k eh (by rw [rk.length]; exact hz), q3 _ _ st_set x4 s4 σ (e3.mono x4.mon)⟩
      · exact q3.elim
    · exact q3.elim
  · exact q3.elim
theorem sS_app {X : Cx} {a v : E} {o e : Expr} {ap cp q : Pos} (hX : SOk T P C lvl W X) (hl : (ap.endLine == cp.line) = true) (hn : noAttr o = true) (hi : ixOk e = true) (ho : PE X o (tE T C W a)) (h : PE X e (tE T C W v)) : PS X (.Expr (.Call (.Attribute o "append" ap) [e] [] cp) q) (tS T C W (.app a v)) := by
  refine PS.imp (ps_expr (pe_bm PySem.F.plainAttrs_list PySem.F.slot_list_append PySem.F.type_list_append mt_append ho (pa_cons h pa_nil (star_cons hi)) (noAttr_ok hn) (by rw [star_cons hi]; rfl) hl (star_cons hi) rfl)) fun D σ H ⟨ρ, G, he, hs, z⟩ => ?_
  refine tE_bind he hs z fun x w H1 G1 x1 s1 e1 r1 q1 => ?_
  split at q1
  · exact q1.elim
  · rename_i hL
    refine ⟨isLst_ty s1 r1 (by simpa using hL), tE_bind e1 s1 q1 fun y u H2 G2 x2 s2 e2 r2 q2 => ?_⟩
    replace r1 := r1.mono x2.mon
    split at q2
    · rename_i n d
      split at q2
      · rename_i xs ec
        obtain ⟨ad, us, rfl, eg, eh, rs⟩ := list_cell s2 r1 ec
        split at q2
        · rename_i hz
          obtain ⟨x4, s4⟩ := cell_set (c' := .lst (xs ++ [d])) (o := .lst (us ++ [u])) s2 eg rfl fun m => ⟨_, upd_same, (rs.mono m.toMon).append ⟨u, [], rfl, Rep.mono m.toMon r2, rfl⟩⟩
          exact ⟨ad, us, u, rfl, rfl, eh, by rw [rs.length]; exact hz, q2 _ _ st_set x4 s4 σ (e2.mono x4.mon)⟩
        · exact q2.elim
      · exact q2.elim
    · exact q2.elim
theorem sS_ext {X : Cx} {a v : E} {o e : Expr} {ap cp q : Pos} (hX : SOk T P C lvl W X) (hl : (ap.endLine == cp.line) = true) (hn : noAttr o = true) (hi : ixOk e = true) (ho : PE X o (tE T C W a)) (h : PE X e (tE T C W v)) : PS X (.Expr (.Call (.Attribute o "extend" ap) [e] [] cp) q) (tS T C W (.ext a v)) := by
  refine PS.imp (ps_expr (pe_bm PySem.F.plainAttrs_list PySem.F.slot_list_extend PySem.F.type_list_extend mt_extend ho (pa_cons h pa_nil (star_cons hi)) (noAttr_ok hn) (by rw [star_cons hi]; rfl) hl (star_cons hi) rfl)) fun D σ H ⟨ρ, G, he, hs, z⟩ => ?_
  refine tE_bind he hs z fun x w H1 G1 x1 s1 e1 r1 q1 => ?_
  split at q1
  · exact q1.elim
  · rename_i hL
    refine ⟨isLst_ty s1 r1 (by simpa using hL), tE_bind e1 s1 q1 fun y u H2 G2 x2 s2 e2 r2 q2 => ?_⟩
    replace r1 := r1.mono x2.mon
    split at q2
    · rename_i n ds
      split at q2
      · rename_i xs ec
        obtain ⟨ad, us, rfl, eg, eh, rs⟩ := list_cell s2 r1 ec
        obtain ⟨b, ws, rfl, t, rs2⟩ := r2
        split at q2
        · rename_i hz
          obtain ⟨x4, s4⟩ := cell_set (c' := .lst (xs ++ ds)) (o := .lst (us ++ ws)) s2 eg rfl fun m => ⟨_, upd_same, (rs.mono m.toMon).append (rs2.mono m.toMon)⟩
          exact ⟨ad, b, us, ws, rfl, rfl, eh, t.1, by rw [rs.length, rs2.length]; exact hz, q2 _ _ st_set x4 s4 σ (e2.mono x4.mon)⟩
        · exact q2.elim
      · exact q2.elim
    · exact q2.elim
theorem sS_ins {X : Cx} {a i v : E} {o ie e : Expr} {ap cp q : Pos} (hX : SOk T P C lvl W X) (hl : (ap.endLine == cp.line) = true) (hn : noAttr o = true) (hi : ixOk ie = true) (hi2 : ixOk e = true) (ho : PE X o (tE T C W a)) (hI : PE X ie (tE T C W i)) (h : PE X e (tE T C W v)) :
    PS X (.Expr (.Call (.Attribute o "insert" ap) [ie, e] [] cp) q) (tS T C W (.ins a i v)) := by
  refine PS.imp (ps_expr (pe_bm PySem.F.plainAttrs_list PySem.F.slot_list_insert PySem.F.type_list_insert mt_insert ho (pa_cons hI (pa_cons h pa_nil (star_cons hi2)) (star_cons hi)) (noAttr_ok hn) (by rw [star_cons hi, star_cons hi2]; rfl) hl (star_cons hi) (by rw [star_cons hi2]; rfl))) fun D σ H ⟨ρ, G, he, hs, z⟩ => ?_
  refine tE_bind he hs z fun x w H1 G1 x1 s1 e1 r1 q1 => ?_
  split at q1
  · exact q1.elim
  · rename_i hL
    refine ⟨isLst_ty s1 r1 (by simpa using hL), tE_bind e1 s1 q1 fun k t H2 G2 x2 s2 e2 r2 q2 => tE_bind e2 s2 q2 fun y u H3 G3 x3 s3 e3 r3 q3 => ?_⟩
    replace r1 := (r1.mono x2.mon).mono x3.mon
    split at q3
    · rename_i n k d
      split at q3
      · rename_i xs ec
        obtain ⟨ad, us, rfl, eg, eh, rs⟩ := list_cell s3 r1 ec
        split at q3
        · rename_i hz
          obtain ⟨z1, z2, z3, z4⟩ := hz
          obtain ⟨x4, s4⟩ := cell_set (c' := .lst (xs.take k.toNat ++ d :: xs.drop k.toNat)) (o := .lst (us.take k.toNat ++ [u] ++ us.drop k.toNat)) s3 eg rfl fun m => ⟨us.take k.toNat ++ [u] ++ us.drop k.toNat, upd_same, by
            have z := Reps.append (es := d :: xs.drop k.toNat) (ws := u :: us.drop k.toNat) ((rs.mono m.toMon).take k.toNat) ⟨u, _, rfl, Rep.mono m.toMon r3, (rs.mono m.toMon).drop k.toNat⟩
            have e5 : us.take k.toNat ++ u :: us.drop k.toNat = us.take k.toNat ++ [u] ++ us.drop k.toNat := by simp
            exact e5 ▸ z⟩
          exact ⟨ad, us, k, u, rfl, by rw [show t = .int k from r2], eh, by rw [rs.length]; exact z1, z2, by omega, q3 _ _ st_set x4 s4 σ (e3.mono x4.mon)⟩
        · exact q3.elim
      · exact q3.elim
    · exact q3.elim
theorem sS_for {X : Cx} {t : Tg} {it : It} {b : Ss} {tg iter : Expr} {body : List Stmt} {q : Pos} (hX : SOk T P C lvl W X) (hs : noSet iter = true) (hi : PI X tg iter (tI T C W it)) (hg : PG X tg (tTg T t)) (hb : PSs X body (tSs T C W b)) : PS X (.For tg iter body [] q) (tS T C W (.for t it b)) := by
  refine PS.imp (ps_for hX.hp hX.calm hi hg hb (noSet_fold hs _)) fun D σ H ⟨ρ, G, he, hsm, z⟩ => ?_
  refine ⟨ρ, G, he, hsm, Post.bind z fun xs H1 G1 x1 s1 q1 J tj => ?_⟩
  refine ⟨fun i m σ H2 => m = xs.length - i ∧ i ≤ xs.length ∧ ∃ ρ2 G2, Ext H1 G1 H2 G2 ∧ Sim T H2 G2 ∧ EnvOk T H2 G2 ρ2 σ ∧ Post T W H2 G2 (forL (fun ρ' st' => evSs C b ρ' st') t (xs.drop i) ρ2 G2.st) (kF T D), ⟨xs.length, by simp, Nat.zero_le _, ρ, G1, Ext.refl _ _, s1, he.mono x1.mon, q1⟩, ?_⟩
  rintro i m σ2 H2 ⟨rfl, hle, ρ2, G2, m2, s2, e2, q2⟩
  by_cases hlt : i < xs.length
  · have hdrop : xs.drop i = xs[i] :: xs.drop (i + 1) := List.drop_eq_getElem_cons hlt
    rw [hdrop] at q2
    refine .inr ⟨tj.goes i H2 G2 m2.mon s2 hlt, fun σ' H' => ∃ m', m' < xs.length - i ∧ m' = xs.length - (i + 1) ∧ i + 1 ≤ xs.length ∧ ∃ ρ2 G2, Ext H1 G1 H' G2 ∧ Sim T H' G2 ∧ EnvOk T H' G2 ρ2 σ' ∧ Post T W H' G2 (forL (fun ρ' st' => evSs C b ρ' st') t (xs.drop (i + 1)) ρ2 G2.st) (kF T D), fun σ' H' ⟨m', h1, h2⟩ => ⟨m', h1, h2⟩, fun x H' y => ?_⟩
    obtain ⟨d, ed, xy, s3, rd⟩ := tj.yields i H2 G2 x H' m2.mon s2 hlt y
    rw [List.getElem?_eq_getElem hlt] at ed
    cases ed
    have q2 : Post T W H2 G2 (match put t xs[i] ρ2 with
      | none => .bad
      | some ρ' => (evSs C b ρ' G2.st).bind fun fl st1 => match fl with
        | .next ρ2 => forL (fun ρ' st' => evSs C b ρ' st') t (xs.drop (i + 1)) ρ2 st1
        | .ret v => .ok (.ret v) st1) (kF T D) := q2
    cases ep : put t xs[i] ρ2 with
    | none => rw [ep] at q2; exact q2.elim
    | some ρ' =>
      rw [ep] at q2
      refine ⟨ρ2, G2, xs[i], ρ', e2.mono xy.mon, s3, rd, ep, fun σ3 e3 _ => ⟨ρ', G2, e3, s3, Post.bind (Post.ext xy q2) fun fl H4 G4 x4 s4 q4 => ?_⟩⟩
      have m4 : Ext H1 G1 H4 G4 := m2.trans (xy.trans x4)
      cases fl with
      | next ρ5 => exact fun σ' e5 => ⟨_, by omega, rfl, hlt, ρ5, G4, m4, s4, e5, q4⟩
      | ret v => exact q4.here s4
  · have e : i = xs.length := by omega
    subst e
    rw [List.drop_length] at q2
    exact .inl ⟨tj.stops H2 G2 m2.mon s2, q2.here s2 σ2 e2⟩
theorem sS_whl {X : Cx} {c : E} {b : Ss} {ce : Expr} {body : List Stmt} {q : Pos} (hX : SOk T P C lvl W X) (hc : PT X ce (tT T C W c)) (hb : PSs X body (tSs T C W b)) : PS X (.While ce body [] q) (tS T C W (.whl c b)) := by
  refine PS.imp (ps_while hX.hp hc hb) fun D σ H ⟨ρ, G, he, hsm, z⟩ => ?_
  refine ⟨fun m σ H => ∃ ρ G, EnvOk T H G ρ σ ∧ Sim T H G ∧ Post T W H G (whlL (fun ρ' st' => (evE C c ρ' st').test fun b s => .ok b s) (fun ρ' st' => evSs C b ρ' st') m ρ G.st) (kF T D), ⟨whlFuel, ρ, G, he, hsm, z⟩, ?_⟩
  rintro m σ2 H2 ⟨ρ2, G2, e2, s2, q2⟩
  cases m with
  | zero => exact q2.elim
  | succ n =>
    have q2 : Post T W H2 G2 (((evE C c ρ2 G2.st).test fun b s => .ok b s).bind fun t st1 => if t then (evSs C b ρ2 st1).bind fun fl st2 => (match fl with
      | .next ρ2 => whlL (fun ρ' st' => (evE C c ρ' st').test fun b s => .ok b s) (fun ρ' st' => evSs C b ρ' st') n ρ2 st2
      | .ret v => .ok (.ret v) st2) else .ok (.next ρ2) st1) (kF T D) := q2
    have et : ∀ (r : Res Vl) (f : Bool → Store → Res Fl), ((r.test fun b s => .ok b s).bind f) = r.test f := fun r f => by
      unfold Res.test
      rw [Res.bind_assoc]
      congr 1
      funext v st
      cases tr v <;> rfl
    rw [et] at q2
    refine tT_test e2 s2 q2 fun t H3 G3 x3 s3 e3 q3 => ?_
    cases t with
    | false => exact iteF (q3.here s3 σ2 e3)
    | true =>
      refine iteT ⟨fun σ' H' => ∃ ρ G, EnvOk T H' G ρ σ' ∧ Sim T H' G ∧ Post T W H' G (whlL (fun ρ' st' => (evE C c ρ' st').test fun b s => .ok b s) (fun ρ' st' => evSs C b ρ' st') n ρ G.st) (kF T D), fun σ' H' h => ⟨n, Nat.lt_succ_self n, h⟩, ρ2, G3, e3, s3, Post.bind q3 fun fl H4 G4 x4 s4 q4 => ?_⟩
      cases fl with
      | next ρ5 => exact fun σ' e5 => ⟨ρ5, G4, e5, s4, q4⟩
      | ret v => exact q4.here s4
mutual
theorem sS : ∀ (m : S) {W : WX} {X : Cx} (_ : SOk T P C lvl W X) (s : Stmt), chkS P X.N m X.env.scope s = true → PS X s (tS T C W m)
  | .set i e, W, X, hX, s, hc => by
    obtain ⟨x, h1, h⟩ := opt_ok hc
    rw [asSet_ok h1]
    obtain ⟨y, h2, h⟩ := opt_ok h
    rw [asNameP_ok h2]
    obtain ⟨h, h3⟩ := and2 h
    obtain ⟨h, h4⟩ := and2 h
    obtain ⟨h, h5⟩ := and2 h
    obtain ⟨h, h6⟩ := and2 h
    have hi := of_decide_eq_true h
    rcases Bool.or_eq_true_iff.mp h4 with h4 | h4
    · exact sS_set hX hi h6 h4 (sE e hX.toXOk _ h3).1
    · obtain ⟨h7, h8⟩ := and2 h4
      cases e with
      | comp => exact sS_setC hX hi h8 h3
      | compr => exact sS_setCr hX hi h8 h3
      | _ => cases h7
  | .setT is e, W, X, hX, s, hc => by
    obtain ⟨x, h1, h⟩ := opt_ok hc
    rw [asSet_ok h1]
    obtain ⟨ts, h2, h⟩ := opt_ok h
    obtain ⟨k, p, h2⟩ := asTup_ok h2
    rw [h2]
    obtain ⟨h, h3⟩ := and2 h
    obtain ⟨h, h4⟩ := and2 h
    obtain ⟨h, h5⟩ := and2 h
    exact sS_setT hX h h5 h4 (sE e hX.toXOk _ h3).1
  | .setP is es, W, X, hX, s, hc => by
    obtain ⟨x, h1, h⟩ := opt_ok hc
    rw [asSet_ok h1]
    obtain ⟨ts, h2, h⟩ := opt_ok h
    obtain ⟨k, p, h2⟩ := asTup_ok h2
    obtain ⟨vs, h3, h⟩ := opt_ok h
    obtain ⟨k2, p2, h3⟩ := asTup_ok h3
    rw [h2, h3]
    obtain ⟨r, h4, h⟩ := opt_ok h
    obtain ⟨h, h5⟩ := and2 h
    obtain ⟨h, h6⟩ := and2 h
    exact sS_setP hX h4 h h6 h5
  | .aug i e, W, X, hX, s, hc => by
    obtain ⟨x, h1, h⟩ := opt_ok hc
    obtain ⟨p, rfl⟩ := asAug_ok h1
    obtain ⟨y, h2, h⟩ := opt_ok h
    obtain ⟨p2, h2⟩ := asName_ok h2
    rw [h2]
    obtain ⟨h, h3⟩ := and2 h
    obtain ⟨h, h4⟩ := and2 h
    obtain ⟨h, h5⟩ := and2 h
    obtain ⟨h, h6⟩ := and2 h
    rw [show x.2.1 = .Add from of_decide_eq_true h]
    exact sS_aug hX (of_decide_eq_true h6) h5 (sE e hX.toXOk _ h3).1
  | .seti a i v, W, X, hX, s, hc => by
    obtain ⟨x, h1, h⟩ := opt_ok hc
    rw [asSet_ok h1]
    obtain ⟨y, h2, h⟩ := opt_ok h
    obtain ⟨p2, h2⟩ := asSub_ok h2
    rw [h2]
    obtain ⟨h, h3⟩ := and2 h
    obtain ⟨h, h4⟩ := and2 h
    obtain ⟨h, h5⟩ := and2 h
    obtain ⟨h, h6⟩ := and2 h
    exact sS_seti hX h h6 (sE a hX.toXOk _ h5).1 (sE i hX.toXOk _ h4).1 (sE v hX.toXOk _ h3).1
  | .dset a i v, W, X, hX, s, hc => by
    obtain ⟨y, h1, h⟩ := opt_ok hc
    obtain ⟨z, h2, h⟩ := opt_ok h
    obtain ⟨p, h2⟩ := asSub_ok h2
    rw [asSet_ok h1, h2]
    obtain ⟨h, h3⟩ := and2 h
    obtain ⟨h, h4⟩ := and2 h
    obtain ⟨h, h5⟩ := and2 h
    exact sS_dset hX h (sE a hX.toXOk _ h5).1 (sE i hX.toXOk _ h4).1 (sE v hX.toXOk _ h3).1
  | .setf c a f v, W, X, hX, s, hc => by
    obtain ⟨y, h1, h⟩ := opt_ok hc
    obtain ⟨z, h2, h⟩ := opt_ok h
    obtain ⟨p, h2⟩ := asAttr_ok h2
    rw [asSet_ok h1, h2]
    obtain ⟨h, h3⟩ := and2 h
    obtain ⟨h, h4⟩ := and2 h
    obtain ⟨h, h5⟩ := and2 h
    obtain ⟨h, h6⟩ := and2 h
    obtain ⟨h, h7⟩ := and2 h
    rw [show z.2 = f from of_decide_eq_true h]
    exact sS_setf hX h7 h5 (sE a hX.toXOk _ h4).1 (sE v hX.toXOk _ h3).1
  | .app a v, W, X, hX, s, hc => by
    obtain ⟨x, h1, h⟩ := opt_ok hc
    obtain ⟨p, rfl⟩ := asEx_ok h1
    obtain ⟨y, h2, h⟩ := opt_ok h
    rw [asMeth_ok h2]
    obtain ⟨z, h3, h⟩ := opt_ok h
    rw [as1_ok h3]
    obtain ⟨h, h4⟩ := and2 h
    obtain ⟨h, h5⟩ := and2 h
    obtain ⟨h, h6⟩ := and2 h
    obtain ⟨h, h7⟩ := and2 h
    obtain ⟨h, h8⟩ := and2 h
    rw [show y.n = "append" from of_decide_eq_true h]
    exact sS_app hX h8 h7 h6 (sE a hX.toXOk _ h5).1 (sE v hX.toXOk _ h4).1
  | .ext a v, W, X, hX, s, hc => by
    obtain ⟨x, h1, h⟩ := opt_ok hc
    obtain ⟨p, rfl⟩ := asEx_ok h1
    obtain ⟨y, h2, h⟩ := opt_ok h
    rw [asMeth_ok h2]
    obtain ⟨z, h3, h⟩ := opt_ok h
    rw [as1_ok h3]
    obtain ⟨h, h4⟩ := and2 h
    obtain ⟨h, h5⟩ := and2 h
    obtain ⟨h, h6⟩ := and2 h
    obtain ⟨h, h7⟩ := and2 h
    obtain ⟨h, h8⟩ := and2 h
    rw [show y.n = "extend" from of_decide_eq_true h]
    exact sS_ext hX h8 h7 h6 (sE a hX.toXOk _ h5).1 (sE v hX.toXOk _ h4).1
  | .ex e, W, X, hX, s, hc => by
    obtain ⟨x, h1, h⟩ := opt_ok hc
    obtain ⟨p, rfl⟩ := asEx_ok h1
    obtain ⟨h, h3⟩ := and2 h
    exact PS.imp (ps_expr (sE e hX.toXOk _ h3).1 (sw_none h)) fun D σ H ⟨ρ, G, he, hs, z⟩ => tE_bind he hs z fun v u H1 G1 x1 s1 e1 r1 q1 => q1.here s1 _ e1
  | .ite c a b, W, X, hX, s, hc => by
    obtain ⟨x, h1, h⟩ := opt_ok hc
    obtain ⟨p, rfl⟩ := asIfS_ok h1
    obtain ⟨h, h3⟩ := and2 h
    obtain ⟨h, h4⟩ := and2 h
    obtain ⟨h, h5⟩ := and2 h
    refine PS.imp (ps_if ((sE c hX.toXOk _ h5).2.1 h) (sSs a hX _ h4) (sSs b hX _ h3)) fun D σ H ⟨ρ, G, he, hs, z⟩ => tT_test he hs z fun t H1 G1 x1 s1 e1 q1 => ?_
    cases t with
    | true => exact iteT ⟨ρ, G1, e1, s1, q1⟩
    | false => exact iteF ⟨ρ, G1, e1, s1, q1⟩
  | .for t it b, W, X, hX, s, hc => by
    obtain ⟨x, h1, h⟩ := opt_ok hc
    rw [asFor_ok h1]
    obtain ⟨h, h3⟩ := and2 h
    obtain ⟨h, h4⟩ := and2 h
    obtain ⟨h, h5⟩ := and2 h
    exact sS_for hX h5 (sI it hX.toXOk _ _ h) (pg_tg hX.K hX.calm (fun i x _ hl => hX.stores hl) h4) (sSs b hX _ h3)
  | .whl c b, W, X, hX, s, hc => by
    obtain ⟨x, h1, h⟩ := opt_ok hc
    obtain ⟨p, rfl⟩ := asWhl_ok h1
    obtain ⟨h, h3⟩ := and2 h
    obtain ⟨h, h4⟩ := and2 h
    exact sS_whl hX ((sE c hX.toXOk _ h4).2.1 h) (sSs b hX _ h3)
  | .ret e, W, X, hX, s, hc => by
    obtain ⟨x, h1, h⟩ := opt_ok hc
    obtain ⟨p, rfl⟩ := asRet_ok h1
    obtain ⟨y, rfl, h⟩ := opt_ok h
    exact PS.imp (ps_ret (sE e hX.toXOk _ h).1) fun D σ H ⟨ρ, G, he, hs, z⟩ => tE_bind he hs z fun v u H1 G1 x1 s1 e1 r1 q1 => q1.here s1 _ r1
  | .retN, W, X, hX, s, hc => by
    obtain ⟨x, h1, h⟩ := opt_ok hc
    obtain ⟨p, rfl⟩ := asRet_ok h1
    have h : x = none := by simpa using h
    subst h
    exact PS.imp ps_retN fun D σ H ⟨ρ, G, he, hs, z⟩ => z.here hs _ rfl
  | .rais c es, W, X, hX, s, hc => by
    obtain ⟨x, h1, h⟩ := opt_ok hc
    obtain ⟨p, q, r, h1⟩ := asRaise_ok h1
    rw [h1]
    obtain ⟨h, h2⟩ := and2 h
    obtain ⟨h, h3⟩ := and2 h
    have hz := of_decide_eq_true h
    cases es with
    | nil =>
      obtain ⟨h4, h5⟩ := and2 h2
      rw [List.isEmpty_iff.mp h4]
      exact sS_rais0 hX hz h3 (of_decide_eq_true h5)
    | cons m ms =>
      obtain ⟨h2, h4⟩ := and2 h2
      obtain ⟨h2, h5⟩ := and2 h2
      obtain ⟨h2, h6⟩ := and2 h2
      exact sS_rais2 rfl hX hz h3 (of_decide_eq_true h6) (chkEs_ix h4) (nBool h5) (sDs _ hX.toXOk _ h4).2
  | .tryk n b i hs, W, X, hX, s, hc => by
    obtain ⟨x, h1, h⟩ := opt_ok hc
    obtain ⟨p, q, r, h1⟩ := asTry_ok h1
    rw [h1]
    obtain ⟨h, a1⟩ := and2 h
    obtain ⟨h, a2⟩ := and2 h
    obtain ⟨h, a3⟩ := and2 h
    obtain ⟨h, a4⟩ := and2 h
    obtain ⟨h, a5⟩ := and2 h
    obtain ⟨h, a6⟩ := and2 h
    obtain ⟨h, a7⟩ := and2 h
    obtain ⟨h, a8⟩ := and2 h
    obtain ⟨h, a9⟩ := and2 h
    exact sS_tryk hX (of_decide_eq_true h) (of_decide_eq_true a9) a8 (of_decide_eq_true a7) (of_decide_eq_true a6) (nBool a4) a3 (fun W' pn xe hX' => sSs b hX' _ a2) a1
  | .stuck, W, X, hX, s, hc => ⟨fun pins s σ H D I ⟨ρ, G, he, hs, q⟩ => q.elim⟩
  | .ins a i v, W, X, hX, s, hc => by
    obtain ⟨x, h1, h⟩ := opt_ok hc
    obtain ⟨p, rfl⟩ := asEx_ok h1
    obtain ⟨y, h2, h⟩ := opt_ok h
    rw [asMeth_ok h2]
    obtain ⟨z, h3, h⟩ := opt_ok h
    rw [as2_ok h3]
    obtain ⟨h, h4⟩ := and2 h
    obtain ⟨h, h5⟩ := and2 h
    obtain ⟨h, h6⟩ := and2 h
    obtain ⟨h, h7⟩ := and2 h
    obtain ⟨h, h8⟩ := and2 h
    obtain ⟨h, h9⟩ := and2 h
    rw [show y.n = "insert" from of_decide_eq_true h]
    exact sS_ins hX (and2 h9).1 (and2 h9).2 h8 h7 (sE a hX.toXOk _ h6).1 (sE i hX.toXOk _ h5).1 (sE v hX.toXOk _ h4).1
  | .pass, W, X, hX, s, hc => by
    cases s with
    | Pass p => exact PS.imp ps_pass fun D σ H ⟨ρ, G, he, hs, z⟩ => z.here hs _ he
    | _ => cases hc
theorem sSs : ∀ (m : Ss) {W : WX} {X : Cx} (_ : SOk T P C lvl W X) (s : List Stmt), chkSs P X.N m X.env.scope s = true → PSs X s (tSs T C W m)
  | .nil, W, X, hX, s, hc => by
    have h : s.isEmpty = true := hc
    rw [List.isEmpty_iff.mp h]
    exact PSs.imp pss_nil fun D σ H ⟨ρ, G, he, hs, z⟩ => z.here hs _ he
  | .cons m r, W, X, hX, s, hc => by
    obtain ⟨f, h1, h⟩ := opt_ok hc
    cases s with
    | nil => cases h1
    | cons g gs =>
      cases h1
      obtain ⟨h, h3⟩ := and2 h
      refine PSs.imp (pss_cons (sS m hX _ h) (sSs r hX _ h3)) fun D σ H ⟨ρ, G, he, hs, z⟩ => ⟨ρ, G, he, hs, Post.bind z fun fl H1 G1 x1 s1 q1 => ?_⟩
      cases fl with
      | next ρ2 => exact fun σ' e2 => ⟨ρ2, G1, e2, s1, q1⟩
      | ret v => exact q1.here s1
  | .frz i r, W, X, hX, s, hc => by
    refine PSs.imp (sSs r hX s hc) fun D σ H ⟨ρ, G, he, hs, z⟩ => ?_
    have z : Post T W H G (match ρ[i]? with
      | some (some (.r n)) => (match G.st[n]? with
        | some (.lst xs) => evSs C r (ρ.set i (some (.d (.lst xs)))) (G.st.set n .dead)
        | _ => evSs C r ρ G.st)
      | _ => evSs C r ρ G.st) (kF T D) := z
    split at z
    · rename_i n en
      split at z
      · rename_i xs ec
        obtain ⟨v, ev, rv⟩ := he.2 i _ en
        obtain ⟨ad, us, rfl, eg, eh, rs⟩ := list_cell hs rv ec
        obtain ⟨x4, s4, nm⟩ := frz_cell hs eg rfl eh
        refine ⟨ρ.set i (some (.d (.lst xs))), ⟨G.g.set n (ad, .dead), G.ex⟩, ?_, s4, ?_⟩
        · have e5 := (he.mono x4.mon).set i (d := .d (.lst xs)) (v := .ref ad) ⟨ad, us, rfl, ⟨eh, nm⟩, rs.mono x4.mon.toMon⟩
          have e6 : σ.set i (some (.ref ad)) = σ := by
            apply List.ext_getElem?
            intro j
            by_cases hj : i = j
            · subst hj
              rw [List.getElem?_set_self (List.getElem?_eq_some_iff.mp ev).1, ev]
            · rw [List.getElem?_set_ne hj]
          rw [e6] at e5
          exact e5
        · rw [st_set]
          exact Post.ext x4 z
      · exact ⟨ρ, G, he, hs, z⟩
    · exact ⟨ρ, G, he, hs, z⟩
end
end
end Br

/-! Br13: defs, the law. -/
namespace Br
open PySem PySem.Spec PyProof.Rows L2
def scOk (f : FnI) (sc : Scope) : Bool := (match sc.kind with
  | .function => true
  | _ => false) && !sc.isCoroutine && !sc.isGenerator && decide f.N.Nodup && ((f.N.take f.np).all fun x => loc sc x) && (sc.names.all fun y => match y.2 with
  | .free => false
  | _ => true)
theorem scOk_ok {f : FnI} {sc : Scope} (hl : f.np ≤ f.N.length) (h : scOk f sc = true) : FnScope f.N (f.N.take f.np) sc := by
  obtain ⟨h, h6⟩ := and2 h
  obtain ⟨h, h5⟩ := and2 h
  obtain ⟨h, h4⟩ := and2 h
  obtain ⟨h, h3⟩ := and2 h
  obtain ⟨h, h2⟩ := and2 h
  refine ⟨?_, nBool h2, nBool h3, of_decide_eq_true h4, by rw [List.length_take, Nat.min_eq_left hl], fun x hx => loc_ok (List.all_eq_true.mp h5 x hx), fun y hy e => ?_⟩
  · split at h
    · assumption
    · cases h
  · have := List.all_eq_true.mp h6 y hy
    rw [e] at this
    cases this
def chkF (P : Pg) (f : FnI) (st : Stmt) : Bool := (!f.hot || hotSs P f.body) && decide (f.np ≤ f.N.length) && scOk f (defScope st) && chkSs P f.N f.body (defScope st) (defBody st)
def AllD (K : PySem.W.Frag) (mg : Str → Option Value) : List FnI → List Stmt → List Addr → Prop
  | [], [], [] => True
  | f :: fs, s :: ss, a :: as => (∃ nm qn fd, Fun K nm qn s a fd ∧ (f.m = false → mg f.name = some (.ref a)) ∧ Binds K fd (f.N.take f.np) []) ∧ AllD K mg fs ss as
  | _, _, _ => False
def noStmt : Stmt := .Pass ⟨0, 0, 0, 0⟩
theorem AllD.get {K : PySem.W.Frag} {mg : Str → Option Value} : ∀ {fs : List FnI} {ss : List Stmt} {as : List Addr} {k : Nat} {f : FnI}, AllD K mg fs ss as → fs[k]? = some f → ∃ nm qn fd, Fun K nm qn (ss.getD k noStmt) (as.getD k 0) fd ∧ (f.m = false → mg f.name = some (.ref (as.getD k 0))) ∧ Binds K fd (f.N.take f.np) []
  | [], _, _, _, _, _, e => by simp at e
  | f :: fs, s :: ss, a :: as, 0, _, h, e => by
    simp at e
    subst e
    exact h.1
  | f :: fs, s :: ss, a :: as, k + 1, _, h, e => AllD.get (fs := fs) (ss := ss) (as := as) (k := k) h.2 (by simpa using e)
  | _ :: _, [], _, _, _, h, _ => h.elim
  | _ :: _, _ :: _, [], _, _, h, _ => h.elim
def chkAll (P : Pg) : List FnI → List Stmt → Bool
  | [], [] => true
  | f :: fs, s :: ss => chkF P f s && chkAll P fs ss
  | _, _ => false
theorem chkAll_get {P : Pg} : ∀ {fs : List FnI} {ss : List Stmt} {k : Nat} {f : FnI}, chkAll P fs ss = true → fs[k]? = some f → chkF P f (ss.getD k noStmt) = true
  | [], _, _, _, _, e => by simp at e
  | f :: fs, s :: ss, 0, _, h, e => by
    simp at e
    subst e
    exact (and2 h).1
  | f :: fs, s :: ss, k + 1, _, h, e => chkAll_get (fs := fs) (ss := ss) (k := k) (and2 h).2 (by simpa using e)
  | _ :: _, [], _, _, h, _ => by cases h
theorem RepVs.get {T : Tb} {H : Hp} {G : Wd} : ∀ {ds : List Vl} {us : List V} {i : Nat} {d : Vl}, RepVs T H G ds us → ds[i]? = some d → ∃ v, us[i]? = some v ∧ RepV T H G d v
  | [], _, _, _, _, h => by simp at h
  | d :: ds, _, 0, _, ⟨v, vs, e, r, _⟩, h => by simp at h; subst h; exact ⟨v, by rw [e]; rfl, r⟩
  | d :: ds, _, i + 1, _, ⟨v, vs, e, _, rs⟩, h => by
    obtain ⟨w, h1, h2⟩ := RepVs.get (i := i) rs (by simpa using h)
    exact ⟨w, by rw [e]; simpa using h1, h2⟩
theorem env_start {T : Tb} {H : Hp} {G : Wd} {f : FnI} {ds : List Vl} {vs : List V} (hl : ds.length = f.np) (r : RepVs T H G ds vs) : EnvOk T H G (Br.start ⟨f.np, f.N.length, f.body⟩ ds) (L2.start f.N vs) := by
  have h2 := r.length
  refine ⟨by simp [Br.start, L2.start, h2, hl], fun i d e => ?_⟩
  unfold Br.start at e
  by_cases hi : i < ds.length
  · rw [List.getElem?_append_left (by simpa using hi), List.getElem?_map] at e
    cases q : ds[i]? with
    | none => rw [q] at e; cases e
    | some d' =>
      rw [q] at e
      cases e
      obtain ⟨v, h3, h4⟩ := r.get q
      refine ⟨v, ?_, h4⟩
      unfold L2.start
      rw [List.getElem?_append_left (by simp [h2, hi]), List.getElem?_map, h3]
      rfl
  · rw [List.getElem?_append_right (by simpa using hi), List.getElem?_replicate] at e
    split at e <;> cases e
theorem orc_len {P : Pg} : ∀ (n k : Nat) (vs : List Vl) (st : Store), orc P.fn n k vs st ≠ .bad → ∃ f, P.fns[k]? = some f ∧ vs.length = f.np
  | 0, _, _, _, h => absurd rfl h
  | n + 1, k, vs, st, h => by
    unfold orc Pg.fn at h
    rw [List.getElem?_map] at h
    cases e : P.fns[k]? with
    | none => rw [e] at h; exact absurd rfl h
    | some f =>
      rw [e] at h
      refine ⟨f, rfl, ?_⟩
      simp only [Option.map_some, runF] at h
      split at h
      · assumption
      · exact absurd rfl h
/-- a def from its body, where no repr is under way -/
theorem fun_okG {P : Program} {w : World} {K : PySem.W.Frag} {mg : Str → Option Value} {base : Heap} {x qual : Str} {st : Stmt} {f : Addr} {fd : FuncData} {N ps : List Str} {k : Nat} {sp : Sp} (F : Fun K x qual st f fd) (S : FnScope N ps (defScope st)) (len : ∀ vs H Q E, sp vs H Q E → vs.length = ps.length)
    (body : ∀ (cdv : Value) (A : Around) (outer : List PySem.Env) (s : Shared) (H : Hp) (vs : List V) (Q : VK) (E : XK), Room k (A.deeper (envOfC qual (defScope st) s.heap.objs.size f cdv)) → A.guards = some [] → MkRoom k (A.deeper (envOfC qual (defScope st) s.heap.objs.size f cdv)) → sp vs H Q E →
      ∃ t, PSs (cxOf (L2N.CX P w) P w K mg base N qual (defScope st) f cdv A outer s H E) (defBody st) t ∧ t { nx := fun _ H' => Q .non H', rt := Q } (L2.start N vs) H) : FnG P w K mg base (L2N.CX P w) (k + 1) f fd ps sp := by
  obtain ⟨oc, od, kV, doc, pm, an, cdv, ct, osl, rfl, lk, hcd⟩ := F.ex
  refine ⟨len, fun A out s H ar us vs Q E hr hgd e0 hb rv hsp => ?_⟩
  have nv := len _ _ _ _ hsp
  have inK : K.In s.heap := e0.mod.kin.keeps fun b o e => (e0.bs b o e).1
  refine codeAny_call_function hr.depth (inK _ _ lk) rfl S.co S.gen rfl (PySem.W.codeRec_of inK hcd) (hb _ _ _ _ ?_)
  refine wpAny_newFunctionEnv_cells S.kind (fun ⟨n, v⟩ hy => ?_) fun env he s1 z => ?_
  · rcases S.par n (List.of_mem_zip hy).1 with q | q
    · exact .inl q
    · exact .inr ⟨q, PySem.W.cellsFrom_some _ _ _ (.inl q)⟩
  · subst he
    have nolim : s.heap.NoLimit := e0.mod.nolimit.keeps fun b o e => (e0.bs b o e).1
    refine ⟨nolim.keeps z.toInCall.keep, codeAny_func ?_⟩
    obtain ⟨t, ht, hq⟩ := body cdv A out s H vs Q E (hr.deeper _) hgd (mkRoom_of hr hgd) hsp
    refine wpAny_mono (ht.run [] s1 (L2.start N vs) H _ (inv_start S hr.hd e0 nv rv z) hq) (fun fl s' hs => ?_) fun _ _ hs => hs
    cases fl with
    | ret u =>
      obtain ⟨v, σ', H', J, rv, q⟩ := hs
      exact ⟨v, H', J.os, J.bare, J.base, J.hok, rv, q⟩
    | next =>
      obtain ⟨σ', H', J, q⟩ := hs
      exact ⟨.non, H', J.os, J.bare, J.base, J.hok, rfl, q⟩
    | brk =>
      obtain ⟨_, _, _, q⟩ := hs
      cases q
    | cont =>
      obtain ⟨_, _, _, q⟩ := hs
      cases q
/-- what the place gives -/
structure Plc (pr : Program) (w : World) (T : Tb) (P : Pg) (ss : List Stmt) (as : List Addr) (mg : Str → Option Value) (base : Heap) : Prop where
  fa : ∀ k, T.fa k = as.getD k 0
  cold : T.xa = none
  glb : ∀ x v, P.glb.lookup x = some v → ∃ u w, mg x = some u ∧ RelV w u ∧ ∀ H G, Rep T H G v w
  blt : ∀ x, x ∈ P.blt → mg x = none
  defs : AllD T.K mg P.fns ss as
  chk : chkAll P P.fns ss = true
  cls : ∀ c x, P.cls[c]? = some x → mg x = some (.ref (T.ca c))
  cg : ClsG T.K T.ca P.cls.length P.gr
  gr : ∀ c, P.gr = some c → GrOk pr w T.K mg base (T.ca c)
  kd : ∀ x kvs, P.kds.lookup x = some kvs → ∃ a, mg x = some (.ref a) ∧ KdOk T.K w a kvs
  oc : ∀ c o, P.ocl[c]? = some o → OcOk T.K mg T.fa (T.oa c) o
theorem chk_parts {P : Pg} {f : FnI} {st : Stmt} (h : chkF P f st = true) : (f.hot = true → hotSs P f.body = true) ∧ f.np ≤ f.N.length ∧ scOk f (defScope st) = true ∧ chkSs P f.N f.body (defScope st) (defBody st) = true := by
  obtain ⟨h, h3⟩ := and2 h
  obtain ⟨h, h2⟩ := and2 h
  obtain ⟨h, h1⟩ := and2 h
  refine ⟨fun e => ?_, of_decide_eq_true h1, h2, h3⟩
  rw [e] at h
  exact h
theorem fn_both {pr : Program} {w : World} {mg : Str → Option Value} {base : Heap} {T : Tb} {P : Pg} {ss : List Stmt} {as : List Addr} (L : Plc pr w T P ss as mg base) : ∀ (n k : Nat) (f : FnI), P.fns[k]? = some f →
    ∀ nm qn fd, Fun T.K nm qn (ss.getD k noStmt) (as.getD k 0) fd → FnG pr w T.K mg base (L2N.CX pr w) (n + 2) (T.fa k) fd (f.N.take f.np) (spOf T P (orc P.fn n) k) ∧
      (f.hot = true → FnP pr w T.K mg base (L2N.CX pr w) (n + 2) (T.fa k) fd (f.N.take f.np) (spH T P (orc P.fn n) k))
  | 0, k, f, e, nm, qn, fd, F => ⟨⟨fun vs H Q E ⟨_, _, _, _, _, _, _, z⟩ => z.elim, fun _ _ _ _ _ _ _ _ _ _ _ _ _ _ ⟨_, _, _, _, _, _, _, z⟩ => z.elim⟩,
      fun _ => ⟨fun p vs H Q E ⟨_, _, _, _, _, _, _, _, _, _, z⟩ => z.elim, fun _ _ _ _ _ _ _ _ _ _ _ _ _ _ _ _ ⟨_, _, _, _, _, _, _, _, _, _, z⟩ => z.elim⟩⟩
  | n + 1, k, f, e, nm, qn, fd, F => by
    obtain ⟨h0, h1, h2, h3⟩ := chk_parts (chkAll_get L.chk e)
    have fns : ∀ j g, P.fns[j]? = some g → (g.m = false → mg g.name = some (.ref (T.fa j))) ∧ PySem.W.keepIn T.K (.ref (T.fa j)) = true ∧ ∃ fd ps, FnG pr w T.K mg base (L2N.CX pr w) (n + 2) (T.fa j) fd ps (spOf T P (orc P.fn n) j) ∧ Binds T.K fd ps [] := fun j g ej => by
      obtain ⟨nm', qn', fd', F', m', B'⟩ := L.defs.get ej
      exact ⟨by rw [L.fa]; exact m', by rw [L.fa]; exact F'.kp, fd', _, (fn_both L n j g ej nm' qn' fd' F').1, B'⟩
    have hfns : ∀ j g, P.fns[j]? = some g → g.hot = true → (g.m = false → mg g.name = some (.ref (T.fa j))) ∧ PySem.W.keepIn T.K (.ref (T.fa j)) = true ∧ ∃ fd ps, FnP pr w T.K mg base (L2N.CX pr w) (n + 2) (T.fa j) fd ps (spH T P (orc P.fn n) j) ∧ Binds T.K fd ps [] := fun j g ej hh => by
      obtain ⟨nm', qn', fd', F', m', B'⟩ := L.defs.get ej
      exact ⟨by rw [L.fa]; exact m', by rw [L.fa]; exact F'.kp, fd', _, (fn_both L n j g ej nm' qn' fd' F').2 hh, B'⟩
    have ef : P.fn[k]? = some ⟨f.np, f.N.length, f.body⟩ := by unfold Pg.fn; rw [List.getElem?_map, e]; rfl
    rw [L.fa]
    constructor
    · refine fun_okG F (scOk_ok h1 h2) (fun vs H Q E h => ?_) (fun cdv A outer s H vs Q E hr hgd hmk h => ?_)
      · obtain ⟨ds, G, f', e', hl, r, S, q⟩ := h
        rw [e] at e'
        cases e'
        rw [r.length, hl, List.length_take, Nat.min_eq_left h1]
      · obtain ⟨ds, G, f', e', hl, r, S, q⟩ := h
        rw [e] at e'
        cases e'
        have hX : SOk T P (orc P.fn n) (n + 2) (fun c d _ H => E c d H) (cxOf (L2N.CX pr w) pr w T.K mg base f.N qn (defScope (ss.getD k noStmt)) (as.getD k 0) cdv A outer s H E) :=
          { K := rfl, calm := rfl, cold := L.cold, room := L2H.roomH_of hr, rm := hr, gd := hgd, mkr := hmk, oc := L.oc, two := Nat.le_add_left _ _, nd := (scOk_ok h1 h2).nd, glb := L.glb, blt := L.blt, cls := L.cls, cg := L.cg, gr := L.gr, kd := L.kd, fn := fns, hfn := hfns
            len := orc_len n, takes := L2N.takes_of rfl rfl rfl rfl, hp := passes_of rfl, fn1 := fun _ => rfl, stk := rfl, frm := rfl }
        refine ⟨_, sSs f.body hX _ h3, Br.start ⟨f.np, f.N.length, f.body⟩ ds, G, env_start hl r, S, ?_⟩
        have q : Post T (fun c d _ H => E c d H) H G (match P.fn[k]? with
          | some f => runF (orc P.fn n) f ds G.st
          | none => .bad) _ := q
        rw [ef] at q
        simp only [runF, hl, if_true] at q
        refine Post.bind q fun fl H1 G1 x1 s1 q1 => ?_
        cases fl with
        | next ρ => exact fun σ' e2 => q1.here s1 .non rfl
        | ret v => exact q1.here s1
    · intro hh
      refine fn_ofP F (scOk_ok h1 h2) (fun p vs H Q E h => ?_) (fun p cdv A out s H vs Q E hot hr h => ?_)
      · obtain ⟨c, ds, G, f', _, _, e', hl, r, S, q⟩ := h
        rw [e] at e'
        cases e'
        rw [r.length, hl, List.length_take, Nat.min_eq_left h1]
      · obtain ⟨c, ds, G, f', ec, lt, e', hl, r, S, q⟩ := h
        rw [e] at e'
        cases e'
        have hX : HOk T P (orc P.fn n) (n + 2) c p (L2H.cxH (L2N.CX pr w) pr w T.K mg base f.N qn (defScope (ss.getD k noStmt)) (as.getD k 0) cdv A out s H E p) :=
          { K := rfl, room := hr, nd := (scOk_ok h1 h2).nd, blt := L.blt, cls := L.cls, cg := L.cg, hot := hot, mem := List.mem_cons_self, cls1 := ec, lt := lt, fn1 := fun _ => rfl, len := orc_len n, hfn := hfns }
        refine ⟨_, sSsH f.body (h0 hh) hX _ h3, Br.start ⟨f.np, f.N.length, f.body⟩ ds, G, env_start hl r, S, ?_⟩
        have q : Post (T.hot c p) W00 H G (match P.fn[k]? with
          | some f => runF (orc P.fn n) f ds G.st
          | none => .bad) _ := q
        rw [ef] at q
        simp only [runF, hl, if_true] at q
        refine Post.bind q fun fl H1 G1 x1 s1 q1 => ?_
        cases fl with
        | next ρ => exact fun σ' e2 => q1.here s1 .non rfl
        | ret v => exact q1.here s1
def spLaw (K : PySem.W.Frag) (n : Nat) : Sp := fun vs H Q _ => ∃ (a : Addr) (ns : List Int), vs = [.ref a] ∧ SqL K H a (ns.map V.int) ∧ ns.length ≤ n ∧ (∀ z ∈ ns, Builtin.Int.intBits z ≤ 1048576) ∧ ∀ H', Q (.bl true) H'
theorem reps_nums {T : Tb} {H : Hp} {G : Wd} : ∀ ns : List Int, Reps T H G (ns.map .int) (ns.map V.int)
  | [] => rfl
  | n :: ns => ⟨_, _, rfl, rfl, reps_nums ns⟩
theorem law_sound {pr : Program} {w : World} {mg : Str → Option Value} {base : Heap} {T : Tb} {P : Pg} {ss : List Stmt} {as : List Addr} (L : Plc pr w T P ss as mg base) {n k m : Nat} {f : FnI} {fd : FuncData} {nm qn : Str} (ef : P.fns[k]? = some f) (hp : f.np = 1)
    (F : Fun T.K nm qn (ss.getD k noStmt) (as.getD k 0) fd)
    (law : ∀ ns : List Int, ns.length ≤ m → (∀ z ∈ ns, Builtin.Int.intBits z ≤ 1048576) → ∃ st, orc P.fn n k [.d (.kst (ns.map .int))] [] = .ok (.d (.bl true)) st) :
    FnG pr w T.K mg base (L2N.CX pr w) (n + 2) (as.getD k 0) fd (f.N.take f.np) (spLaw T.K m) := by
  rw [← L.fa]
  refine (fn_both L n k f ef nm qn fd F).1.imp fun vs H Q E h => ?_
  obtain ⟨a, ns, rfl, hq, hl, hb, q⟩ := h
  obtain ⟨st, e⟩ := law ns hl hb
  refine ⟨[.d (.kst (ns.map .int))], ⟨[], []⟩, f, ef, by rw [hp]; rfl, ⟨_, [], rfl, ⟨a, _, rfl, ?_, reps_nums ns⟩, rfl⟩, ⟨?_, ?_, ?_, ?_, List.nodup_nil⟩, ?_⟩
  · rcases hq with h | h
    · refine .inl ⟨h, fun m => ?_⟩
      rcases m with ⟨n, c, e, _⟩ | m
      · simp at e
      · cases m
    · exact .inr h
  · intro n a c e; simp at e
  · intro n m a c c' e; simp at e
  · intro a h; cases h
  · intro a h; cases h
  · show Post T _ H ⟨[], []⟩ (orc P.fn n k [.d (.kst (ns.map .int))] []) _
    rw [e]
    intro H' G' _ _ _ v r
    have r : v = .bl true := r
    subst r
    exact q H'
theorem cx_law {pr : Program} {w : World} {H : Hp} {s : Shared} {e : Value} {s' : Shared} (h : L2N.CX pr w [] H s (fun _ _ _ => False) e s') : False := by
  obtain ⟨_, _, _, _, _, _, _, _, _, _, _, _, z⟩ := h
  exact z.elim
/-- a written constant -/
def GlbOk (T : Tb) (d : D) (u : Value) : Prop := ∃ w, RelV w u ∧ ∀ H G, Rep T H G d w
theorem glb_int {T : Tb} {i : Int} {t : Nat} : GlbOk T (.int i) (.int i t) := ⟨.int i, ⟨_, rfl⟩, fun _ _ => rfl⟩
theorem glb_ok {T : Tb} {mg : Str → Option Value} {x : Str} {d : D} {u : Value} (h : mg x = some u) (g : GlbOk T d u) : ∃ u w, mg x = some u ∧ RelV w u ∧ ∀ H G, Rep T H G d w := by
  obtain ⟨w, h1, h2⟩ := g
  exact ⟨u, w, h, h1, h2⟩
theorem lookup_cons {x y : Str} {d v : D} {r : List (Str × D)} (h : List.lookup x ((y, d) :: r) = some v) : (x = y ∧ v = d) ∨ List.lookup x r = some v := by
  rw [List.lookup_cons] at h
  split at h
  · rename_i e
    cases h
    exact .inl ⟨eq_of_beq e, rfl⟩
  · exact .inr h
theorem lookupK_cons {x y : Str} {d v : List (Str × Int)} {r : List (Str × List (Str × Int))} (h : List.lookup x ((y, d) :: r) = some v) : (x = y ∧ v = d) ∨ List.lookup x r = some v := by
  rw [List.lookup_cons] at h
  split at h
  · rename_i e
    cases h
    exact .inl ⟨eq_of_beq e, rfl⟩
  · exact .inr h
theorem allD_cons {K : PySem.W.Frag} {h : Heap} {mg : Str → Option Value} {f : FnI} {nm : Str} {st : Stmt} {a : Addr} {fs : List FnI} {ss : List Stmt} {as : List Addr} (X : K.In h) (G : h.Ns mainGlobals mg)
    {oc : Value} {od an : Option Addr} {sl : Array (Option Value)} {kV dc pm cd ct : Value}
    (h1 : PySem.W.nsIn K mainGlobals f.name = some (some (.ref a))) (h2 : K.lookup a = some ⟨oc, od, .func (PySem.W.fnOf nm nm (defArgs st) (defBody st) (defScope st) .none kV dc pm an cd ct), sl⟩) (h3 : PySem.W.codeIn K cd nm = true) (h4 : PySem.W.keepIn K (.ref a) = true)
    (h5 : ∀ (kV doc pm : Value) (an : Option Addr) (cdv ct : Value) (us : List Value), us.length = (f.N.take f.np).length → bindArgs (PySem.W.fnOf nm nm (defArgs st) (defBody st) (defScope st) .none kV doc pm an cdv ct) ⟨us, []⟩ = pure ((f.N.take f.np).zip us))
    (r : AllD K mg fs ss as) : AllD K mg (f :: fs) (st :: ss) (a :: as) :=
  ⟨⟨_, _, _, fun_mk h2 h3 h4, fun _ => PySem.W.mg_of X G h1, (fun_mk h2 h3 h4).binds h5⟩, r⟩
/-- .. a method -/
theorem allD_meth {K : PySem.W.Frag} {mg : Str → Option Value} {f : FnI} {nm qn : Str} {st : Stmt} {a : Addr} {fs : List FnI} {ss : List Stmt} {as : List Addr} (hm : f.m = true)
    {oc : Value} {od an : Option Addr} {sl : Array (Option Value)} {kV dc pm cd ct : Value}
    (h2 : K.lookup a = some ⟨oc, od, .func (PySem.W.fnOf nm qn (defArgs st) (defBody st) (defScope st) .none kV dc pm an cd ct), sl⟩) (h3 : PySem.W.codeIn K cd qn = true) (h4 : PySem.W.keepIn K (.ref a) = true)
    (h5 : ∀ (kV doc pm : Value) (an : Option Addr) (cdv ct : Value) (us : List Value), us.length = (f.N.take f.np).length → bindArgs (PySem.W.fnOf nm qn (defArgs st) (defBody st) (defScope st) .none kV doc pm an cdv ct) ⟨us, []⟩ = pure ((f.N.take f.np).zip us))
    (r : AllD K mg fs ss as) : AllD K mg (f :: fs) (st :: ss) (a :: as) :=
  ⟨⟨_, _, _, fun_mk h2 h3 h4, fun z => (by rw [hm] at z; cases z), (fun_mk h2 h3 h4).binds h5⟩, r⟩
/-- what the written part says of an own class -/
def oclB (K : PySem.W.Frag) (D : Addr) (fi : Addr) (o : Ocl) (ms : List (Str × Addr)) : Bool :=
  PySem.W.plainGet K D Str.empty && PySem.W.hasDictIn K D && PySem.W.plainOver K D && (PySem.W.findIn K (.ref D) "__setattr__" == some (some (.builtin "object.__setattr__"))) &&
  PySem.W.makesIn K D && (PySem.W.findIn K (.ref D) "__init__" == some (some (.ref fi))) && PySem.W.isFn K (.ref fi) && PySem.W.keepIn K (.ref D) &&
  (o.flds.all fun f => PySem.W.findIn K (.ref D) f == some none) && (ms.all fun p => (PySem.W.findIn K (.ref D) p.1 == some (some (.ref p.2))) && PySem.W.isFn K (.ref p.2) && PySem.W.keepIn K (.ref p.2))
theorem oclB_ok {K : PySem.W.Frag} {mg : Str → Option Value} {fa : Nat → Addr} {D fi : Addr} {o : Ocl} {ms : List (Str × Addr)} (hm : mg o.name = some (.ref D)) (hi : fa o.ini = fi) (hs : o.ms.map (fun p => (p.1, fa p.2)) = ms) (h : oclB K D fi o ms = true) : OcOk K mg fa D o := by
  simp only [oclB, Bool.and_eq_true, beq_iff_eq, List.all_eq_true] at h
  obtain ⟨⟨⟨⟨⟨⟨⟨⟨⟨h1, h2⟩, h3⟩, h4⟩, h5⟩, h6⟩, h7⟩, h8⟩, h9⟩, h10⟩ := h
  subst hi hs
  exact ⟨hm, ⟨h1, h2, h3, h4⟩, ⟨h5, h6, h7, h8⟩, fun f hf => h9 f hf, fun p hp => by
    have z := h10 (p.1, fa p.2) (List.mem_map.mpr ⟨p, hp, rfl⟩)
    exact ⟨z.1.1, z.1.2, z.2⟩⟩
end Br

/-! Br13g: the exception class with two fields; the classes of a law. -/
namespace Br
open PySem PySem.Spec PyProof.Rows L2
/-- self.many = many; self.most = most -/
def iniB (b : List Stmt) : Bool := match b with
  | [.Assign [.Attribute (.Name s1 _) f1 _] (.Name v1 _) _, .Assign [.Attribute (.Name s2 _) f2 _] (.Name v2 _) _] => decide (s1 = "self" ∧ f1 = "many" ∧ v1 = "many" ∧ s2 = "self" ∧ f2 = "most" ∧ v2 = "most")
  | _ => false
theorem iniB_ok {b : List Stmt} (h : iniB b = true) : ∃ p1 p2 p3 p4 q1 q2 q3 q4, b = [.Assign [.Attribute (.Name "self" p1) "many" p2] (.Name "many" p3) p4, .Assign [.Attribute (.Name "self" q1) "most" q2] (.Name "most" q3) q4] := by
  unfold iniB at h
  split at h
  · obtain ⟨rfl, rfl, rfl, rfl, rfl, rfl⟩ := of_decide_eq_true h
    exact ⟨_, _, _, _, _, _, _, _, rfl⟩
  · cases h
def iniN : List Str := ["self", "many", "most"]
def iniSc (sc : Scope) : Bool := (match sc.kind with
  | .function => true
  | _ => false) && !sc.isCoroutine && !sc.isGenerator && (iniN.all fun x => match sc.names.lookup x with
  | some .local => true
  | _ => false) && (sc.names.all fun y => match y.2 with
  | .free => false
  | _ => true)
theorem iniSc_ok {sc : Scope} (h : iniSc sc = true) : FnScope iniN iniN sc ∧ ∀ x ∈ iniN, sc.names.lookup x = some .local := by
  obtain ⟨h, h5⟩ := and2 h
  obtain ⟨h, h4⟩ := and2 h
  obtain ⟨h, h3⟩ := and2 h
  obtain ⟨h, h2⟩ := and2 h
  have loc : ∀ x ∈ iniN, sc.names.lookup x = some .local := fun x hx => by
    have := List.all_eq_true.mp h4 x hx
    split at this
    · assumption
    · cases this
  refine ⟨⟨?_, nBool h2, nBool h3, by decide +kernel, rfl, fun x hx => .inl (loc x hx), fun y hy e => ?_⟩, loc⟩
  · split at h
    · assumption
    · cases h
  · have := List.all_eq_true.mp h5 y hy
    rw [e] at this
    cases this
theorem ini_ok {P : Program} {w : World} {K : PySem.W.Frag} {mg : Str → Option Value} {base : Heap} {D fI : Addr} {q : Str} {st : Stmt} {fd : FuncData} (F : Fun K "__init__" q st fI fd) (hs : iniSc (defScope st) = true) (hb : iniB (defBody st) = true) (O : OexC K D)
    (nm : PySem.W.findIn K (.ref D) "many" = some none) (ns : PySem.W.findIn K (.ref D) "most" = some none) : FnOk P w K mg base CX0 1 fI fd ["self", "many", "most"] (spIni K D) := by
  obtain ⟨S, loc⟩ := iniSc_ok hs
  obtain ⟨p1, p2, p3, p4, q1, q2, q3, q4, eb⟩ := iniB_ok hb
  have pvi : ∀ {X : Cx} (i : Nat) {x : Str} {pos : Pos}, X.N[i]? = some x → X.env.scope.names.lookup x = some .local → (x == ("__debug__" : Str)) = false → (x == ("__classdict__" : Str)) = false → PE X (.Name x pos) (tVar i) := fun {X} i {x} {pos} h1 h2 h3 h4 => pe_var h1 (.inl h2) h3 h4
  refine F.ok (N := iniN) S (fun vs H Q E h => ?_) (fun cdv A outer s H vs Q E hr h => ?_)
  · obtain ⟨a, v, w, rfl, _⟩ := h
    rfl
  · rw [eb]
    refine ⟨_, pss_cons (ps_ost (pvi 0 rfl (loc _ (by decide +kernel)) (by decide +kernel) (by decide +kernel)) (pvi 1 rfl (loc _ (by decide +kernel)) (by decide +kernel) (by decide +kernel)) rfl)
      (pss_one (ps_ost (pvi 0 rfl (loc _ (by decide +kernel)) (by decide +kernel) (by decide +kernel)) (pvi 2 rfl (loc _ (by decide +kernel)) (by decide +kernel) (by decide +kernel)) rfl)), ?_⟩
    obtain ⟨a, v, w, rfl, ha, k⟩ := h
    refine ⟨v, rfl, .ref a, rfl, a, D, rfl, O, nm, .inl ⟨ha, fun dx nd ne => ⟨w, rfl, .ref a, rfl, a, D, rfl, O, ns, .inr ⟨dx, [("many", v)], upd_same, ?_, by show 1 ≤ 900; decide, k dx nd ne⟩⟩⟩⟩
    rw [upd_ne ne]
    exact upd_same
/-- the class with two fields, from what is found of it -/
theorem gr_ok {P : Program} {w : World} {K : PySem.W.Frag} {mg : Str → Option Value} {base : Heap} {D fI : Addr} {q nm qn : Str} {st : Stmt} {fd : FuncData} {N : Addr} {bs bm : List Value} {sn : List Str} {sub : List Value} {ab : Bool} {col : Option Bool} {dd : Option Addr} {k0 k1 k2 k3 k5 : Option Value}
    (lD : K.lookup D = some (excClassObj nm qn D N bs bm true sn sub ab col dd k0 k1 k2 k3 k5 "ValueError.__new__")) (hbm : PySem.HandSPX.refsVE bm = true) (sa : PySem.W.findIn K (.ref D) "__setattr__" = some (some (.builtin "object.__setattr__"))) (O : ClsOk K D)
    (iC : PySem.W.findIn K (.ref D) "__init__" = some (some (.ref fI))) (tI : PySem.W.typeIn K (.ref fI) = some (.type "function")) (F : Fun K "__init__" q st fI fd) (hs : iniSc (defScope st) = true) (hb : iniB (defBody st) = true)
    (bd : Binds K fd ["self", "many", "most"] []) : GrOk P w K mg base D := by
  have oc : OexC K D := ⟨⟨nm, qn, N, bs, bm, sn, sub, ab, col, dd, k0, k1, k2, k3, k5, lD, hbm⟩, sa, O.sb, O.ty, O.kp⟩
  exact ⟨oc, fI, fd, iC, tI, ini_ok F hs hb oc O.nm O.ns, bd⟩
theorem cls_cons {mg : Str → Option Value} {ca : Nat → Addr} {k : Nat} {x : Str} {r : List Str} (h : mg x = some (.ref (ca k))) (hr : ∀ c y, r[c]? = some y → mg y = some (.ref (ca (k + 1 + c)))) : ∀ c y, (x :: r)[c]? = some y → mg y = some (.ref (ca (k + c))) := by
  intro c y e
  cases c with
  | zero => cases e; exact h
  | succ c =>
    have := hr c y (by simpa using e)
    rw [show k + (c + 1) = k + 1 + c from by omega]
    exact this
end Br

/-! Br13w: a law's row, where no repr is under way. -/
namespace Br
open PySem PySem.Spec PyProof.Rows L2
theorem law_callG {pr : Program} {w : World} {K : PySem.W.Frag} {mg mb : Str → Option Value} {CX : CXT} {lv : Nat} {fa a : Addr} {fd : FuncData} {x : Str} {sp : Sp} {sa : Shared} {us : List Value} {ns : List Int}
    (inK : K.In sa.heap) (hmg : sa.heap.Ns mainGlobals mg) (hmb : sa.heap.Ns builtinsNs mb) (boot : ∀ x : Str, x ≠ "__name__" → mb x = bootBuiltins x) (nolim : sa.heap.NoLimit) (nogen : sa.gens = #[])
    (at' : sa.heap.get? a = some { cls := .type "list", data := .seq us.toArray }) (inz : IntsAre us ns) (few : ns.length ≤ sizeLine) (rm : Room lv callerA)
    (F : ∀ b0 : Heap, K.In b0 → b0.Ns mainGlobals mg → FnG pr w K mg b0 CX lv fa fd [x] sp) (bd : ∀ (s : Shared) (u : Value), BindsTo s fd ⟨[u], []⟩ [(x, u)])
    (law : ∀ H : Hp, Only H → SqL K H a (ns.map V.int) → sp [.ref a] H (fun v _ => v = .bl true) fun _ _ _ => False)
    (noX : ∀ H e s2, CX [] H sa (fun _ _ _ => False) e s2 → False) :
    codeAny (model pr w) callerA (.call (.ref fa) ⟨[.ref a], []⟩) (fun r s2 => r = .ok (.ret (.bool true)) ∧ OldK sa.heap s2.heap ∧ s2.os = sa.os ∧ AllBare s2.gens) sa := by
  have rv := vals_ints inz
  have nus := inz.length
  have main : ∀ H : Hp, Only H → SqL K H a (ns.map V.int) → L2.HOk pr w H sa.heap → (∀ b, H b ≠ none → b = a) → (H a ≠ none → K.lookup a = none) →
      codeAny (model pr w) callerA (.call (.ref fa) ⟨[.ref a], []⟩) (fun r s2 => r = .ok (.ret (.bool true)) ∧ OldK sa.heap s2.heap ∧ s2.os = sa.os ∧ AllBare s2.gens) sa := by
    intro H only sq hok alone own
    have keep : ∀ {b : Addr} {o : Obj}, sa.heap.get? b = some o → H b = none → (hidT sa.heap H).get? b = some o := fun e1 e2 => hidT_get e1 e2
    have free : ∀ {b : Addr} {o : Obj} {es : Array DictEntry} {ep : Nat}, sa.heap.get? b = some o → o.data = .dict es ep → H b = none := fun {b o es ep} e1 e2 => by
      cases z : H b with
      | none => rfl
      | some u =>
        have eb : b = a := alone b (by rw [z]; simp)
        subst eb
        rw [at'] at e1
        cases e1
        have e3 : Data.seq us.toArray _ = Data.dict es ep := e2
        cases e3
    have names : ∀ {b : Addr} {m : Str → Option Value}, sa.heap.Ns b m → (hidT sa.heap H).Ns b m := fun {b m} ⟨o, es, ep, e1, e2, rr⟩ => ⟨o, es, ep, keep e1 (free e1 e2), e2, rr⟩
    have inB : K.In (hidT sa.heap H) := fun b o e1 => keep (inK b o e1) (by
      cases z : H b with
      | none => rfl
      | some u =>
        have eb : b = a := alone b (by rw [z]; simp)
        subst eb
        rw [own (by rw [z]; simp)] at e1
        cases e1)
    have md : Mod K mg (hidT sa.heap H) := ⟨inB, names hmg, ⟨mb, names hmb, boot⟩, let ⟨mc, z1, z2⟩ := nolim; ⟨mc, names z1, z2⟩⟩
    have env : Env0 pr w K mg (hidT sa.heap H) callerA [] sa H := ⟨rfl, md, fun b o e1 => of_hidT e1, Nat.le_of_eq (hidT_size _ _), trivial, fun b hb => absurd (show b ∈ ([] : List Addr) from hb) List.not_mem_nil, hok, .of_eq nogen⟩
    refine codeAny_mono ((F _ inB (names hmg)).run callerA [] sa H ⟨[.ref a], []⟩ [.ref a] [.ref a] _ _ rm rfl env (bd sa (.ref a)) (.cons rfl .nil) (law H only sq)) fun r s2 hz => ?_
    cases r with
    | error e => exact (noX H e s2 hz).elim
    | ok fl =>
      cases fl with
      | next => cases hz
      | brk => cases hz
      | cont => cases hz
      | ret u =>
        obtain ⟨v, H2, os, bare, un, hok2, r2, q⟩ := hz
        have q2 : v = .bl true := q
        subst q2
        obtain rfl : u = Value.bool true := r2
        refine ⟨rfl, OldK.of_keep fun b o e1 => ?_, os, bare⟩
        cases z : H b with
        | none => exact un.keep b o e1 z (fun y => absurd (show b ∈ ([] : List Addr) from y) List.not_mem_nil) List.not_mem_nil
        | some u =>
          rcases only b with y | ⟨ob, xs, y⟩
          · rw [z] at y
            cases y
          · have y2 := un.frzs b ob _ y
            obtain ⟨g1, _⟩ := hok b _ y
            obtain ⟨g2, _⟩ := hok2 b _ y2
            rw [e1] at g1
            cases g1
            exact g2
  cases hk : K.lookup a with
  | some o =>
    have e1 := inK a o hk
    rw [at'] at e1
    cases e1
    refine main (fun _ => none) (fun _ => .inl rfl) (.inr ⟨_, us.toArray, _, hk, rfl, rfl, rfl, by rw [List.size_toArray, nus]; exact few, by simpa using rv⟩) (fun b u z => by
      have z2 : (none : Option HO) = some u := z
      cases z2) (fun b z => absurd rfl z) fun z => absurd rfl z
  | none =>
    refine main (fun b => if b = a then some (.frz { cls := .type "list", data := .seq us.toArray } (.lst (ns.map V.int))) else none) (fun b => ?_) (.inl (.inr ⟨{ cls := .type "list", data := .seq us.toArray }, if_pos rfl⟩)) (fun b u z => ?_) (fun b z => ?_) fun _ => hk
    · by_cases eb : b = a
      · exact .inr ⟨_, _, if_pos eb⟩
      · exact .inl (if_neg eb)
    · by_cases eb : b = a
      · have z2 := (if_pos eb).symm.trans z
        cases z2
        subst eb
        exact ⟨at', by rw [List.length_map]; exact few, us, _, rv, at'⟩
      · have z2 := (if_neg eb).symm.trans z
        cases z2
    · by_cases eb : b = a
      · exact eb
      · exact absurd (if_neg eb) z
theorem walk_ofG {l : PySem.W.OpenLaw} {n lv : Nat} {q : Program} {loose : List Str} {XP : (Str → Option Value) → Heap → Prop} {YP : World → Heap → Prop} {d : DefRec} {K : Params → PySem.W.Frag} {CX : World → CXT} {sp : World → Sp} {x : Str}
    (most : l.most = some n) (n2 : n ≤ sizeLine) (nodef : d.params.defaults = []) (rm : Room lv callerA)
    (inY : ∀ (w : World) (h : Heap), YP w h → (K w.params).In h)
    (F : ∀ (w : World) (mg : Str → Option Value) (fa : Addr) (h : Heap), (K w.params).In h → h.Ns mainGlobals mg → mg d.name = some (.ref fa) →
      ∃ fd : FuncData, (∀ (s : Shared) (u : Value), BindsTo s fd ⟨[u], []⟩ [(x, u)]) ∧ ∀ b0 : Heap, (K w.params).In b0 → b0.Ns mainGlobals mg → FnG l.prog w (K w.params) mg b0 (CX w) lv fa fd [x] (sp w))
    (law : ∀ (w : World) (H : Hp) (a : Addr) (ns : List Int), ns.length ≤ n → (∀ z ∈ ns, Builtin.Int.intBits z ≤ 1048576) → Only H → SqL (K w.params) H a (ns.map V.int) → sp w [.ref a] H (fun v _ => v = .bl true) fun _ _ _ => False)
    (noX : ∀ (w : World) (H : Hp) (s : Shared) (e : Value) (s2 : Shared), CX w [] H s (fun _ _ _ => False) e s2 → False) :
    PySem.W.WalkO q loose XP YP l.row.toRowW d [] (fun f vs => PySem.call f vs) := by
  refine Att.attach_callB most nodef fun w z0 z1 mg mb fa o pm cd doc a us ns Gr Y ho hd hcd hmg hobj inz len bits hg => ?_
  have inK := inY w _ Y
  obtain ⟨fd, bd, hF⟩ := F w mg fa _ inK Gr.T.g hmg
  exact law_callG inK Gr.T.g Gr.T.b Gr.T.builtins Gr.T.nolimit hg hobj inz (Nat.le_trans len n2) rm hF bd (fun H only sq => law w H a ns len bits only sq) fun H e s2 => noX w H z1 e s2
end Br

/-! Br14: what a run comes to, step by step. -/
namespace Br
open PySem
/-- it ends well, in Q, or raises, in X -/
inductive OkX {α : Type} (X : Nat → List D → Store → Prop) : Res α → (α → Store → Prop) → Prop where
  | ok {a : α} {st : Store} {Q : α → Store → Prop} (h : Q a st) : OkX X (.ok a st) Q
  | exc {c : Nat} {fs : List D} {st : Store} {Q : α → Store → Prop} (h : X c fs st) : OkX X (.exc c fs st) Q
abbrev NoX : Nat → List D → Store → Prop := fun _ _ _ => False
/-- it ends well, in Q -/
abbrev Ok {α : Type} (r : Res α) (Q : α → Store → Prop) : Prop := OkX NoX r Q
section
variable {X : Nat → List D → Store → Prop}
@[simp] theorem ok_ok {α : Type} (a : α) (st : Store) (Q : α → Store → Prop) : OkX X (.ok a st) Q = Q a st := propext ⟨fun h => (by cases h; assumption), fun h => .ok h⟩
@[simp] theorem ok_bad {α : Type} (Q : α → Store → Prop) : OkX X .bad Q = False := propext ⟨fun h => (by cases h), fun h => h.elim⟩
@[simp] theorem ok_exc {α : Type} (c : Nat) (fs : List D) (st : Store) (Q : α → Store → Prop) : OkX X (.exc c fs st) Q = X c fs st := propext ⟨fun h => (by cases h; assumption), fun h => .exc h⟩
theorem Ok.mono {α : Type} {r : Res α} {Q Q' : α → Store → Prop} (h : Ok r Q) (k : ∀ a st, Q a st → Q' a st) : OkX X r Q' := by
  cases h with
  | ok h => exact .ok (k _ _ h)
  | exc h => exact h.elim
theorem OkX.mono {α : Type} {r : Res α} {Q Q' : α → Store → Prop} (h : OkX X r Q) (k : ∀ a st, Q a st → Q' a st) : OkX X r Q' := by
  cases h with
  | ok h => exact .ok (k _ _ h)
  | exc h => exact .exc h
theorem OkX.mono2 {α : Type} {X' : Nat → List D → Store → Prop} {r : Res α} {Q Q' : α → Store → Prop} (h : OkX X r Q) (k : ∀ a st, Q a st → Q' a st) (kx : ∀ c fs st, X c fs st → X' c fs st) : OkX X' r Q' := by
  cases h with
  | ok h => exact .ok (k _ _ h)
  | exc h => exact .exc (kx _ _ _ h)
@[simp] theorem ok_bind {α β : Type} (r : Res α) (f : α → Store → Res β) (Q : β → Store → Prop) : OkX X (r.bind f) Q = OkX X r fun a st => OkX X (f a st) Q := by
  cases r <;> simp only [Res.bind, ok_ok, ok_exc, ok_bad]
@[simp] theorem ok_test {α : Type} (r : Res Vl) (f : Bool → Store → Res α) (Q : α → Store → Prop) : OkX X (r.test f) Q = OkX X r fun v st => ∃ b, tr v = some b ∧ OkX X (f b st) Q := by
  cases r with
  | ok v st =>
    show OkX X (match tr v with | some b => f b st | none => .bad) Q = _
    simp only [ok_ok]
    cases tr v <;> simp
  | exc _ _ _ => simp only [Res.test, Res.bind, ok_exc]
  | bad => simp only [Res.test, Res.bind, ok_bad]
@[simp] theorem ok_quiet {α : Type} (r : Res α) (Q : α → Store → Prop) : OkX X r.quiet Q = Ok r Q := by
  cases r <;> simp only [Res.quiet, ok_ok, ok_exc, ok_bad]
theorem OkX.eq {α : Type} {r : Res α} {Q : α → Store → Prop} (h : OkX X r Q) : (∃ a st, r = .ok a st ∧ Q a st) ∨ ∃ c fs st, r = .exc c fs st ∧ X c fs st := by
  cases h with
  | ok h => exact .inl ⟨_, _, rfl, h⟩
  | exc h => exact .inr ⟨_, _, _, rfl, h⟩
theorem Ok.eq {α : Type} {r : Res α} {Q : α → Store → Prop} (h : Ok r Q) : ∃ a st, r = .ok a st ∧ Q a st := by
  cases h with
  | ok h => exact ⟨_, _, rfl, h⟩
  | exc h => exact h.elim
@[simp] theorem ok_ite {α : Type} (c : Prop) [Decidable c] (r s : Res α) (Q : α → Store → Prop) : OkX X (if c then r else s) Q = if c then OkX X r Q else OkX X s Q := by
  split <;> rfl
end
@[simp] theorem tr_bl (b : Bool) : tr (.d (.bl b)) = some b := rfl
/-! ### a call -/
/-- the caller's cells but those at ps stand -/
def Stand (ps : List Nat) (st st' : Store) : Prop := st.length ≤ st'.length ∧ ∀ i : Nat, i < st.length → i ∉ ps → st'[i]? = st[i]?
theorem Stand.refl (ps : List Nat) (st : Store) : Stand ps st st := ⟨Nat.le_refl _, fun _ _ _ => rfl⟩
theorem Stand.trans {ps : List Nat} {a b c : Store} (h : Stand ps a b) (k : Stand ps b c) : Stand ps a c :=
  ⟨Nat.le_trans h.1 k.1, fun i hi hp => (k.2 i (Nat.lt_of_lt_of_le hi h.1) hp).trans (h.2 i hi hp)⟩
theorem Stand.grow {ps : List Nat} {a b : Store} (h : Stand ps a b) (c : List Cell) : Stand ps a (b ++ c) :=
  ⟨by rw [List.length_append]; exact Nat.le_trans h.1 (Nat.le_add_right _ _), fun i hi hp => by rw [List.getElem?_append_left (Nat.lt_of_lt_of_le hi h.1)]; exact h.2 i hi hp⟩
theorem Stand.set {ps : List Nat} {a b : Store} (h : Stand ps a b) {i : Nat} {c : Cell} (hi : i ∈ ps ∨ a.length ≤ i) : Stand ps a (b.set i c) :=
  ⟨by rw [List.length_set]; exact h.1, fun j hj hp => by
    rw [List.getElem?_set_ne]
    · exact h.2 j hj hp
    · rintro rfl
      rcases hi with hi | hi
      · exact hp hi
      · omega⟩
theorem Stand.take {ps : List Nat} {a b : Store} (h : Stand ps a b) : Stand ps a (b.take a.length) :=
  ⟨by rw [List.length_take]; have := h.1; omega, fun i hi hp => by rw [List.getElem?_take_of_lt hi]; exact h.2 i hi hp⟩
theorem Stand.eq {a b : Store} (h : Stand [] a b) (hl : b.length = a.length) : b = a := List.ext_getElem? fun i => by
  by_cases hi : i < a.length
  · exact h.2 i hi (by simp)
  · rw [List.getElem?_eq_none (by omega), List.getElem?_eq_none (by omega)]
theorem Stand.less {ps qs : List Nat} {a b : Store} (h : Stand ps a b) (k : ∀ i ∈ ps, i ∈ qs) : Stand qs a b := ⟨h.1, fun i hi hq => h.2 i hi fun m => hq (k i m)⟩
/-- plain lists at ps -/
def Lsts (ps : List Nat) (st : Store) : Prop := ∀ i ∈ ps, ∃ xs, st[i]? = some (.lst xs)
theorem finOk_of {ps : List Nat} {a b : Store} (h : Stand ps a b) (hl : ∀ i ∈ ps, i < a.length → ∃ xs, b[i]? = some (.lst xs)) : FinOk a b := fun i hi => by
  by_cases hp : i ∈ ps
  · obtain ⟨xs, e⟩ := hl i hp hi
    exact .inr ⟨_, e, rfl⟩
  · exact .inl (h.2 i hi hp)
/-- a call of which data comes back; the cells at ps may have changed -/
theorem ok_fin {ps : List Nat} {st : Store} {r : Res Vl} {Q : Vl → Store → Prop} (h : Ok r fun v st' => Stand ps st st' ∧ (∀ i ∈ ps, i < st.length → ∃ xs, st'[i]? = some (.lst xs)) ∧
    ∃ x, (v = .d x ∨ ∃ k xs, v = .r k ∧ st.length ≤ k ∧ st'[k]? = some (.lst xs) ∧ x = .lst xs) ∧ Q (.d x) (st'.take st.length)) : Ok (fin st r) Q := by
  obtain ⟨v, st', rfl, hs, hl, x, hv, q⟩ := h.eq
  have hf := finOk_of hs hl
  rcases hv with rfl | ⟨k, xs, rfl, hk, e, rfl⟩
  · unfold fin
    simp only [hf, if_true]
    exact .ok q
  · unfold fin
    have hk' : ¬ k < st.length := by omega
    simp only [hf, if_true, hk', if_false, e]
    exact .ok q
/-- .. its own list comes back -/
theorem ok_fino {ps : List Nat} {st : Store} {r : Res Vl} {Q : Vl → Store → Prop} (h : Ok r fun v st' => Stand ps st st' ∧ (∀ i ∈ ps, i < st.length → ∃ xs, st'[i]? = some (.lst xs)) ∧
    ∃ k xs, v = .r k ∧ st.length ≤ k ∧ st'[k]? = some (.lst xs) ∧ Q (.r st.length) (st'.take st.length ++ [.lst xs])) : Ok (fino st r) Q := by
  obtain ⟨v, st', rfl, hs, hl, k, xs, rfl, hk, e, q⟩ := h.eq
  have hf := finOk_of hs hl
  unfold fino
  have hk' : ¬ k < st.length := by omega
  simp only [hf, hk', not_false_eq_true, and_self, if_true, e]
  exact .ok q
theorem ok_finoD {ps : List Nat} {st : Store} {r : Res Vl} {Q : Vl → Store → Prop} (h : Ok r fun v st' => Stand ps st st' ∧ (∀ i ∈ ps, i < st.length → ∃ xs, st'[i]? = some (.lst xs)) ∧
    ∃ k kvs, v = .r k ∧ st.length ≤ k ∧ st'[k]? = some (.dic kvs) ∧ Q (.r st.length) (st'.take st.length ++ [.dic kvs])) : Ok (fino st r) Q := by
  obtain ⟨v, st', rfl, hs, hl, k, kvs, rfl, hk, e, q⟩ := h.eq
  have hf := finOk_of hs hl
  unfold fino
  have hk' : ¬ k < st.length := by omega
  simp only [hf, hk', not_false_eq_true, and_self, if_true, e]
  exact .ok q
/-- nothing of the caller's changes -/
theorem ok_fin0 {st : Store} {r : Res Vl} {Q : Vl → Store → Prop} (h : Ok r fun v st' => Stand [] st st' ∧ ∃ x, (v = .d x ∨ ∃ k xs, v = .r k ∧ st.length ≤ k ∧ st'[k]? = some (.lst xs) ∧ x = .lst xs) ∧ Q (.d x) st) : Ok (fin st r) Q :=
  ok_fin (ps := []) (h.mono fun v st' ⟨hs, x, hv, q⟩ => ⟨hs, (fun i hi => absurd hi (by simp)), x, hv, by
    rw [hs.take.eq (by rw [List.length_take]; have := hs.1; omega)]
    exact q⟩)
theorem ok_fino_non {st : Store} {r : Res Vl} {Q : Vl → Store → Prop} (h : Ok r fun v st' => Stand [] st st' ∧ v = .d .non ∧ Q (.d .non) st) : Ok (fino st r) Q := by
  obtain ⟨v, st', rfl, hs, rfl, q⟩ := h.eq
  have hf : FinOk st st' := finOk_of hs fun i hi => absurd hi (by simp)
  unfold fino
  simp only [hf, if_true]
  rw [hs.take.eq (by rw [List.length_take]; have := hs.1; omega)]
  exact .ok q
/-! ### loops -/
theorem ok_for {X : Nat → List D → Store → Prop} {f : Env → Store → Res Fl} {t : Tg} {Q : Fl → Store → Prop} {xs : List Vl} {ρ : Env} {st : Store} (J : Nat → Env → Store → Prop) (h0 : J 0 ρ st)
    (step : ∀ (i : Nat) x ρ st, xs[i]? = some x → J i ρ st → ∃ ρ', put t x ρ = some ρ' ∧ OkX X (f ρ' st) fun fl st' => match fl with
      | .next ρ2 => J (i + 1) ρ2 st'
      | .ret v => Q (.ret v) st') (done : ∀ ρ st, J xs.length ρ st → Q (.next ρ) st) : OkX X (forL f t xs ρ st) Q := by
  induction xs generalizing ρ st J with
  | nil => exact .ok (done ρ st h0)
  | cons x xs ih =>
    obtain ⟨ρ', e, h⟩ := step 0 x ρ st rfl h0
    unfold forL
    simp only [e, ok_bind]
    refine h.mono fun fl st' q => ?_
    cases fl with
    | next ρ2 => exact ih (fun i => J (i + 1)) q (fun i x ρ st hx hJ => step (i + 1) x ρ st (by simpa using hx) hJ) done
    | ret v => exact .ok q
/-- a comprehension: each turn's result is told of by P -/
theorem ok_comp {f : Env → Store → Res (Option D)} {t : Tg} {ρ : Env} {Q : List D → Store → Prop} {xs : List Vl} {st : Store} (J : Nat → List D → Store → Prop) (h0 : J 0 [] st)
    (step : ∀ (i : Nat) x acc st, xs[i]? = some x → J i acc st → ∃ ρ', put t x ρ = some ρ' ∧ Ok (f ρ' st) fun y st' => J (i + 1) (match y with | some y => acc ++ [y] | none => acc) st')
    (done : ∀ ys st, J xs.length ys st → Q ys st) : Ok (compL f t ρ xs st) Q := by
  have key : ∀ (xs : List Vl) (acc : List D) (st : Store) (J : Nat → List D → Store → Prop) (Q : List D → Store → Prop), J 0 acc st →
      (∀ (i : Nat) x acc st, xs[i]? = some x → J i acc st → ∃ ρ', put t x ρ = some ρ' ∧ Ok (f ρ' st) fun y st' => J (i + 1) (match y with | some y => acc ++ [y] | none => acc) st') →
      (∀ ys st, J xs.length ys st → Q ys st) → Ok (compL f t ρ xs st) fun ys st' => Q (acc ++ ys) st' := by
    intro xs
    induction xs with
    | nil =>
      intro acc st J Q h0 step done
      refine .ok ?_
      show Q (acc ++ []) st
      rw [List.append_nil]
      exact done acc st h0
    | cons x xs ih =>
      intro acc st J Q h0 step done
      obtain ⟨ρ', e, h⟩ := step 0 x acc st rfl h0
      unfold compL
      simp only [e, ok_bind]
      refine h.mono fun y st' q => ?_
      refine (ih _ st' (fun i => J (i + 1)) Q q (fun i x acc st hx hJ => step (i + 1) x acc st (by simpa using hx) hJ) done).mono fun ys st2 q2 => ?_
      cases y with
      | none => exact .ok q2
      | some y =>
        refine .ok ?_
        show Q (acc ++ (y :: ys)) st2
        have q2 : Q (acc ++ [y] ++ ys) st2 := q2
        rw [List.append_assoc] at q2
        exact q2
  exact (key xs [] st J Q h0 step done).mono fun ys st' q => q
/-- n turns without a test: length, and each one's place -/
theorem ok_comp1 {f : Env → Store → Res (Option D)} {t : Tg} {ρ : Env} {Q : List D → Store → Prop} {xs : List Vl} {st : Store} (J : Store → Prop) (P : Nat → D → Prop) (h0 : J st)
    (step : ∀ (i : Nat) x st, xs[i]? = some x → J st → ∃ ρ', put t x ρ = some ρ' ∧ Ok (f ρ' st) fun y st' => J st' ∧ ∃ d, y = some d ∧ P i d)
    (done : ∀ ys st, J st → ys.length = xs.length → (∀ (i : Nat) d, ys[i]? = some d → P i d) → Q ys st) : Ok (compL f t ρ xs st) Q := by
  refine ok_comp (fun i acc st => J st ∧ acc.length = i ∧ ∀ (j : Nat) d, acc[j]? = some d → P j d) ⟨h0, rfl, fun j d h => by simp at h⟩ (fun i x acc st hx ⟨hJ, hl, hP⟩ => ?_) fun ys st ⟨hJ, hl, hP⟩ => done ys st hJ hl hP
  obtain ⟨ρ', e, h⟩ := step i x st hx hJ
  refine ⟨ρ', e, h.mono fun y st' ⟨hJ', d, ey, hd⟩ => ?_⟩
  subst ey
  refine ⟨hJ', by rw [List.length_append, List.length_singleton, hl], fun j d' q => ?_⟩
  by_cases hj : j < acc.length
  · rw [List.getElem?_append_left hj] at q
    exact hP j d' q
  · rw [List.getElem?_append_right (by omega)] at q
    have : j - acc.length = 0 := by
      have := (List.getElem?_eq_some_iff.mp q).1
      simp at this
      omega
    rw [this] at q
    cases q
    have : j = i := by omega
    rw [this]
    exact hd
theorem orc_succ (T : List Fn) (n k : Nat) (vs : List Vl) (st : Store) (f : Fn) (e : T[k]? = some f) (hl : vs.length = f.np) : orc T (n + 1) k vs st = (evSs (orc T n) f.body (start f vs) st).bind fun fl st1 => match fl with
    | .ret v => .ok v st1
    | .next _ => .ok (.d .non) st1 := by
  unfold orc
  rw [e]
  simp only [runF, hl, if_true]
  all_goals rfl
def flV : Fl → Vl
  | .ret v => v
  | .next _ => .d .non
@[simp] theorem flV_ret (v : Vl) : flV (.ret v) = v := rfl
@[simp] theorem flV_next (ρ : Env) : flV (.next ρ) = .d .non := rfl
/-- a def is entered -/
theorem ok_orc {X : Nat → List D → Store → Prop} {T : List Fn} {n k : Nat} {vs : List Vl} {st : Store} {f : Fn} {ρ : Env} {Q : Vl → Store → Prop} (e : T[k]? = some f) (hl : vs.length = f.np) (hs : start f vs = ρ) (h : OkX X (evSs (orc T n) f.body ρ st) fun fl st1 => Q (flV fl) st1) : OkX X (orc T (n + 1) k vs st) Q := by
  rw [orc_succ T n k vs st f e hl, ok_bind, hs]
  refine h.mono fun fl st1 q => ?_
  cases fl <;> exact .ok q
/-- a def that raises -/
theorem finX_eq {T : List Fn} {n k : Nat} {vs : List Vl} {st : Store} {f : Fn} {ρ : Env} {c : Nat} {fs : List D} (e : T[k]? = some f) (hl : vs.length = f.np) (hs : start f vs = ρ)
    (h : OkX (fun c' fs' st1 => c' = c ∧ fs' = fs ∧ Stand [] st st1) (evSs (orc T n) f.body ρ st) fun _ _ => False) : fin st (orc T (n + 1) k vs st) = .exc c fs st := by
  have h2 := ok_orc (X := fun c' fs' st1 => c' = c ∧ fs' = fs ∧ Stand [] st st1) (Q := fun _ _ => False) e hl hs h
  revert h2
  generalize orc T (n + 1) k vs st = r
  intro h2
  cases h2 with
  | ok h => exact h.elim
  | exc h =>
    rename_i c' fs' st1
    obtain ⟨rfl, rfl, s1⟩ := h
    have hf : FinOk st st1 := fun i hi => .inl (s1.2 i hi (by simp))
    unfold fin
    simp only [hf, if_true]
    rw [s1.take.eq (by rw [List.length_take]; have := s1.1; omega)]
theorem eq_of_ok {r : Res Vl} {a : Vl} {s : Store} (h : Ok r fun v st' => v = a ∧ st' = s) : r = .ok a s := by
  obtain ⟨v, st', e, rfl, rfl⟩ := h.eq
  exact e
theorem ok_of_eq {X : Nat → List D → Store → Prop} {α : Type} {r : Res α} {a : α} {s : Store} {Q : α → Store → Prop} (h : r = .ok a s) (q : Q a s) : OkX X r Q := by
  rw [h]
  exact .ok q
/-- a def that gives data and leaves all as it was -/
theorem fin_eq {T : List Fn} {n k : Nat} {vs : List Vl} {st : Store} {f : Fn} {ρ : Env} {x : D} (e : T[k]? = some f) (hl : vs.length = f.np) (hs : start f vs = ρ)
    (h : Ok (evSs (orc T n) f.body ρ st) fun fl st1 => flV fl = .d x ∧ Stand [] st st1) : fin st (orc T (n + 1) k vs st) = .ok (.d x) st :=
  eq_of_ok (ok_fin0 (ok_orc e hl hs (h.mono fun fl st1 ⟨h1, h2⟩ => ⟨h2, x, .inl h1, rfl, rfl⟩)))
@[simp] theorem stand_self (ps : List Nat) (st : Store) : Stand ps st st = True := eq_true (Stand.refl ps st)
@[simp] theorem two_d {α : Type} (st : Store) (x y : D) (f : D → D → Res α) : two st (.d x) (.d y) f = f x y := rfl
@[simp] theorem one_d {α : Type} (st : Store) (x : D) (f : D → Res α) : one st (.d x) f = f x := rfl
@[simp] theorem isiV_d (st : Store) (x : D) (t : Ty) : isiV st (.d x) t = isiD x t := rfl
theorem len_fin {st : Store} {r : Res Vl} {v : Vl} {st' : Store} (h : fin st r = .ok v st') (hl : ∀ v st'', r = .ok v st'' → st.length ≤ st''.length) : st'.length = st.length := by
  cases r with
  | bad => cases h
  | exc c fs s =>
    unfold fin at h
    dsimp only at h
    split at h <;> cases h
  | ok w s =>
    have := hl w s rfl
    unfold fin at h
    cases w with
    | d d =>
      dsimp only at h
      split at h
      · cases h
        rw [List.length_take]
        omega
      · cases h
    | r k =>
      dsimp only at h
      split at h
      · split at h
        · cases h
          rw [List.length_take]
          omega
        · split at h
          · cases h
            rw [List.length_take]
            omega
          · cases h
      · cases h

/-! ### the steps, told by what is wanted behind them -/
section
variable (C : Oracle) (ρ : Env) (st : Store) {X : Nat → List D → Store → Prop}
def Cont (X : Nat → List D → Store → Prop) (r : Ss) (Q : Fl → Store → Prop) : Fl → Store → Prop
  | .next ρ, st => OkX X (evSs C r ρ st) Q
  | .ret v, st => Q (.ret v) st
@[simp] theorem cont_next (r : Ss) (Q : Fl → Store → Prop) : Cont C X r Q (.next ρ) st = OkX X (evSs C r ρ st) Q := rfl
@[simp] theorem cont_ret (r : Ss) (Q : Fl → Store → Prop) (v : Vl) : Cont C X r Q (.ret v) st = Q (.ret v) st := rfl
variable {Q : Fl → Store → Prop} {R : Vl → Store → Prop}
@[simp ↓] theorem wp_nil : OkX X (evSs C .nil ρ st) Q = Q (.next ρ) st := ok_ok _ _ _
@[simp ↓] theorem wp_cons (s : S) (r : Ss) : OkX X (evSs C (.cons s r) ρ st) Q = OkX X (evS C s ρ st) (Cont C X r Q) := by
  show OkX X ((evS C s ρ st).bind _) Q = _
  rw [ok_bind]
  cases evS C s ρ st with
  | ok fl st1 => cases fl <;> simp only [ok_ok, Cont]
  | exc _ _ _ => simp only [ok_exc]
  | bad => simp only [ok_bad]
@[simp ↓] theorem wp_set (i : Nat) (e : E) : OkX X (evS C (.set i e) ρ st) Q = OkX X (evE C e ρ st) fun v st1 => Q (.next (ρ.set i (some v))) st1 := by
  simp only [evS, ok_bind, ok_ok]
@[simp ↓] theorem wp_ret (e : E) : OkX X (evS C (.ret e) ρ st) Q = OkX X (evE C e ρ st) fun v st1 => Q (.ret v) st1 := by
  simp only [evS, ok_bind, ok_ok]
@[simp ↓] theorem wp_retN : OkX X (evS C .retN ρ st) Q = Q (.ret (.d .non)) st := by
  simp only [evS, ok_ok]
@[simp ↓] theorem wp_pass : OkX X (evS C .pass ρ st) Q = Q (.next ρ) st := by
  simp only [evS, ok_ok]
@[simp ↓] theorem wp_ex (e : E) : OkX X (evS C (.ex e) ρ st) Q = OkX X (evE C e ρ st) fun _ st1 => Q (.next ρ) st1 := by
  simp only [evS, ok_bind, ok_ok]
@[simp ↓] theorem wp_ite (c : E) (a b : Ss) : OkX X (evS C (.ite c a b) ρ st) Q = OkX X (evE C c ρ st) fun v st1 => ∃ t, tr v = some t ∧ if t = true then OkX X (evSs C a ρ st1) Q else OkX X (evSs C b ρ st1) Q := by
  simp only [evS, ok_test, ok_ite]
@[simp ↓] theorem wp_for (t : Tg) (it : It) (b : Ss) : OkX X (evS C (.for t it b) ρ st) Q = OkX X (evI C it ρ st) fun xs st1 => OkX X (forL (fun ρ' st' => evSs C b ρ' st') t xs ρ st1) Q := by
  simp only [evS, ok_bind]
@[simp ↓] theorem wp_whl (c : E) (b : Ss) : OkX X (evS C (.whl c b) ρ st) Q = OkX X (whlL (fun ρ' st' => (evE C c ρ' st').test fun b s => .ok b s) (fun ρ' st' => evSs C b ρ' st') whlFuel ρ st) Q := by
  simp only [evS]
@[simp ↓] theorem wp_setT (is : List Nat) (e : E) : OkX X (evS C (.setT is e) ρ st) Q = OkX X (evE C e ρ st) fun v st1 => ∃ ρ', put (.names is) v ρ = some ρ' ∧ Q (.next ρ') st1 := by
  simp only [evS, ok_bind]
  congr
  funext v st1
  cases put (.names is) v ρ <;> simp
@[simp ↓] theorem wp_setP (is : List Nat) (es : Es) : OkX X (evS C (.setP is es) ρ st) Q = OkX X (evEs C es ρ st) fun vs st1 => vs.length ≤ sizeLine ∧ ∃ ρ', putN is vs ρ = some ρ' ∧ Q (.next ρ') st1 := by
  simp only [evS, ok_bind]
  congr
  funext v st1
  split
  · rename_i h
    cases putN is v ρ <;> simp [h]
  · rename_i h
    simp [h]
@[simp ↓] theorem wp_aug (i : Nat) (e : E) : OkX X (evS C (.aug i e) ρ st) Q = ∃ x, ρ[i]? = some (some (.d (.int x))) ∧ OkX X (evE C e ρ st) fun v st1 => ∃ y, v = .d (.int y) ∧ Q (.next (ρ.set i (some (.d (.int (x + y)))))) st1 := by
  simp only [evS]
  split
  · rename_i x h
    simp only [ok_bind, h, Option.some.injEq, Vl.d.injEq, D.int.injEq, exists_eq_left']
    congr
    funext v st1
    split
    · simp
    · rename_i h
      simp only [ok_bad]
      refine (eq_false ?_).symm
      rintro ⟨y, rfl, _⟩
      exact h y rfl
  · rename_i h
    simp only [ok_bad]
    refine (eq_false ?_).symm
    rintro ⟨x, e, _⟩
    exact h x e
@[simp ↓] theorem wp_seti (a i v : E) : OkX X (evS C (.seti a i v) ρ st) Q = OkX X (evE C v ρ st) fun x st1 => OkX X (evE C a ρ st1) fun o st2 => OkX X (evE C i ρ st2) fun k st3 =>
    ∃ d n j xs ys, x = .d d ∧ o = .r n ∧ k = .d (.int j) ∧ st3[n]? = some (.lst xs) ∧ setIx xs j d = some ys ∧ Q (.next ρ) (st3.set n (.lst ys)) := by
  simp only [evS, ok_bind]
  congr
  funext x st1
  congr
  funext o st2
  congr
  funext k st3
  split
  · rename_i d n j
    split
    · rename_i xs h
      split
      · rename_i ys e
        simp [h, e]
      · rename_i e
        simp [h, e]
    · rename_i h
      simp only [ok_bad]
      refine (eq_false ?_).symm
      rintro ⟨d, n, j, xs, ys, e1, e2, e3, e4, _⟩
      cases e2
      exact h xs e4
  · rename_i h
    simp only [ok_bad]
    refine (eq_false ?_).symm
    rintro ⟨d, n, j, xs, ys, e1, e2, e3, e4, _⟩
    exact h d n j e1 e2 e3
@[simp ↓] theorem wp_app (a v : E) : OkX X (evS C (.app a v) ρ st) Q = OkX X (evE C a ρ st) fun o st1 => isLst st1 o = true ∧ OkX X (evE C v ρ st1) fun x st2 =>
    ∃ d n xs, x = .d d ∧ o = .r n ∧ st2[n]? = some (.lst xs) ∧ xs.length < sizeLine ∧ Q (.next ρ) (st2.set n (.lst (xs ++ [d]))) := by
  simp only [evS, ok_bind]
  congr
  funext o st1
  cases hl : isLst st1 o with
  | false => simp
  | true =>
    simp only [Bool.not_true, Bool.false_eq_true, if_false, ok_bind, true_and]
    congr
    funext x st2
    split
    · rename_i n d
      split
      · rename_i xs h
        split
        · rename_i e
          simp [h, e]
        · rename_i e
          simp [h, e]
      · rename_i h
        simp only [ok_bad]
        refine (eq_false ?_).symm
        rintro ⟨d, n, xs, e1, e2, e4, _⟩
        cases e2
        exact h xs e4
    · rename_i h
      simp only [ok_bad]
      refine (eq_false ?_).symm
      rintro ⟨d, n, xs, e1, e2, e4, _⟩
      exact h n d e2 e1
@[simp ↓] theorem wp_ext (a v : E) : OkX X (evS C (.ext a v) ρ st) Q = OkX X (evE C a ρ st) fun o st1 => isLst st1 o = true ∧ OkX X (evE C v ρ st1) fun x st2 =>
    ∃ ds n xs, x = .d (.lst ds) ∧ o = .r n ∧ st2[n]? = some (.lst xs) ∧ xs.length + ds.length ≤ sizeLine ∧ Q (.next ρ) (st2.set n (.lst (xs ++ ds))) := by
  simp only [evS, ok_bind]
  congr
  funext o st1
  cases hl : isLst st1 o with
  | false => simp
  | true =>
    simp only [Bool.not_true, Bool.false_eq_true, if_false, ok_bind, true_and]
    congr
    funext x st2
    split
    · rename_i n d
      split
      · rename_i xs h
        split
        · rename_i e
          simp [h, e]
        · rename_i e
          simp [h, e]
      · rename_i h
        simp only [ok_bad]
        refine (eq_false ?_).symm
        rintro ⟨d, n, xs, e1, e2, e4, _⟩
        cases e2
        exact h xs e4
    · rename_i h
      simp only [ok_bad]
      refine (eq_false ?_).symm
      rintro ⟨d, n, xs, e1, e2, e4, _⟩
      exact h n d e2 e1
/-! expressions -/
@[simp] theorem ok_rD (o : Option D) : OkX X (rD st o) R = ∃ d, o = some d ∧ R (.d d) st := by
  cases o <;> simp
@[simp] theorem ok_rB (o : Option Bool) : OkX X (rB st o) R = ∃ b, o = some b ∧ R (.d (.bl b)) st := by
  cases o <;> simp
@[simp ↓] theorem wp_var (i : Nat) : OkX X (evE C (.var i) ρ st) R = match ρ[i]? with
    | some (some v) => R v st
    | _ => False := by
  simp only [evE]
  split <;> simp_all
@[simp ↓] theorem wp_con (x : D) : OkX X (evE C (.con x) ρ st) R = R (.d x) st := by
  simp only [evE, ok_ok]
@[simp ↓] theorem wp_glb (x : Str) (v : D) : OkX X (evE C (.glb x v) ρ st) R = R (.d v) st := by
  simp only [evE, ok_ok]
@[simp ↓] theorem wp_op (o : Bop) (a b : E) : OkX X (evE C (.op o a b) ρ st) R = OkX X (evE C a ρ st) fun x st1 => OkX X (evE C b ρ st1) fun y st2 => OkX X (two st2 x y fun d e => rD st2 (opD o d e)) R := by
  simp only [evE, ok_bind]
@[simp ↓] theorem wp_cmp (o : Cop) (a b : E) : OkX X (evE C (.cmp o a b) ρ st) R = OkX X (evE C a ρ st) fun x st1 => OkX X (evE C b ρ st1) fun y st2 => OkX X (two st2 x y fun d e => rB st2 (cmpD o d e)) R := by
  simp only [evE, ok_bind]
@[simp ↓] theorem wp_cmp2 (o p : Cop) (a b c : E) : OkX X (evE C (.cmp2 o p a b c) ρ st) R = OkX X (evE C a ρ st) fun x st1 => OkX X (evE C b ρ st1) fun y st2 => ∃ d e t, dr st2 x = some d ∧ dr st2 y = some e ∧ cmpD o d e = some t ∧
    if t = true then OkX X (evE C c ρ st2) (fun z st3 => OkX X (two st3 y z fun d e => rB st3 (cmpD p d e)) R) else R (.d (.bl false)) st2 := by
  simp only [evE, ok_bind]
  congr
  funext x st1
  congr
  funext y st2
  unfold two
  cases hx : dr st2 x <;> cases hy : dr st2 y <;> simp
  rename_i d e
  cases cmpD o d e with
  | none => simp
  | some t => cases t <;> simp
@[simp] theorem dr_d (x : D) : dr st (.d x) = some x := rfl
@[simp ↓] theorem wp_isN (a : E) : OkX X (evE C (.isN a) ρ st) R = OkX X (evE C a ρ st) fun x st1 => R (.d (.bl (isNon x))) st1 := by
  simp only [evE, ok_bind, ok_ok]
@[simp ↓] theorem wp_notN (a : E) : OkX X (evE C (.notN a) ρ st) R = OkX X (evE C a ρ st) fun x st1 => R (.d (.bl (!isNon x))) st1 := by
  simp only [evE, ok_bind, ok_ok]
@[simp ↓] theorem wp_neg (a : E) : OkX X (evE C (.neg a) ρ st) R = OkX X (evE C a ρ st) fun x st1 => ∃ i, x = .d (.int i) ∧ R (.d (.int (-i))) st1 := by
  simp only [evE, ok_bind]
  congr
  funext x st1
  split
  · simp
  · rename_i h
    refine (ok_bad _).trans (eq_false ?_).symm
    rintro ⟨i, e, _⟩
    exact h i e
@[simp ↓] theorem wp_not (a : E) : OkX X (evE C (.not a) ρ st) R = OkX X (evE C a ρ st) fun v st1 => ∃ b, tr v = some b ∧ R (.d (.bl (!b))) st1 := by
  simp only [evE, ok_test, ok_ok]
@[simp ↓] theorem wp_and (a b : E) : OkX X (evE C (.and a b) ρ st) R = OkX X (evE C a ρ st) fun v st1 => ∃ t, tr v = some t ∧ if t = true then OkX X (evE C b ρ st1) R else R (.d (.bl false)) st1 := by
  simp only [evE, ok_test, ok_ite, ok_ok]
@[simp ↓] theorem wp_or (a b : E) : OkX X (evE C (.or a b) ρ st) R = OkX X (evE C a ρ st) fun v st1 => ∃ t, tr v = some t ∧ if t = true then R (.d (.bl true)) st1 else OkX X (evE C b ρ st1) R := by
  simp only [evE, ok_test, ok_ite, ok_ok]
@[simp ↓] theorem wp_iteE (c a b : E) : OkX X (evE C (.ite c a b) ρ st) R = OkX X (evE C c ρ st) fun v st1 => ∃ t, tr v = some t ∧ if t = true then OkX X (evE C a ρ st1) R else OkX X (evE C b ρ st1) R := by
  simp only [evE, ok_test, ok_ite]
@[simp ↓] theorem wp_tup (es : Es) : OkX X (evE C (.tup es) ρ st) R = OkX X (evDs C es ρ st) fun xs st1 => xs.length ≤ sizeLine ∧ R (.d (.tup xs)) st1 := by
  simp only [evE, ok_bind]
  congr
  funext x st1
  split
  · rename_i h
    simp only [h, true_and, ok_ok]
  · rename_i h
    simp only [h, false_and, ok_bad]
@[simp ↓] theorem wp_lst (o : Bool) (es : Es) : OkX X (evE C (.lst o es) ρ st) R = OkX X (evDs C es ρ st) fun xs st1 => xs.length ≤ sizeLine ∧ OkX X (mk o xs st1) R := by
  simp only [evE, ok_bind]
  congr
  funext x st1
  split
  · rename_i h
    simp only [h, true_and, ok_ok]
  · rename_i h
    simp only [h, false_and, ok_bad]
@[simp] theorem ok_mkT (xs : List D) : OkX X (mk true xs st) R = R (.r st.length) (st ++ [.lst xs]) := ok_ok _ _ _
@[simp] theorem ok_mkF (xs : List D) : OkX X (mk false xs st) R = R (.d (.lst xs)) st := ok_ok _ _ _
@[simp ↓] theorem wp_idx (a i : E) : OkX X (evE C (.idx a i) ρ st) R = OkX X (evE C a ρ st) fun x st1 => OkX X (evE C i ρ st1) fun y st2 => ∃ d k v, dr st2 x = some d ∧ y = .d (.int k) ∧ idxD d k = some v ∧ R (.d v) st2 := by
  simp only [evE, ok_bind]
  congr
  funext x st1
  congr
  funext y st2
  unfold two
  cases y with
  | r n =>
    cases hx : dr st2 x <;> cases hy : dr st2 (.r n) <;> simp
    rename_i d e
    unfold dr at hy
    dsimp only at hy
    split at hy
    · cases hy
      simp
    · cases hy
  | d e =>
    cases hx : dr st2 x with
    | none => simp
    | some d => cases e <;> simp
@[simp ↓] theorem wp_sl (a : E) (lo hi : Eo) : OkX X (evE C (.sl a lo hi) ρ st) R = OkX X (evE C a ρ st) fun x st1 => OkX X (evO C lo ρ st1) fun l st2 => OkX X (evO C hi ρ st2) fun h st3 => OkX X (one st3 x fun d => rD st3 (slD d l h)) R := by
  simp only [evE, ok_bind]
@[simp ↓] theorem wp_b1 (f : B1) (a : E) : OkX X (evE C (.b1 f a) ρ st) R = OkX X (evE C a ρ st) fun x st1 => OkX X (one st1 x fun d => rD st1 (b1D f d)) R := by
  simp only [evE, ok_bind]
@[simp ↓] theorem wp_cpy (a : E) : OkX X (evE C (.cpy a) ρ st) R = OkX X (evE C a ρ st) fun x st1 => ∃ d xs, dr st1 x = some d ∧ items d = some xs ∧ R (.r st1.length) (st1 ++ [.lst xs]) := by
  simp only [evE, ok_bind]
  congr
  funext x st1
  unfold one
  cases dr st1 x with
  | none => simp
  | some d =>
    cases h : items d with
    | none => simp [h]
    | some xs => simp [h]
@[simp ↓] theorem wp_b2 (f : B2) (a b : E) : OkX X (evE C (.b2 f a b) ρ st) R = OkX X (evE C a ρ st) fun x st1 => OkX X (evE C b ρ st1) fun y st2 => OkX X (two st2 x y fun d e => rD st2 (b2D f d e)) R := by
  simp only [evE, ok_bind]
@[simp ↓] theorem wp_isi (a : E) (t : Ty) : OkX X (evE C (.isi a t) ρ st) R = OkX X (evE C a ρ st) fun x st1 => OkX X (rB st1 (isiV st1 x t)) R := by
  simp only [evE, ok_bind]
@[simp ↓] theorem wp_call (k : Nat) (es : Es) : OkX X (evE C (.call k es) ρ st) R = OkX X (evEs C es ρ st) fun vs st1 => OkX X (fin st1 (C k vs st1)) R := by
  simp only [evE, ok_bind]
@[simp ↓] theorem wp_callo (k : Nat) (es : Es) : OkX X (evE C (.callo k es) ρ st) R = OkX X (evEs C es ρ st) fun vs st1 => OkX X (fino st1 (C k vs st1)) R := by
  simp only [evE, ok_bind]
@[simp ↓] theorem wp_fldI (c : Nat) (a : E) (f : Str) : OkX X (evE C (.fldI c a f) ρ st) R = OkX X (evE C a ρ st) fun x st1 => ∃ n fs v, x = .r n ∧ st1[n]? = some (.ins c fs) ∧ fs.lookup f = some v ∧ R v st1 := by
  simp only [evE, ok_bind]
  congr
  funext x st1
  refine propext ⟨fun z => ?_, fun ⟨n, fs, v, e1, e2, e3, r⟩ => ?_⟩
  · split at z
    · rename_i n
      split at z
      · rename_i c' fs ec
        split at z
        · rename_i hc
          subst hc
          split at z
          · rename_i v ev
            exact ⟨n, fs, v, rfl, ec, ev, (ok_ok (X := X) _ _ _).mp z⟩
          · cases z
        · cases z
      · cases z
    · cases z
  · subst e1
    simp only [e2, e3, if_true, ok_ok]
    exact r
@[simp ↓] theorem wp_new (c k : Nat) (es : Es) : OkX X (evE C (.new c k es) ρ st) R = OkX X (evEs C es ρ st) fun vs st1 => OkX X (newR C c k vs st1) R := by
  simp only [evE, ok_bind]
@[simp ↓] theorem wp_methF (c : Nat) (m : Str) (k : Nat) (a : E) (es : Es) : OkX X (evE C (.meth false c m k a es) ρ st) R = OkX X (evE C a ρ st) fun x st1 => isIns c m st1 x = true ∧ OkX X (evEs C es ρ st1) fun vs st2 => OkX X (fin st2 (C k (x :: vs) st2)) R := by
  simp only [evE, ok_bind]
  congr
  funext x st1
  cases h : isIns c m st1 x with
  | true => simp [ok_bind]
  | false => simp
@[simp ↓] theorem wp_methT (c : Nat) (m : Str) (k : Nat) (a : E) (es : Es) : OkX X (evE C (.meth true c m k a es) ρ st) R = OkX X (evE C a ρ st) fun x st1 => isIns c m st1 x = true ∧ OkX X (evEs C es ρ st1) fun vs st2 => OkX X (fino st2 (C k (x :: vs) st2)) R := by
  simp only [evE, ok_bind]
  congr
  funext x st1
  cases h : isIns c m st1 x with
  | true => simp [ok_bind]
  | false => simp
@[simp ↓] theorem wp_setf (c : Nat) (a : E) (f : Str) (v : E) : OkX X (evS C (.setf c a f v) ρ st) Q = OkX X (evE C v ρ st) fun y st1 => OkX X (evE C a ρ st1) fun x st2 => ∃ n fs, x = .r n ∧ st2[n]? = some (.ins c fs) ∧ fs.length < 900 ∧ Q (.next ρ) (st2.set n (.ins c (setF f y fs))) := by
  simp only [evS, ok_bind]
  congr
  funext y st1
  congr
  funext x st2
  refine propext ⟨fun z => ?_, fun ⟨n, fs, e1, e2, h, r⟩ => ?_⟩
  · split at z
    · rename_i n
      split at z
      · rename_i c' fs ec
        split at z
        · rename_i hc
          obtain ⟨hc, hl⟩ := hc
          subst hc
          exact ⟨n, fs, rfl, ec, hl, (ok_ok (X := X) _ _ _).mp z⟩
        · cases z
      · cases z
    · cases z
  · subst e1
    simp only [e2, h, and_self, if_true, ok_ok]
    exact r
@[simp ↓] theorem wp_dct0 : OkX X (evE C .dct0 ρ st) R = R (.d .dct) st := by
  simp only [evE, ok_ok]
@[simp ↓] theorem wp_frz (a : E) : OkX X (evE C (.frz a) ρ st) R = OkX X (evE C a ρ st) fun x st1 => match x with
    | .d d => R (.d d) st1
    | .r n => ∃ xs, st1[n]? = some (.lst xs) ∧ R (.d (.lst xs)) (st1.set n .dead) := by
  simp only [evE, ok_bind]
  congr
  funext x st1
  cases x with
  | d d => exact ok_ok _ _ _
  | r n =>
    dsimp only
    split
    · rename_i xs h
      simp [h]
    · rename_i h
      refine (ok_bad _).trans (eq_false ?_).symm
      rintro ⟨xs, e, _⟩
      exact h xs e
@[simp ↓] theorem wp_comp (o : Bool) (e : E) (t : Tg) (it : It) (c : Eo) (own : List Nat) : OkX X (evE C (.comp o e t it c own) ρ st) R = OkX X (evI C it ρ st) fun xs st1 =>
    Ok (compL (cF (fun ρ' st' => evC C c ρ' st') (fun ρ' st' => evE C e ρ' st')) t (wipe ρ own) xs st1) fun ys st4 => xs.length ≤ sizeLine ∧ OkX X (mk o ys st4) R := by
  simp only [evE, ok_bind, ok_quiet]
  congr
  funext x st1
  congr
  funext y st4
  split
  · rename_i h
    simp only [h, true_and, ok_ok]
  · rename_i h
    simp only [h, false_and, ok_bad]
@[simp ↓] theorem wp_stuckE : OkX X (evE C .stuck ρ st) R = False := ok_bad _
@[simp ↓] theorem wp_rais0 (c : Nat) : OkX X (evS C (.rais c .nil) ρ st) Q = X c [] st := ok_exc _ _ _ _
@[simp ↓] theorem wp_rais2 (c : Nat) (e : E) (es : Es) : OkX X (evS C (.rais c (.cons e es)) ρ st) Q = OkX X (evDs C (.cons e es) ρ st) fun xs st1 => ∃ i j, xs = [.int i, .int j] ∧ X c [.int i, .int j] st1 := by
  simp only [evS, ok_bind]
  congr
  funext xs st1
  have bad : ∀ {r : Res Fl}, r = .bad → (¬ ∃ i j, xs = [.int i, .int j]) → OkX X r Q = ∃ i j, xs = [.int i, .int j] ∧ X c [.int i, .int j] st1 := fun h1 h2 => by
    rw [h1]
    refine (ok_bad _).trans (eq_false ?_).symm
    rintro ⟨i, j, e, _⟩
    exact h2 ⟨i, j, e⟩
  match xs with
  | [] => exact bad rfl (by simp)
  | [.int i, .int j] =>
    refine (ok_exc _ _ _ _).trans (propext ⟨fun h => ⟨i, j, rfl, h⟩, fun h => ?_⟩)
    obtain ⟨i', j', e, h⟩ := h
    cases e
    exact h
  | [x] => exact bad (by cases x <;> rfl) (by simp)
  | x :: y :: z :: r => exact bad (by cases x <;> first | rfl | (cases y <;> rfl)) (by simp)
  | [.non, y] => exact bad rfl (by simp)
  | [.bl _, y] => exact bad rfl (by simp)
  | [.str _, y] => exact bad rfl (by simp)
  | [.tup _, y] => exact bad rfl (by simp)
  | [.lst _, y] => exact bad rfl (by simp)
  | [.kst _, y] => exact bad rfl (by simp)
  | [.dct, y] => exact bad rfl (by simp)
  | [.fn _, y] => exact bad rfl (by simp)
  | [.xc _ _, y] => exact bad rfl (by simp)
  | [.int _, .non] => exact bad rfl (by simp)
  | [.int _, .bl _] => exact bad rfl (by simp)
  | [.int _, .str _] => exact bad rfl (by simp)
  | [.int _, .tup _] => exact bad rfl (by simp)
  | [.int _, .lst _] => exact bad rfl (by simp)
  | [.int _, .kst _] => exact bad rfl (by simp)
  | [.int _, .dct] => exact bad rfl (by simp)
  | [.int _, .fn _] => exact bad rfl (by simp)
  | [.int _, .xc _ _] => exact bad rfl (by simp)
/-- what an except suite makes of an exception -/
def TryX (C : Oracle) (n i : Nat) (hs : Ss) (m : Nat) (Q : Fl → Store → Prop) : Nat → List D → Store → Prop := fun c fs st1 =>
  c < n ∧ ∃ is, dInts fs = some is ∧ Ok (evSs C hs (tryEnv m i c is) []) fun fl _ => ∃ y, fl = .ret (.d y) ∧ noX y = true ∧ Q (.ret (.d y)) st1
@[simp ↓] theorem wp_tryk (n i : Nat) (b hs : Ss) : OkX X (evS C (.tryk n b i hs) ρ st) Q = OkX (TryX C n i hs ρ.length Q) (evSs C b ρ st) Q := by
  simp only [evS]
  cases evSs C b ρ st with
  | ok a st1 => simp only [ok_ok]
  | bad => simp only [ok_bad]
  | exc c fs st1 =>
    simp only [ok_exc, TryX]
    split
    · rename_i lt
      simp only [lt, true_and]
      split
      · rename_i is e
        simp only [e, Option.some.injEq, exists_eq_left']
        split
        · rename_i y st2 e2
          rw [e2]
          simp only [ok_ok]
          cases h : noX y with
          | true => simp [h]
          | false => simp [h]
        · rename_i h
          simp only [ok_bad]
          refine (eq_false fun z => ?_).symm
          obtain ⟨fl, st2, e2, y, rfl, _, _⟩ := z.eq
          exact h y st2 e2
      · rename_i e
        simp [e]
    · rename_i lt
      simp [lt]
@[simp ↓] theorem wp_isx (a : E) (y : Nat) : OkX X (evE C (.isx a y) ρ st) R = OkX X (evE C a ρ st) fun x st1 => ∃ c fs, x = .d (.xc c fs) ∧ R (.d (.bl (c == y || y == 0))) st1 := by
  simp only [evE, ok_bind]
  congr
  funext x st1
  split
  · simp
  · rename_i h
    refine (ok_bad _).trans (eq_false ?_).symm
    rintro ⟨c, fs, e, _⟩
    exact h c fs e
@[simp ↓] theorem wp_isv (a : E) : OkX X (evE C (.isv a) ρ st) R = OkX X (evE C a ρ st) fun x st1 => ∃ c fs, x = .d (.xc c fs) ∧ R (.d (.bl true)) st1 := by
  simp only [evE, ok_bind]
  congr
  funext x st1
  split
  · simp
  · rename_i h
    refine (ok_bad _).trans (eq_false ?_).symm
    rintro ⟨c, fs, e, _⟩
    exact h c fs e
@[simp ↓] theorem wp_fld (a : E) (b : Bool) : OkX X (evE C (.fld a b) ρ st) R = OkX X (evE C a ρ st) fun x st1 => ∃ c i j, x = .d (.xc c [i, j]) ∧ R (.d (.int (if b then i else j))) st1 := by
  simp only [evE, ok_bind]
  congr
  funext x st1
  split
  · rename_i c' i' j'
    refine (ok_ok _ _ _).trans (propext ⟨fun h => ⟨c', i', j', rfl, h⟩, ?_⟩)
    rintro ⟨c, i, j, e, h⟩
    cases e
    exact h
  · rename_i h
    refine (ok_bad _).trans (eq_false ?_).symm
    rintro ⟨c, i, j, e, _⟩
    exact h c i j e
@[simp ↓] theorem wp_callz (k : Nat) (es : Es) : OkX X (evE C (.callz k es) ρ st) R = OkX X (evEs C es ρ st) fun vs st1 => OkX X (callZ C k vs st1) R := by
  simp only [evE, ok_bind]
theorem callz_of {C : Oracle} {k : Nat} {vs : List Vl} {st s : Store} {ds : List D} {x : D} (h : asDs st vs = some ds) (e : fin [] (C k (ds.map .d) []) = .ok (.d x) s) (f : flat x = true) : callZ C k vs st = .ok (.d x) st := by
  unfold callZ
  rw [h]
  simp only [e, f, Bool.true_or, if_true]
theorem callz_ofN {C : Oracle} {k : Nat} {vs : List Vl} {st s : Store} {ds : List D} {x : D} (h : asDs st vs = some ds) (e : fin [] (C k (ds.map .d) []) = .ok (.d x) s) (f : numD x = true) : callZ C k vs st = .ok (.d x) st := by
  unfold callZ
  rw [h]
  simp only [e, f, Bool.or_true, if_true]
@[simp ↓] theorem wp_strI (a : E) : OkX X (evE C (.strI a) ρ st) R = OkX X (evE C a ρ st) fun x st1 => OkX X (one st1 x fun d => rD st1 (strID d)) R := by
  simp only [evE, ok_bind]
@[simp ↓] theorem wp_rep (a : E) : OkX X (evE C (.rep a) ρ st) R = OkX X (evE C a ρ st) fun x st1 => OkX X (one st1 x fun d => rD st1 (reprD d)) R := by
  simp only [evE, ok_bind]
@[simp ↓] theorem wp_join (o a : E) : OkX X (evE C (.join o a) ρ st) R = OkX X (evE C o ρ st) fun x st1 => ∃ s, x = .d (.str s) ∧ OkX X (evE C a ρ st1) fun y st2 => OkX X (one st2 y fun d => rD st2 (joinD s d)) R := by
  simp only [evE, ok_bind]
  congr
  funext x st1
  split
  · simp
  · rename_i h
    refine (ok_bad _).trans (eq_false ?_).symm
    rintro ⟨s, e, _⟩
    exact h s e
@[simp ↓] theorem wp_revt (a : E) : OkX X (evE C (.revt a) ρ st) R = OkX X (evE C a ρ st) fun x st1 => OkX X (one st1 x fun d => rD st1 (revtD d)) R := by
  simp only [evE, ok_bind]
@[simp] theorem revtD_tup (xs : List D) : revtD (.tup xs) = some (.tup xs.reverse) := rfl
@[simp ↓] theorem wp_lens (a : E) : OkX X (evE C (.lens a) ρ st) R = OkX X (evE C a ρ st) fun x st1 => OkX X (one st1 x fun d => rD st1 (lensD d)) R := by
  simp only [evE, ok_bind]
theorem ok_false {α : Type} {Y : Nat → List D → Store → Prop} {Q : α → Store → Prop} {p : Prop} (h : ¬ p) : OkX Y (.bad : Res α) Q = p := (ok_bad _).trans (eq_false h).symm
@[simp ↓] theorem wp_bits (a : E) : OkX X (evE C (.bits a) ρ st) R = OkX X (evE C a ρ st) fun x st1 => ∃ i : Int, x = .d (.int i) ∧ R (.d (.int (Builtin.Int.intBits i : Nat))) st1 := by
  simp only [evE, ok_bind]
  congr
  funext x st1
  split
  · simp
  · rename_i h
    exact ok_false fun ⟨i, e, _⟩ => h i e
@[simp ↓] theorem wp_dnw (ks : List L2.Key) (es : Es) : OkX X (evE C (.dnw ks es) ρ st) R = Ok (evDs C es ρ st) fun xs st1 => xs.length = ks.length ∧ ks.length ≤ 15 ∧ R (.r st1.length) (st1 ++ [.dic (mergeD [] (ks.zip xs))]) := by
  simp only [evE, ok_bind, ok_quiet]
  congr
  funext xs st1
  split
  · rename_i h
    simp [h]
  · rename_i h
    exact ok_false fun ⟨h1, h2, _⟩ => h ⟨h1, h2⟩
@[simp ↓] theorem wp_sortd (o : Bool) (a : E) : OkX X (evE C (.sortd o a) ρ st) R = OkX X (evE C a ρ st) fun x st1 => ∃ n kvs ns, x = .r n ∧ st1[n]? = some (.dic kvs) ∧ keysI kvs = some ns ∧ OkX X (mk o ((sortI ns).map .int) st1) R := by
  simp only [evE, ok_bind]
  congr
  funext x st1
  cases x with
  | d d => exact ok_false fun ⟨n, _, _, e, _⟩ => by cases e
  | r n =>
    dsimp only
    split
    · rename_i kvs h
      split
      · rename_i ns hk
        simp [h, hk]
      · rename_i hk
        refine ok_false fun ⟨n', kvs', ns, e1, e2, e3, _⟩ => ?_
        cases e1
        rw [h] at e2
        cases e2
        rw [hk] at e3
        cases e3
    · rename_i h
      refine ok_false fun ⟨n', kvs', ns, e1, e2, e3, _⟩ => ?_
      cases e1
      exact h kvs' e2
@[simp ↓] theorem wp_dget (d k x : E) : OkX X (evE C (.dget d k x) ρ st) R = OkX X (evE C d ρ st) fun o st1 => isDic st1 o = true ∧ OkX X (evE C k ρ st1) fun kk st2 => OkX X (evE C x ρ st2) fun y st3 =>
    ∃ n k' x' key kvs, o = .r n ∧ kk = .d k' ∧ y = .d x' ∧ dKey k' = some key ∧ st3[n]? = some (.dic kvs) ∧ R (.d ((valD kvs key).getD x')) st3 := by
  simp only [evE, ok_bind]
  congr
  funext o st1
  cases hl : isDic st1 o with
  | false => simp
  | true =>
    simp only [Bool.not_true, Bool.false_eq_true, if_false, ok_bind, true_and]
    congr
    funext kk st2
    congr
    funext y st3
    refine propext ⟨fun z => ?_, fun ⟨n, k', x', key, kvs, e1, e2, e3, e4, e5, r⟩ => ?_⟩
    · split at z
      · rename_i n k' x'
        split at z
        · rename_i key kvs e1 e2
          exact ⟨n, k', x', key, kvs, rfl, rfl, rfl, e1, e2, (ok_ok (X := X) _ _ _).mp z⟩
        · cases z
      · cases z
    · subst e1 e2 e3
      simp only [e4, e5, ok_ok]
      exact r
@[simp ↓] theorem wp_dgetK (kvs : List (Str × Int)) (k x : E) : OkX X (evE C (.dgetK kvs k x) ρ st) R = OkX X (evE C k ρ st) fun kk st2 => OkX X (evE C x ρ st2) fun y st3 =>
    ∃ s x', kk = .d (.str s) ∧ y = .d x' ∧ R (.d (((getS kvs s).map .int).getD x')) st3 := by
  simp only [evE, ok_bind]
  congr
  funext kk st2
  congr
  funext y st3
  split
  · simp
  · rename_i h
    exact ok_false fun ⟨s, x', e1, e2, _⟩ => h s x' e1 e2
@[simp ↓] theorem wp_gin (neg : Bool) (a : E) (x : Str) (kvs : List (Str × Int)) : OkX X (evE C (.gin neg a x kvs) ρ st) R = OkX X (evE C a ρ st) fun y st1 => ∃ s, y = .d (.str s) ∧ R (.d (.bl (neg != (getS kvs s).isSome))) st1 := by
  simp only [evE, ok_bind]
  congr
  funext y st1
  split
  · simp
  · rename_i h
    exact ok_false fun ⟨s, e1, _⟩ => h s e1
@[simp ↓] theorem wp_gix (x : Str) (kvs : List (Str × Int)) (a : E) : OkX X (evE C (.gix x kvs a) ρ st) R = OkX X (evE C a ρ st) fun y st1 => ∃ s i, y = .d (.str s) ∧ getS kvs s = some i ∧ R (.d (.int i)) st1 := by
  simp only [evE, ok_bind]
  congr
  funext y st1
  split
  · rename_i s
    cases h : getS kvs s with
    | none => simp [h]
    | some i => simp [h]
  · rename_i h
    exact ok_false fun ⟨s, _, e1, _⟩ => h s e1
@[simp ↓] theorem wp_minN (es : Es) : OkX X (evE C (.minN es) ρ st) R = OkX X (evEs C es ρ st) fun vs st1 => ∃ a b c d : Int, vs = [.d (.int a), .d (.int b), .d (.int c), .d (.int d)] ∧ R (.d (.int (min (min (min a b) c) d))) st1 := by
  simp only [evE, ok_bind]
  congr
  funext vs st1
  split
  · rename_i a b c d
    exact propext ⟨fun z => ⟨a, b, c, d, rfl, (ok_ok (X := X) _ _ _).mp z⟩, (by rintro ⟨a', b', c', d', e1, z⟩; cases e1; exact (ok_ok (X := X) _ _ _).mpr z)⟩
  · rename_i h
    exact ok_false (by rintro ⟨a, b, c, d, e1, _⟩; exact h a b c d e1)
@[simp ↓] theorem wp_lsd (o : Bool) (a : E) : OkX X (evE C (.lsd o a) ρ st) R = OkX X (evE C a ρ st) fun x st1 => ∃ n kvs ns, x = .r n ∧ st1[n]? = some (.dic kvs) ∧ keysI kvs = some ns ∧ OkX X (mk o (ns.map .int) st1) R := by
  simp only [evE, ok_bind]
  congr
  funext x st1
  cases x with
  | d d => exact ok_false (by rintro ⟨n', kvs, ns, e1, _⟩; cases e1)
  | r n =>
    show OkX X (match st1[n]? with
      | some (.dic kvs) => (match keysI kvs with
        | some ns => mk o (ns.map .int) st1
        | none => .bad)
      | _ => .bad) R = _
    cases e : st1[n]? with
    | none => exact ok_false (by rintro ⟨n', kvs, ns, e1, e2, _⟩; cases e1; rw [e] at e2; cases e2)
    | some c => cases c with
      | dic kvs =>
        show OkX X (match keysI kvs with
          | some ns => mk o (ns.map .int) st1
          | none => .bad) R = _
        cases h : keysI kvs with
        | none => exact ok_false (by rintro ⟨n', kvs', ns, e1, e2, e3, _⟩; cases e1; rw [e] at e2; cases e2; rw [h] at e3; cases e3)
        | some ns => exact propext ⟨fun z => ⟨n, kvs, ns, rfl, e, h, z⟩, (by rintro ⟨n', kvs', ns', e1, e2, e3, z⟩; cases e1; rw [e] at e2; cases e2; rw [h] at e3; cases e3; exact z)⟩
      | _ => exact ok_false (by rintro ⟨n', kvs, ns, e1, e2, _⟩; cases e1; rw [e] at e2; cases e2)
@[simp ↓] theorem wp_emp (a : E) : OkX X (evE C (.emp a) ρ st) R = OkX X (evE C a ρ st) fun x st1 => ∃ n kvs, x = .r n ∧ st1[n]? = some (.dic kvs) ∧ R (.d (.bl kvs.isEmpty)) st1 := by
  simp only [evE, ok_bind]
  congr
  funext x st1
  cases x with
  | d d => exact ok_false (by rintro ⟨n', kvs, e1, _⟩; cases e1)
  | r n =>
    show OkX X (match st1[n]? with
      | some (.dic kvs) => .ok (.d (.bl kvs.isEmpty)) st1
      | _ => .bad) R = _
    cases e : st1[n]? with
    | none => exact ok_false (by rintro ⟨n', kvs, e1, e2, _⟩; cases e1; rw [e] at e2; cases e2)
    | some c => cases c with
      | dic kvs => exact propext ⟨fun z => ⟨n, kvs, rfl, e, (ok_ok (X := X) _ _ _).mp z⟩, (by rintro ⟨n', kvs', e1, e2, z⟩; cases e1; rw [e] at e2; cases e2; exact (ok_ok (X := X) _ _ _).mpr z)⟩
      | _ => exact ok_false (by rintro ⟨n', kvs, e1, e2, _⟩; cases e1; rw [e] at e2; cases e2)
@[simp ↓] theorem wp_splt (o : Bool) (a b : E) : OkX X (evE C (.splt o a b) ρ st) R = OkX X (evE C a ρ st) fun x st1 => ∃ s, x = .d (.str s) ∧ OkX X (evE C b ρ st1) fun y st2 => ∃ t xs, y = .d (.str t) ∧ spltD s t = some xs ∧ OkX X (mk o xs st2) R := by
  simp only [evE, ok_bind]
  congr
  funext x st1
  split
  · rename_i s
    simp only [ok_bind]
    refine (congrArg (OkX X (evE C b ρ st1)) (a₂ := fun y st2 => ∃ t xs, y = .d (.str t) ∧ spltD s t = some xs ∧ OkX X (mk o xs st2) R) (funext fun y => funext fun st2 => ?_)).trans ?_
    · cases y with
      | r n => exact ok_false (by rintro ⟨t', xs, e1, _⟩; cases e1)
      | d d => cases d with
        | str t =>
          cases h : spltD s t with
          | none =>
            simp only [h]
            exact ok_false (by rintro ⟨t', xs, e1, e2, _⟩; cases e1; rw [h] at e2; cases e2)
          | some xs =>
            simp only [h]
            exact propext ⟨fun z => ⟨t, xs, rfl, h, z⟩, (by rintro ⟨t', xs', e1, e2, z⟩; cases e1; rw [h] at e2; cases e2; exact z)⟩
        | _ => exact ok_false (by rintro ⟨t', xs, e1, _⟩; cases e1)
    · exact propext ⟨fun z => ⟨s, rfl, z⟩, (by rintro ⟨s', e1, z⟩; cases e1; exact z)⟩
  · rename_i h
    exact ok_false fun ⟨s, e1, _⟩ => h s e1
@[simp ↓] theorem wp_isB (neg : Bool) (a : E) (b : Bool) : OkX X (evE C (.isB neg a b) ρ st) R = OkX X (evE C a ρ st) fun y st1 => ∃ c, y = .d (.bl c) ∧ R (.d (.bl (neg != decide (c = b)))) st1 := by
  simp only [evE, ok_bind]
  congr
  funext y st1
  split
  · simp
  · rename_i h
    exact ok_false fun ⟨c, e1, _⟩ => h c e1
@[simp ↓] theorem wp_dset (d k v : E) : OkX X (evS C (.dset d k v) ρ st) Q = OkX X (evE C v ρ st) fun x st1 => OkX X (evE C d ρ st1) fun o st2 => OkX X (evE C k ρ st2) fun kk st3 =>
    ∃ x' n k' key kvs, x = .d x' ∧ o = .r n ∧ kk = .d k' ∧ dKey k' = some key ∧ st3[n]? = some (.dic kvs) ∧ kvs.length < sizeLine ∧ Q (.next ρ) (st3.set n (.dic (putD kvs key x'))) := by
  simp only [evS, ok_bind]
  congr
  funext x st1
  congr
  funext o st2
  congr
  funext kk st3
  refine propext ⟨fun z => ?_, fun ⟨x', n, k', key, kvs, e1, e2, e3, e4, e5, h, r⟩ => ?_⟩
  · split at z
    · rename_i x' n k'
      split at z
      · rename_i key kvs e1 e2
        split at z
        · rename_i hz
          exact ⟨x', n, k', key, kvs, rfl, rfl, rfl, e1, e2, hz, (ok_ok (X := X) _ _ _).mp z⟩
        · cases z
      · cases z
    · cases z
  · subst e1 e2 e3
    simp only [e4, e5, h, if_true, ok_ok]
    exact r
@[simp ↓] theorem wp_keys {R : List Vl → Store → Prop} (e : E) : OkX X (evI C (.keys e) ρ st) R = OkX X (evE C e ρ st) fun v st1 => ∃ n kvs ns, v = .r n ∧ st1[n]? = some (.dic kvs) ∧ keysI kvs = some ns ∧ R (vls (ns.map .int)) (st1.set n .dead) := by
  simp only [evI, ok_bind]
  congr
  funext x st1
  cases x with
  | d d => exact ok_false fun ⟨n, _, _, e, _⟩ => by cases e
  | r n =>
    dsimp only
    split
    · rename_i kvs h
      split
      · rename_i ns hk
        simp [h, hk]
      · rename_i hk
        refine ok_false fun ⟨n', kvs', ns, e1, e2, e3, _⟩ => ?_
        cases e1
        rw [h] at e2
        cases e2
        rw [hk] at e3
        cases e3
    · rename_i h
      refine ok_false fun ⟨n', kvs', ns, e1, e2, e3, _⟩ => ?_
      cases e1
      exact h kvs' e2
@[simp ↓] theorem wp_opo (a b : E) : OkX X (evE C (.opo a b) ρ st) R = OkX X (evE C a ρ st) fun x st1 => OkX X (evE C b ρ st1) fun y st2 => ∃ xs ys, dr st2 x = some (.lst xs) ∧ dr st2 y = some (.lst ys) ∧ xs.length + ys.length ≤ sizeLine ∧ R (.r st2.length) (st2 ++ [.lst (xs ++ ys)]) := by
  simp only [evE, ok_bind]
  congr
  funext x st1
  congr
  funext y st2
  unfold two
  cases h1 : dr st2 x with
  | none => simp
  | some d =>
    cases h2 : dr st2 y with
    | none => simp
    | some e =>
      cases d <;> cases e <;> simp [mk]
@[simp ↓] theorem wp_stuckS : OkX X (evS C .stuck ρ st) Q = False := ok_bad _
@[simp ↓] theorem wp_fnv (k : Nat) : OkX X (evE C (.fnv k) ρ st) R = R (.d (.fn k)) st := ok_ok _ _ _
theorem known_ok (k : Nat) (r : Res (List Vl)) : OkX X (known C k (r.quiet.bind fun vs st2 => fin st2 (C k vs st2))) R = Ok r fun vs st2 => OkX X (fin st2 (C k vs st2)) R := by
  unfold known
  split
  · rw [ok_bind, ok_quiet]
  · rename_i h
    refine propext ⟨fun z => (by cases z), fun z => ?_⟩
    obtain ⟨vs, s2, e, z⟩ := z.eq
    refine absurd ⟨vs, s2, fun e2 => ?_⟩ h
    rw [e2] at z
    have z : OkX X .bad R := z
    cases z
@[simp ↓] theorem wp_calle (f : E) (es : Es) : OkX X (evE C (.calle f es) ρ st) R = OkX X (evE C f ρ st) fun x st1 => ∃ k, x = .d (.fn k) ∧ Ok (evEs C es ρ st1) fun vs st2 => OkX X (fin st2 (C k vs st2)) R := by
  simp only [evE, ok_bind]
  congr
  funext x st1
  split
  · rename_i k
    rw [known_ok]
    simp
  · rename_i h
    refine (ok_bad _).trans (eq_false ?_).symm
    rintro ⟨k, e, _⟩
    exact h k e
@[simp ↓] theorem wp_l1 (o : Bool) (f : L1) (a : E) : OkX X (evE C (.l1 o f a) ρ st) R = OkX X (evE C a ρ st) fun x st1 => ∃ d xs, dr st1 x = some d ∧ l1D f d = some xs ∧ OkX X (mk o xs st1) R := by
  simp only [evE, ok_bind]
  congr
  funext x st1
  unfold one
  cases dr st1 x with
  | none => simp
  | some d =>
    cases h : l1D f d with
    | none => simp [h]
    | some xs => simp [h]
@[simp ↓] theorem wp_m1 (f : M1) (a b : E) : OkX X (evE C (.m1 f a b) ρ st) R = OkX X (evE C a ρ st) fun x st1 => m1Q st1 x = true ∧ OkX X (evE C b ρ st1) fun y st2 => OkX X (two st2 x y fun d e => rD st2 (m1D f d e)) R := by
  simp only [evE, ok_bind]
  congr
  funext x st1
  cases h : m1Q st1 x with
  | true => simp [ok_bind]
  | false => simp
@[simp ↓] theorem wp_popi (a i : E) : OkX X (evE C (.popi a i) ρ st) R = OkX X (evE C a ρ st) fun o st1 => isLst st1 o = true ∧ OkX X (evE C i ρ st1) fun k st2 =>
    ∃ (n : Nat) (k' : Int) (xs : List D) (y : D), o = .r n ∧ k = .d (.int k') ∧ st2[n]? = some (.lst xs) ∧ 0 ≤ k' ∧ k' < xs.length ∧ k' < 2 ^ 62 ∧ xs[k'.toNat]? = some y ∧ R (.d y) (st2.set n (.lst (xs.eraseIdx k'.toNat))) := by
  simp only [evE, ok_bind]
  congr
  funext o st1
  cases hl : isLst st1 o with
  | false => simp
  | true =>
    simp only [Bool.not_true, Bool.false_eq_true, if_false, ok_bind, true_and]
    congr
    funext x st2
    refine propext ⟨fun z => ?_, fun ⟨n, k', xs, y, e1, e2, e3, h1, h2, h3, e4, r⟩ => ?_⟩
    · split at z
      · rename_i n k'
        split at z
        · rename_i xs ec
          split at z
          · rename_i hz
            split at z
            · rename_i y ey
              exact ⟨n, k', xs, y, rfl, rfl, ec, hz.1, hz.2.1, hz.2.2, ey, (ok_ok (X := X) _ _ _).mp z⟩
            · cases z
          · cases z
        · cases z
      · cases z
    · subst e1 e2
      simp only [e3, h1, h2, h3, e4, and_self, if_true, ok_ok]
      exact r
@[simp ↓] theorem wp_trange (a : E) : OkX X (evE C (.trange a) ρ st) R = OkX X (evE C a ρ st) fun x st1 => ∃ n : Int, x = .d (.int n) ∧ r62 n = true ∧ n ≤ 100000 ∧ R (.d (.tup (rangeD 0 n.toNat))) st1 := by
  simp only [evE, ok_bind]
  congr
  funext v st1
  split
  · rename_i n
    split
    · rename_i h
      split
      · simp_all
      · simp_all
        intro hh
        omega
    · rename_i h
      simp_all
  · rename_i h
    refine (ok_bad _).trans (eq_false ?_).symm
    rintro ⟨xs, e, _⟩
    exact h xs e
@[simp ↓] theorem wp_trange2 (a b : E) : OkX X (evE C (.trange2 a b) ρ st) R = OkX X (evE C a ρ st) fun x st1 => OkX X (evE C b ρ st1) fun y st2 => ∃ i j : Int, x = .d (.int i) ∧ y = .d (.int j) ∧ r62 i = true ∧ r62 j = true ∧ j - i ≤ 100000 ∧ R (.d (.tup (rangeD i (j - i).toNat))) st2 := by
  simp only [evE, ok_bind]
  congr
  funext v st1
  congr
  funext u st2
  split
  · rename_i i j
    split
    · rename_i h
      split
      · simp_all
      · simp_all
        intro hh
        omega
    · rename_i h
      simp_all
  · rename_i h
    refine (ok_bad _).trans (eq_false ?_).symm
    rintro ⟨i, j, e1, e2, _⟩
    exact h i j e1 e2
@[simp ↓] theorem wp_rev (a : E) : OkX X (evE C (.rev a) ρ st) R = OkX X (evE C a ρ st) fun x st1 => OkX X (one st1 x fun d => rD st1 (revD d)) R := by
  simp only [evE, ok_bind]
@[simp ↓] theorem wp_compr (e : E) (t : Tg) (it : It) (own : List Nat) : OkX X (evE C (.compr e t it own) ρ st) R = OkX X (evI C it ρ st) fun xs st1 =>
    Ok (comprL (fun ρ' st' => evE C e ρ' st') t (wipe ρ own) xs st1) fun ns st4 => xs.length ≤ sizeLine ∧ R (.r st4.length) (st4 ++ [.lsr ns]) := by
  simp only [evE, ok_bind, ok_quiet]
  congr
  funext x st1
  congr
  funext ys st4
  split
  · rename_i h
    simp only [h, true_and, ok_ok]
  · rename_i h
    simp only [h, false_and, ok_bad]
@[simp ↓] theorem wp_idxr (a i : E) : OkX X (evE C (.idxr a i) ρ st) R = OkX X (evE C a ρ st) fun x st1 => OkX X (evE C i ρ st1) fun y st2 =>
    ∃ (n : Nat) (k : Int) (ns : List Nat) (m : Nat), x = .r n ∧ y = .d (.int k) ∧ st2[n]? = some (.lsr ns) ∧ 0 ≤ k ∧ k < ns.length ∧ ns[k.toNat]? = some m ∧ R (.r m) st2 := by
  simp only [evE, ok_bind]
  congr
  funext x st1
  congr
  funext y st2
  refine propext ⟨fun z => ?_, fun ⟨n, k, ns, m, e1, e2, e3, h1, h2, e4, r⟩ => ?_⟩
  · split at z
    · rename_i n k
      split at z
      · rename_i ns ec
        split at z
        · rename_i hz
          split at z
          · rename_i m em
            exact ⟨n, k, ns, m, rfl, rfl, ec, hz.1, hz.2, em, (ok_ok (X := X) _ _ _).mp z⟩
          · cases z
        · cases z
      · cases z
    · cases z
  · subst e1 e2
    simp only [e3, h1, h2, e4, and_self, if_true, ok_ok]
    exact r
@[simp ↓] theorem wp_ins (a i v : E) : OkX X (evS C (.ins a i v) ρ st) Q = OkX X (evE C a ρ st) fun o st1 => isLst st1 o = true ∧ OkX X (evE C i ρ st1) fun k st2 => OkX X (evE C v ρ st2) fun x st3 =>
    ∃ (n : Nat) (k' : Int) (d : D) (xs : List D), o = .r n ∧ k = .d (.int k') ∧ x = .d d ∧ st3[n]? = some (.lst xs) ∧ xs.length < sizeLine ∧ 0 ≤ k' ∧ k' ≤ xs.length ∧ k' < 2 ^ 62 ∧ Q (.next ρ) (st3.set n (.lst (xs.take k'.toNat ++ d :: xs.drop k'.toNat))) := by
  simp only [evS, ok_bind]
  congr
  funext o st1
  cases hl : isLst st1 o with
  | false => simp
  | true =>
    simp only [Bool.not_true, Bool.false_eq_true, if_false, ok_bind, true_and]
    congr
    funext k st2
    congr
    funext x st3
    refine propext ⟨fun z => ?_, fun ⟨n, k', d, xs, e1, e2, e3, e4, h1, h2, h3, h4, r⟩ => ?_⟩
    · split at z
      · rename_i n k' d
        split at z
        · rename_i xs ec
          split at z
          · rename_i hz
            exact ⟨n, k', d, xs, rfl, rfl, rfl, ec, hz.1, hz.2.1, hz.2.2.1, hz.2.2.2, (ok_ok (X := X) _ _ _).mp z⟩
          · cases z
        · cases z
      · cases z
    · subst e1 e2 e3
      simp only [e4, h1, h2, h3, h4, and_self, if_true, ok_ok]
      exact r
@[simp ↓] theorem wp_frzS (i : Nat) (r : Ss) : OkX X (evSs C (.frz i r) ρ st) Q = match ρ[i]? with
    | some (some (.r n)) => (match st[n]? with
      | some (.lst xs) => OkX X (evSs C r (ρ.set i (some (.d (.lst xs)))) (st.set n .dead)) Q
      | _ => OkX X (evSs C r ρ st) Q)
    | _ => OkX X (evSs C r ρ st) Q := by
  simp only [evSs]
  split
  · split <;> simp_all
  · simp_all
@[simp ↓] theorem wp_enil {R : List Vl → Store → Prop} : OkX X (evEs C .nil ρ st) R = R [] st := ok_ok _ _ _
@[simp ↓] theorem wp_econs {R : List Vl → Store → Prop} (e : E) (es : Es) : OkX X (evEs C (.cons e es) ρ st) R = OkX X (evE C e ρ st) fun v st1 => OkX X (evEs C es ρ st1) fun vs st2 => R (v :: vs) st2 := by
  simp only [evEs, ok_bind, ok_ok]
@[simp ↓] theorem wp_dnil {R : List D → Store → Prop} : OkX X (evDs C .nil ρ st) R = R [] st := ok_ok _ _ _
@[simp ↓] theorem wp_dcons {R : List D → Store → Prop} (e : E) (es : Es) : OkX X (evDs C (.cons e es) ρ st) R = OkX X (evE C e ρ st) fun v st1 => ∃ x, v = .d x ∧ OkX X (evDs C es ρ st1) fun xs st2 => R (x :: xs) st2 := by
  simp only [evDs, ok_bind]
  congr
  funext v st1
  cases v <;> simp
@[simp ↓] theorem wp_onone {R : Option Int → Store → Prop} : OkX X (evO C .none ρ st) R = R none st := ok_ok _ _ _
@[simp ↓] theorem wp_osome {R : Option Int → Store → Prop} (e : E) : OkX X (evO C (.some e) ρ st) R = OkX X (evE C e ρ st) fun v st1 => ∃ i, v = .d (.int i) ∧ R (some i) st1 := by
  simp only [evO, ok_bind]
  congr
  funext v st1
  split
  · simp
  · rename_i h
    refine (ok_bad _).trans (eq_false ?_).symm
    rintro ⟨xs, e, _⟩
    exact h xs e
@[simp ↓] theorem wp_cnone {R : Bool → Store → Prop} : OkX X (evC C .none ρ st) R = R true st := ok_ok _ _ _
@[simp ↓] theorem wp_csome {R : Bool → Store → Prop} (e : E) : OkX X (evC C (.some e) ρ st) R = OkX X (evE C e ρ st) fun v st1 => ∃ b, tr v = some b ∧ R b st1 := by
  simp only [evC, ok_test, ok_ok]
@[simp ↓] theorem wp_seq {R : List Vl → Store → Prop} (e : E) : OkX X (evI C (.seq e) ρ st) R = OkX X (evE C e ρ st) fun v st1 => ∃ x xs, v = .d x ∧ itemsS x = some xs ∧ R (vls xs) st1 := by
  simp only [evI, ok_bind]
  congr
  funext v st1
  cases v with
  | r n => simp
  | d x =>
    cases h : itemsS x with
    | none => simp [h]
    | some xs => simp [h]
@[simp ↓] theorem wp_range1 {R : List Vl → Store → Prop} (e : E) : OkX X (evI C (.range1 e) ρ st) R = OkX X (evE C e ρ st) fun v st1 => ∃ n, v = .d (.int n) ∧ r62 n = true ∧ R (vls (rangeD 0 n.toNat)) st1 := by
  simp only [evI, ok_bind]
  congr
  funext v st1
  split
  · split <;> simp_all
  · rename_i h
    refine (ok_bad _).trans (eq_false ?_).symm
    rintro ⟨xs, e, _⟩
    exact h xs e
@[simp ↓] theorem wp_range2 {R : List Vl → Store → Prop} (a b : E) : OkX X (evI C (.range2 a b) ρ st) R = OkX X (evE C a ρ st) fun x st1 => OkX X (evE C b ρ st1) fun y st2 => ∃ i j, x = .d (.int i) ∧ y = .d (.int j) ∧ r62 i = true ∧ r62 j = true ∧ R (vls (rangeD i (j - i).toNat)) st2 := by
  simp only [evI, ok_bind]
  congr
  funext v st1
  congr
  funext v st2
  split
  · split <;> simp_all
  · rename_i h
    refine (ok_bad _).trans (eq_false ?_).symm
    rintro ⟨i, j, e1, e2, _⟩
    exact h i j e1 e2
@[simp ↓] theorem wp_enum {R : List Vl → Store → Prop} (e : E) : OkX X (evI C (.enum e) ρ st) R = OkX X (evE C e ρ st) fun v st1 => ∃ x xs, v = .d x ∧ items x = some xs ∧ R (vls (enumD 0 xs)) st1 := by
  simp only [evI, ok_bind]
  congr
  funext v st1
  cases v with
  | r n => simp
  | d x =>
    cases h : items x with
    | none => simp [h]
    | some xs => simp [h]
@[simp ↓] theorem wp_zip {R : List Vl → Store → Prop} (a b : E) : OkX X (evI C (.zip a b) ρ st) R = OkX X (evE C a ρ st) fun x st1 => OkX X (evE C b ρ st1) fun y st2 => ∃ d e xs, x = .d d ∧ y = .d e ∧ pairs d e = some xs ∧ R (vls xs) st2 := by
  simp only [evI, ok_bind]
  congr
  funext x st1
  congr
  funext y st2
  cases x with
  | r n => simp
  | d d =>
    cases y with
    | r n => simp
    | d e =>
      cases h : pairs d e with
      | none => simp [h]
      | some xs => simp [h]
@[simp ↓] theorem wp_revI {R : List Vl → Store → Prop} (e : E) : OkX X (evI C (.rev e) ρ st) R = OkX X (evE C e ρ st) fun v st1 => ∃ x xs, v = .d x ∧ items x = some xs ∧ R (vls xs.reverse) st1 := by
  simp only [evI, ok_bind]
  congr
  funext v st1
  cases v with
  | r n => simp
  | d x =>
    cases h : items x with
    | none => simp [h]
    | some xs => simp [h]
@[simp ↓] theorem wp_seqr {R : List Vl → Store → Prop} (e : E) : OkX X (evI C (.seqr e) ρ st) R = OkX X (evE C e ρ st) fun v st1 => ∃ n ns, v = .r n ∧ st1[n]? = some (.lsr ns) ∧ R (ns.map .r) (st1.set n .dead) := by
  simp only [evI, ok_bind]
  congr
  funext v st1
  cases v with
  | d n => simp
  | r n =>
    dsimp only
    split
    · rename_i ns h
      simp [h]
    · rename_i h
      refine (ok_bad _).trans (eq_false ?_).symm
      rintro ⟨m, ns, e1, e2, _⟩
      cases e1
      exact h ns e2
@[simp ↓] theorem wp_cF {ec : Env → Store → Res Bool} {ee : Env → Store → Res Vl} {R : Option D → Store → Prop} : OkX X (cF ec ee ρ st) R = OkX X (ec ρ st) fun b st2 => if b = true then OkX X (ee ρ st2) (fun v st3 => ∃ y, v = .d y ∧ R (some y) st3) else R none st2 := by
  unfold cF
  rw [ok_bind]
  congr
  funext b st2
  split
  · rw [ok_bind]
    congr
    funext v st3
    cases v <;> simp
  · exact ok_ok _ _ _
end
theorem vls_get {xs : List D} {i : Nat} {x : Vl} (h : (vls xs)[i]? = some x) : ∃ d, xs[i]? = some d ∧ x = .d d := by
  unfold vls at h
  rw [List.getElem?_map] at h
  cases e : xs[i]? with
  | none => rw [e] at h; cases h
  | some d =>
    rw [e] at h
    cases h
    exact ⟨d, rfl, rfl⟩
theorem range_get {lo : Int} {n i : Nat} {x : Vl} (h : (vls (rangeD lo n))[i]? = some x) : i < n ∧ x = .d (.int (lo + i)) := by
  obtain ⟨d, e, rfl⟩ := vls_get h
  clear h
  unfold rangeD at e
  rw [List.getElem?_map] at e
  by_cases hi : i < n
  · rw [List.getElem?_range hi] at e
    cases e
    exact ⟨hi, rfl⟩
  · rw [List.getElem?_eq_none (by simp; omega)] at e
    cases e
@[simp] theorem vls_len (xs : List D) : (vls xs).length = xs.length := List.length_map ..
@[simp] theorem range_len (lo : Int) (n : Nat) : (rangeD lo n).length = n := by simp [rangeD]
@[simp] theorem put_name (i : Nat) (v : Vl) (ρ : Env) : put (.name i) v ρ = some (ρ.set i (some v)) := rfl
/-- all its truths are told by p -/
theorem dBls_map (p : Nat → Bool) : ∀ (ys : List D) (k : Nat), (∀ (i : Nat) d, ys[i]? = some d → d = .bl (p (k + i))) → dBls ys = some ((List.range' k ys.length).map p)
  | [], _, _ => rfl
  | y :: ys, k, h => by
    have h0 := h 0 y rfl
    subst h0
    have ih := dBls_map p ys (k + 1) fun i d e => by
      rw [show k + 1 + i = k + (i + 1) by omega]
      exact h (i + 1) d (by simpa using e)
    show (dBls ys).map (p k :: ·) = _
    rw [ih]
    simp [List.range'_succ]
/-- [p(x) for x in xs] -/
theorem dBls_of {xs ys : List D} {p : D → Bool} (hl : ys.length = xs.length) (h : ∀ (i : Nat) d, ys[i]? = some d → ∃ x, xs[i]? = some x ∧ d = .bl (p x)) : dBls ys = some (xs.map p) := by
  induction xs generalizing ys with
  | nil =>
    rw [List.eq_nil_of_length_eq_zero hl]
    rfl
  | cons x xs ih =>
    cases ys with
    | nil => cases hl
    | cons y ys =>
      obtain ⟨x', e, rfl⟩ := h 0 y rfl
      cases e
      have := ih (ys := ys) (by simpa using hl) fun i d e => h (i + 1) d (by simpa using e)
      show (dBls ys).map (p x :: ·) = _
      rw [this]
      rfl
theorem atI_zero (xs : List D) : L2.atI xs 0 = xs[0]? := by
  cases xs with
  | nil => rfl
  | cons x xs => exact L2.atI_nat (j := 0) rfl
end Br

/-! Br15: equality of data, and small laws. -/
namespace Br
open PySem
@[simp] theorem eqO_int (i j : Int) : eqO (.int i) (.int j) = some (decide (i = j)) := by
  simp [eqO, eqD, plain, toPy, PyData.eqv, PyData.depth]
  by_cases h : i = j <;> simp [h]
@[simp] theorem eqO_bl (i j : Bool) : eqO (.bl i) (.bl j) = some (decide (i = j)) := by
  cases i <;> cases j <;> simp [eqO, eqD, plain, toPy, PyData.eqv, PyData.depth]
@[simp] theorem eqO_str (i j : Str) : eqO (.str i) (.str j) = some (decide (i = j)) := by
  simp [eqO, eqD, plain, toPy, PyData.eqv, PyData.depth]
  by_cases h : i = j <;> simp [h]
mutual
theorem eqv_refl : ∀ d : D, plain d = true → PyData.eqv (toPy d) (toPy d) = true
  | .non, _ => by simp [toPy, PyData.eqv]
  | .bl b, _ => by cases b <;> simp [toPy, PyData.eqv]
  | .int i, _ => by simp [toPy, PyData.eqv]
  | .str s, _ => by simp [toPy, PyData.eqv]
  | .tup xs, h => by simp [toPy, PyData.eqv, eqvs_refl xs (by simpa [plain] using h)]
  | .lst xs, h => by simp [toPy, PyData.eqv, eqvs_refl xs (by simpa [plain] using h)]
  | .kst xs, h => by simp [toPy, PyData.eqv, eqvs_refl xs (by simpa [plain] using h)]
  | .dct, h => by simp [plain] at h
  | .fn _, _ => by simp [toPy, PyData.eqv]
theorem eqvs_refl : ∀ ds : List D, plains ds = true → PyData.eqvAll (toPys ds) (toPys ds) = true
  | [], _ => by simp [toPys, PyData.eqvAll]
  | d :: ds, h => by
    have h' : plain d = true ∧ plains ds = true := by simpa [plains] using h
    simp [toPys, PyData.eqvAll, eqv_refl d h'.1, eqvs_refl ds h'.2]
end
theorem eqO_refl {d : D} (h : plain d = true) (hd : (toPy d).depth ≤ 150) : eqO d d = some true := by
  simp [eqO, h, hd, eqD, eqv_refl _ h]
@[simp] theorem in01 (i a b : Int) : inO (.int i) [.int a, .int b] = some (decide (a = i) || decide (b = i)) := by
  simp [inO, plain, plains, toPy, toPys, PyData.depth, PyData.depthAll, eqD, PyData.eqv]
  by_cases h : a = i <;> by_cases h' : b = i <;> simp [h, h']
@[simp] theorem cmpD_eq (x y : D) : cmpD .eq x y = eqO x y := rfl
@[simp] theorem cmpD_ne (x y : D) : cmpD .ne x y = (eqO x y).map (!·) := rfl
@[simp] theorem cmpD_lt (i j : Int) : cmpD .lt (.int i) (.int j) = some (decide (i < j)) := rfl
@[simp] theorem cmpD_le (i j : Int) : cmpD .le (.int i) (.int j) = some (decide (i ≤ j)) := rfl
@[simp] theorem cmpD_gt (i j : Int) : cmpD .gt (.int i) (.int j) = some (decide (j < i)) := rfl
@[simp] theorem cmpD_ge (i j : Int) : cmpD .ge (.int i) (.int j) = some (decide (j ≤ i)) := rfl
@[simp] theorem cmpD_inT (x : D) (ys : List D) : cmpD .isin x (.tup ys) = inO x ys := rfl
@[simp] theorem cmpD_inL (x : D) (ys : List D) : cmpD .isin x (.lst ys) = inO x ys := rfl
@[simp] theorem cmpD_inK (x : D) (ys : List D) : cmpD .isin x (.kst ys) = inO x ys := rfl
@[simp] theorem cmpD_niT (x : D) (ys : List D) : cmpD .notin x (.tup ys) = (inO x ys).map (!·) := rfl
@[simp] theorem cmpD_niL (x : D) (ys : List D) : cmpD .notin x (.lst ys) = (inO x ys).map (!·) := rfl
@[simp] theorem cmpD_niK (x : D) (ys : List D) : cmpD .notin x (.kst ys) = (inO x ys).map (!·) := rfl
@[simp] theorem isiD_non (t : Ty) : isiD .non t = some false := rfl
@[simp] theorem isiD_bl (b : Bool) (t : Ty) : isiD (.bl b) t = some (t == .int || t == .bool) := rfl
@[simp] theorem isiD_int (i : Int) (t : Ty) : isiD (.int i) t = some (t == .int) := rfl
@[simp] theorem isiD_str (s : Str) (t : Ty) : isiD (.str s) t = some (t == .str) := rfl
@[simp] theorem isiD_tup (xs : List D) (t : Ty) : isiD (.tup xs) t = some (t == .tuple) := rfl
@[simp] theorem isiD_lst (xs : List D) (t : Ty) : isiD (.lst xs) t = some (t == .list) := rfl
@[simp] theorem isiD_kst (xs : List D) (t : Ty) : isiD (.kst xs) t = some (t == .list) := rfl
@[simp] theorem isiD_dct (t : Ty) : isiD .dct t = some (t == .dict) := rfl
@[simp] theorem len_tup (xs : List D) : b1D .len (.tup xs) = some (.int xs.length) := rfl
@[simp] theorem len_lst (xs : List D) : b1D .len (.lst xs) = some (.int xs.length) := rfl
@[simp] theorem len_kst (xs : List D) : b1D .len (.kst xs) = some (.int xs.length) := rfl
@[simp] theorem int_int (i : Int) : b1D .int (.int i) = some (.int i) := rfl
@[simp] theorem int_bl (b : Bool) : b1D .int (.bl b) = some (.int (if b then 1 else 0)) := rfl
@[simp] theorem all_lst (xs : List D) : b1D .all (.lst xs) = (dBls xs).map fun bs => .bl (bs.all id) := rfl
@[simp] theorem any_lst (xs : List D) : b1D .any (.lst xs) = (dBls xs).map fun bs => .bl (bs.any id) := rfl
@[simp] theorem sum_lst (xs : List D) : b1D .sum (.lst xs) = (dInts xs).map fun ns => .int ns.sum := rfl
@[simp] theorem sum_tup (xs : List D) : b1D .sum (.tup xs) = (dInts xs).map fun ns => .int ns.sum := rfl
@[simp] theorem maxB_lst (xs : List D) : b1D .max (.lst xs) = (dInts xs).bind maxI := rfl
@[simp] theorem maxB_tup (xs : List D) : b1D .max (.tup xs) = (dInts xs).bind maxI := rfl
@[simp] theorem minB_lst (xs : List D) : b1D .min (.lst xs) = (dInts xs).bind minI := rfl
@[simp] theorem minB_tup (xs : List D) : b1D .min (.tup xs) = (dInts xs).bind minI := rfl
@[simp] theorem tuple_lst (xs : List D) : b1D .tuple (.lst xs) = some (.tup xs) := rfl
@[simp] theorem tuple_kst (xs : List D) : b1D .tuple (.kst xs) = some (.tup xs) := rfl
@[simp] theorem tuple_tup (xs : List D) : b1D .tuple (.tup xs) = some (.tup xs) := rfl
@[simp] theorem list_lst (xs : List D) : b1D .list (.lst xs) = some (.lst xs) := rfl
@[simp] theorem list_kst (xs : List D) : b1D .list (.kst xs) = some (.lst xs) := rfl
@[simp] theorem list_tup (xs : List D) : b1D .list (.tup xs) = some (.lst xs) := rfl
@[simp] theorem items_lst (xs : List D) : items (.lst xs) = some xs := rfl
@[simp] theorem items_kst (xs : List D) : items (.kst xs) = some xs := rfl
@[simp] theorem itemsS_lst (xs : List D) : itemsS (.lst xs) = some xs := rfl
@[simp] theorem itemsS_kst (xs : List D) : itemsS (.kst xs) = some xs := rfl
@[simp] theorem itemsS_tup (xs : List D) : itemsS (.tup xs) = some xs := rfl
@[simp] theorem items_tup (xs : List D) : items (.tup xs) = some xs := rfl
@[simp] theorem idx_lst (xs : List D) (i : Int) : idxD (.lst xs) i = L2.atI xs i := rfl
@[simp] theorem idx_kst (xs : List D) (i : Int) : idxD (.kst xs) i = L2.atI xs i := rfl
@[simp] theorem idx_tup (xs : List D) (i : Int) : idxD (.tup xs) i = L2.atI xs i := rfl
@[simp] theorem sl_lst (xs : List D) (a b : Option Int) : slD (.lst xs) a b = some (.lst (cut xs a b)) := rfl
@[simp] theorem sl_kst (xs : List D) (a b : Option Int) : slD (.kst xs) a b = some (.lst (cut xs a b)) := rfl
@[simp] theorem sl_tup (xs : List D) (a b : Option Int) : slD (.tup xs) a b = some (.tup (cut xs a b)) := rfl
@[simp] theorem rev_lst (xs : List D) : revD (.lst xs) = some (.lst xs.reverse) := rfl
@[simp] theorem rev_kst (xs : List D) : revD (.kst xs) = some (.lst xs.reverse) := rfl
@[simp] theorem rev_tup (xs : List D) : revD (.tup xs) = some (.tup xs.reverse) := rfl
@[simp] theorem min_int (i j : Int) : b2D .min (.int i) (.int j) = some (.int (if j < i then j else i)) := rfl
@[simp] theorem max_int (i j : Int) : b2D .max (.int i) (.int j) = some (.int (if j > i then j else i)) := rfl
@[simp] theorem add_int (i j : Int) : opD .add (.int i) (.int j) = some (.int (i + j)) := rfl
@[simp] theorem sub_int (i j : Int) : opD .sub (.int i) (.int j) = some (.int (i - j)) := rfl
@[simp] theorem mul_int (i j : Int) : opD .mul (.int i) (.int j) = if small64 i || small64 j then some (.int (i * j)) else none := rfl
@[simp] theorem fdiv_int (i j : Int) : opD .fdiv (.int i) (.int j) = if 0 < j ∧ j.natAbs.log2 < 9000 then some (.int (i / j)) else none := rfl
@[simp] theorem mod_int (i j : Int) : opD .mod (.int i) (.int j) = if 0 < j then some (.int (i % j)) else none := rfl
@[simp] theorem pow_int (i j : Int) : opD .pow (.int i) (.int j) = if 0 ≤ j ∧ j ≤ 1000000 ∧ i.natAbs < 2 ^ 64 then some (.int (i ^ j.toNat)) else none := rfl
@[simp] theorem add_tup (xs ys : List D) : opD .add (.tup xs) (.tup ys) = if xs.length + ys.length ≤ sizeLine then some (.tup (xs ++ ys)) else none := rfl
@[simp] theorem add_str (a b : Str) : opD .add (.str a) (.str b) = if (PySem.PyData.strOk (a ++ b) && decide ((a ++ b).length ≤ sizeLine)) = true then some (.str (a ++ b)) else none := rfl
@[simp] theorem add_lst (xs ys : List D) : opD .add (.lst xs) (.lst ys) = if xs.length + ys.length ≤ sizeLine then some (.lst (xs ++ ys)) else none := rfl
@[simp] theorem mul_lst (xs : List D) (k : Int) : opD .mul (.lst xs) (.int k) = if 0 ≤ k ∧ k ≤ 1000 ∧ xs.length ≤ 1000 then some (.lst (List.replicate k.toNat xs).flatten) else none := rfl
@[simp] theorem mul_tup (xs : List D) (k : Int) : opD .mul (.tup xs) (.int k) = if -1000 ≤ k ∧ k ≤ 1000 ∧ xs.length ≤ 1000 then some (.tup (List.replicate k.toNat xs).flatten) else none := rfl
@[simp] theorem putN_nil (ρ : Env) : putN [] [] ρ = some ρ := rfl
@[simp] theorem putN_cons (i : Nat) (is : List Nat) (x : Vl) (xs : List Vl) (ρ : Env) : putN (i :: is) (x :: xs) ρ = putN is xs (ρ.set i (some x)) := rfl
theorem size_ok {n : Nat} (h : n ≤ 1000000) : n ≤ sizeLine := Nat.le_trans h (by decide)
theorem size_lt {n : Nat} (h : n < 1000000) : n < sizeLine := Nat.lt_of_lt_of_le h (by decide)
/-- [p(x) for x in xs], nothing else touched -/
theorem ok_map {f : Env → Store → Res (Option D)} {t : Tg} {ρ : Env} {Q : List D → Store → Prop} {xs : List D} {st : Store} (p : D → D)
    (step : ∀ x ∈ xs, ∃ ρ', put t (.d x) ρ = some ρ' ∧ Ok (f ρ' st) fun y st' => y = some (p x) ∧ st' = st) (h : Q (xs.map p) st) : Ok (compL f t ρ (vls xs) st) Q := by
  have key : ∀ (xs : List D), (∀ x ∈ xs, ∃ ρ', put t (.d x) ρ = some ρ' ∧ Ok (f ρ' st) fun y st' => y = some (p x) ∧ st' = st) → compL f t ρ (vls xs) st = .ok (xs.map p) st := by
    intro xs
    induction xs with
    | nil => intro _; rfl
    | cons x xs ih =>
      intro h
      obtain ⟨ρ', e, h1⟩ := h x List.mem_cons_self
      obtain ⟨y, st', e1, rfl, rfl⟩ := h1.eq
      show (match put t (.d x) ρ with
        | none => .bad
        | some ρ' => (f ρ' st').bind fun y st1 => (compL f t ρ (vls xs) st1).bind fun ys st2 => .ok (match y with | some y => y :: ys | none => ys) st2 : Res (List D)) = _
      rw [e]
      simp only [e1, Res.bind_ok]
      rw [ih fun x hx => h x (List.mem_cons_of_mem _ hx)]
      rfl
  rw [key xs step]
  exact .ok h
/-- [p(x) for x in xs if c(x)] -/
theorem ok_filter {f : Env → Store → Res (Option D)} {t : Tg} {ρ : Env} {Q : List D → Store → Prop} {xs : List D} {st : Store} (p : D → Option D)
    (step : ∀ x ∈ xs, ∃ ρ', put t (.d x) ρ = some ρ' ∧ Ok (f ρ' st) fun y st' => y = p x ∧ st' = st) (h : Q (xs.filterMap p) st) : Ok (compL f t ρ (vls xs) st) Q := by
  have key : ∀ (xs : List D), (∀ x ∈ xs, ∃ ρ', put t (.d x) ρ = some ρ' ∧ Ok (f ρ' st) fun y st' => y = p x ∧ st' = st) → compL f t ρ (vls xs) st = .ok (xs.filterMap p) st := by
    intro xs
    induction xs with
    | nil => intro _; rfl
    | cons x xs ih =>
      intro h
      obtain ⟨ρ', e, h1⟩ := h x List.mem_cons_self
      obtain ⟨y, st', e1, rfl, rfl⟩ := h1.eq
      show (match put t (.d x) ρ with
        | none => .bad
        | some ρ' => (f ρ' st').bind fun y st1 => (compL f t ρ (vls xs) st1).bind fun ys st2 => .ok (match y with | some y => y :: ys | none => ys) st2 : Res (List D)) = _
      rw [e]
      simp only [e1, Res.bind_ok]
      rw [ih fun x hx => h x (List.mem_cons_of_mem _ hx)]
      cases hp : p x with
      | none => simp [hp, Res.bind]
      | some y => simp [hp, Res.bind]
  rw [key xs step]
  exact .ok h
@[simp] theorem dBls_bl (xs : List D) (p : D → Bool) : dBls (xs.map fun x => .bl (p x)) = some (xs.map p) := by
  induction xs with
  | nil => rfl
  | cons x xs ih =>
    show (dBls (xs.map fun x => .bl (p x))).map (p x :: ·) = _
    rw [ih]
    rfl
@[simp] theorem dInts_int (xs : List D) (p : D → Int) : dInts (xs.map fun x => .int (p x)) = some (xs.map p) := by
  induction xs with
  | nil => rfl
  | cons x xs ih =>
    show (dInts (xs.map fun x => .int (p x))).map (p x :: ·) = _
    rw [ih]
    rfl
@[simp] theorem wipe_nil (ρ : Env) : wipe ρ [] = ρ := rfl
@[simp] theorem wipe_cons (ρ : Env) (v : Nat) (vs : List Nat) : wipe ρ (v :: vs) = (wipe ρ vs).set v none := rfl
@[simp] theorem le_size_1 : 1 ≤ sizeLine ↔ True := ⟨fun _ => trivial, fun _ => by decide⟩
@[simp] theorem le_size_2 : 2 ≤ sizeLine ↔ True := ⟨fun _ => trivial, fun _ => by decide⟩
@[simp] theorem le_size_3 : 3 ≤ sizeLine ↔ True := ⟨fun _ => trivial, fun _ => by decide⟩
@[simp] theorem le_size_4 : 4 ≤ sizeLine ↔ True := ⟨fun _ => trivial, fun _ => by decide⟩
@[simp] theorem le_size_5 : 5 ≤ sizeLine ↔ True := ⟨fun _ => trivial, fun _ => by decide⟩
@[simp] theorem le_size_6 : 6 ≤ sizeLine ↔ True := ⟨fun _ => trivial, fun _ => by decide⟩
@[simp] theorem le_size_7 : 7 ≤ sizeLine ↔ True := ⟨fun _ => trivial, fun _ => by decide⟩
@[simp] theorem le_size_8 : 8 ≤ sizeLine ↔ True := ⟨fun _ => trivial, fun _ => by decide⟩
@[simp] theorem le_size_9 : 9 ≤ sizeLine ↔ True := ⟨fun _ => trivial, fun _ => by decide⟩
@[simp] theorem le_size_10 : 10 ≤ sizeLine ↔ True := ⟨fun _ => trivial, fun _ => by decide⟩
@[simp] theorem le_size_11 : 11 ≤ sizeLine ↔ True := ⟨fun _ => trivial, fun _ => by decide⟩
@[simp] theorem le_size_12 : 12 ≤ sizeLine ↔ True := ⟨fun _ => trivial, fun _ => by decide⟩
@[simp] theorem le_size_13 : 13 ≤ sizeLine ↔ True := ⟨fun _ => trivial, fun _ => by decide⟩
@[simp] theorem le_size_14 : 14 ≤ sizeLine ↔ True := ⟨fun _ => trivial, fun _ => by decide⟩
@[simp] theorem le_size_15 : 15 ≤ sizeLine ↔ True := ⟨fun _ => trivial, fun _ => by decide⟩
@[simp] theorem le_size_16 : 16 ≤ sizeLine ↔ True := ⟨fun _ => trivial, fun _ => by decide⟩
@[simp] theorem le_size_17 : 17 ≤ sizeLine ↔ True := ⟨fun _ => trivial, fun _ => by decide⟩
@[simp] theorem le_size_18 : 18 ≤ sizeLine ↔ True := ⟨fun _ => trivial, fun _ => by decide⟩
@[simp] theorem le_size_19 : 19 ≤ sizeLine ↔ True := ⟨fun _ => trivial, fun _ => by decide⟩
@[simp] theorem le_size_20 : 20 ≤ sizeLine ↔ True := ⟨fun _ => trivial, fun _ => by decide⟩
@[simp] theorem le_size_21 : 21 ≤ sizeLine ↔ True := ⟨fun _ => trivial, fun _ => by decide⟩
@[simp] theorem le_size_22 : 22 ≤ sizeLine ↔ True := ⟨fun _ => trivial, fun _ => by decide⟩
@[simp] theorem le_size_23 : 23 ≤ sizeLine ↔ True := ⟨fun _ => trivial, fun _ => by decide⟩
@[simp] theorem le_size_24 : 24 ≤ sizeLine ↔ True := ⟨fun _ => trivial, fun _ => by decide⟩
@[simp] theorem le_size_25 : 25 ≤ sizeLine ↔ True := ⟨fun _ => trivial, fun _ => by decide⟩
@[simp] theorem le_size_26 : 26 ≤ sizeLine ↔ True := ⟨fun _ => trivial, fun _ => by decide⟩
@[simp] theorem le_size_27 : 27 ≤ sizeLine ↔ True := ⟨fun _ => trivial, fun _ => by decide⟩
@[simp] theorem le_size_28 : 28 ≤ sizeLine ↔ True := ⟨fun _ => trivial, fun _ => by decide⟩
@[simp] theorem le_size_29 : 29 ≤ sizeLine ↔ True := ⟨fun _ => trivial, fun _ => by decide⟩
@[simp] theorem le_size_30 : 30 ≤ sizeLine ↔ True := ⟨fun _ => trivial, fun _ => by decide⟩
@[simp] theorem pos_size : 0 < sizeLine ↔ True := ⟨fun _ => trivial, fun _ => by decide⟩
theorem atI_pos (xs : List D) {i : Int} (h : 0 ≤ i) : L2.atI xs i = xs[i.toNat]? := by
  unfold L2.atI L2.ixN
  rw [if_pos h]
  split
  · rfl
  · rw [List.getElem?_eq_none (by omega)]
    rfl
@[simp] theorem atI_0 (xs : List D) : L2.atI xs 0 = xs[0]? := atI_pos xs (by decide)
@[simp] theorem atI_1 (xs : List D) : L2.atI xs 1 = xs[1]? := atI_pos xs (by decide)
@[simp] theorem atI_2 (xs : List D) : L2.atI xs 2 = xs[2]? := atI_pos xs (by decide)
@[simp] theorem atI_3 (xs : List D) : L2.atI xs 3 = xs[3]? := atI_pos xs (by decide)
@[simp] theorem atI_4 (xs : List D) : L2.atI xs 4 = xs[4]? := atI_pos xs (by decide)
@[simp] theorem atI_5 (xs : List D) : L2.atI xs 5 = xs[5]? := atI_pos xs (by decide)
@[simp] theorem atI_6 (xs : List D) : L2.atI xs 6 = xs[6]? := atI_pos xs (by decide)
@[simp] theorem atI_7 (xs : List D) : L2.atI xs 7 = xs[7]? := atI_pos xs (by decide)
@[simp] theorem atI_8 (xs : List D) : L2.atI xs 8 = xs[8]? := atI_pos xs (by decide)
@[simp] theorem atI_9 (xs : List D) : L2.atI xs 9 = xs[9]? := atI_pos xs (by decide)
@[simp] theorem atI_10 (xs : List D) : L2.atI xs 10 = xs[10]? := atI_pos xs (by decide)
@[simp] theorem atI_11 (xs : List D) : L2.atI xs 11 = xs[11]? := atI_pos xs (by decide)
@[simp] theorem atI_12 (xs : List D) : L2.atI xs 12 = xs[12]? := atI_pos xs (by decide)
@[simp] theorem atI_13 (xs : List D) : L2.atI xs 13 = xs[13]? := atI_pos xs (by decide)
@[simp] theorem atI_14 (xs : List D) : L2.atI xs 14 = xs[14]? := atI_pos xs (by decide)
@[simp] theorem atI_15 (xs : List D) : L2.atI xs 15 = xs[15]? := atI_pos xs (by decide)
@[simp] theorem atI_16 (xs : List D) : L2.atI xs 16 = xs[16]? := atI_pos xs (by decide)
@[simp] theorem atI_17 (xs : List D) : L2.atI xs 17 = xs[17]? := atI_pos xs (by decide)
@[simp] theorem atI_18 (xs : List D) : L2.atI xs 18 = xs[18]? := atI_pos xs (by decide)
@[simp] theorem atI_19 (xs : List D) : L2.atI xs 19 = xs[19]? := atI_pos xs (by decide)
@[simp] theorem atI_cast (xs : List D) (n : Nat) : L2.atI xs (n : Int) = xs[n]? := by
  rw [atI_pos xs (by omega)]
  rfl
@[simp] theorem atI_m1 (xs : List D) : L2.atI xs (-1) = xs.getLast? := by
  unfold L2.atI L2.ixN
  rw [if_neg (by decide)]
  cases xs with
  | nil => rfl
  | cons x xs =>
    rw [if_pos (by simp only [List.length_cons]; omega)]
    show (x :: xs)[((-1 : Int) + ((x :: xs).length : Int)).toNat]? = _
    rw [List.getLast?_eq_getElem?]
    congr 1
    simp only [List.length_cons]
    omega
@[simp] theorem setIx_0 {α : Type} (x : α) (xs : List α) (v : α) : setIx (x :: xs) 0 v = some (v :: xs) := by
  unfold setIx L2.ixN
  rw [if_pos (by decide), if_pos (by simp)]
  rfl
theorem setIx_pos {α : Type} {xs : List α} {i : Int} {v : α} (h : 0 ≤ i) (hl : i < xs.length) : setIx xs i v = some (xs.set i.toNat v) := by
  unfold setIx L2.ixN
  rw [if_pos h, if_pos hl]
  rfl
theorem small64_of {i : Int} (h : -(2 ^ 64) < i) (h2 : i < 2 ^ 64) : small64 i = true := by
  unfold small64
  simp only [Bool.and_eq_true, decide_eq_true_eq]
  exact ⟨h, h2⟩
theorem ok_mapG {α : Type} {f : Env → Store → Res (Option D)} {t : Tg} {ρ : Env} {Q : List D → Store → Prop} {xs : List α} {st : Store} (g : α → Vl) (p : α → Option D)
    (step : ∀ x ∈ xs, ∃ ρ', put t (g x) ρ = some ρ' ∧ Ok (f ρ' st) fun y st' => y = p x ∧ st' = st) (h : Q (xs.filterMap p) st) : Ok (compL f t ρ (xs.map g) st) Q := by
  have key : ∀ (xs : List α), (∀ x ∈ xs, ∃ ρ', put t (g x) ρ = some ρ' ∧ Ok (f ρ' st) fun y st' => y = p x ∧ st' = st) → compL f t ρ (xs.map g) st = .ok (xs.filterMap p) st := by
    intro xs
    induction xs with
    | nil => intro _; rfl
    | cons x xs ih =>
      intro h
      obtain ⟨ρ', e, h1⟩ := h x List.mem_cons_self
      obtain ⟨y, st', e1, rfl, rfl⟩ := h1.eq
      show (match put t (g x) ρ with
        | none => .bad
        | some ρ' => (f ρ' st').bind fun y st1 => (compL f t ρ (xs.map g) st1).bind fun ys st2 => .ok (match y with | some y => y :: ys | none => ys) st2 : Res (List D)) = _
      rw [e]
      simp only [e1, Res.bind_ok]
      rw [ih fun x hx => h x (List.mem_cons_of_mem _ hx)]
      cases hp : p x with
      | none => simp [hp, Res.bind]
      | some y => simp [hp, Res.bind]
  rw [key xs step]
  exact .ok h
/-- [p(i) for i in range(lo, lo + n)] -/
theorem ok_mapR {f : Env → Store → Res (Option D)} {t : Tg} {ρ : Env} {Q : List D → Store → Prop} {lo : Int} {n : Nat} {st : Store} (p : Nat → D)
    (step : ∀ i, i < n → ∃ ρ', put t (.d (.int (lo + (i : Nat)))) ρ = some ρ' ∧ Ok (f ρ' st) fun y st' => y = some (p i) ∧ st' = st) (h : Q ((List.range n).map p) st) : Ok (compL f t ρ (vls (rangeD lo n)) st) Q := by
  have e : vls (rangeD lo n) = (List.range n).map fun i => .d (.int (lo + (i : Nat))) := by
    unfold vls rangeD
    rw [List.map_map]
    rfl
  rw [e]
  refine ok_mapG _ (fun i => some (p i)) (fun i hi => step i (List.mem_range.mp hi)) ?_
  rw [List.filterMap_eq_map']
  exact h
/-- [p(i) for i in range(lo, lo + n) if ..] -/
theorem ok_filterR {f : Env → Store → Res (Option D)} {t : Tg} {ρ : Env} {Q : List D → Store → Prop} {lo : Int} {n : Nat} {st : Store} (p : Nat → Option D)
    (step : ∀ i, i < n → ∃ ρ', put t (.d (.int (lo + (i : Nat)))) ρ = some ρ' ∧ Ok (f ρ' st) fun y st' => y = p i ∧ st' = st) (h : Q ((List.range n).filterMap p) st) : Ok (compL f t ρ (vls (rangeD lo n)) st) Q := by
  have e : vls (rangeD lo n) = (List.range n).map fun i => .d (.int (lo + (i : Nat))) := by
    unfold vls rangeD
    rw [List.map_map]
    rfl
  rw [e]
  exact ok_mapG _ p (fun i hi => step i (List.mem_range.mp hi)) h
theorem isLst_of {st : Store} {n : Nat} {xs : List D} (h : st[n]? = some (.lst xs)) : isLst st (.r n) = true := by simp [isLst, h]
theorem dr_of {st : Store} {n : Nat} {xs : List D} (h : st[n]? = some (.lst xs)) : dr st (.r n) = some (.lst xs) := by simp [dr, h]
@[simp] theorem isLst_app (st : Store) (xs : List D) : isLst (st ++ [.lst xs]) (.r st.length) = true := isLst_of (xs := xs) (by simp)
@[simp] theorem dr_app (st : Store) (xs : List D) : dr (st ++ [.lst xs]) (.r st.length) = some (.lst xs) := dr_of (xs := xs) (by simp)
@[simp] theorem set_app (st : Store) (c c' : Cell) : (st ++ [c]).set st.length c' = st ++ [c'] := by
  rw [List.set_append_right _ _ (Nat.le_refl _), Nat.sub_self]
  rfl
theorem atI_mem {xs : List D} {i : Int} (h : 0 ≤ i) (hl : i < xs.length) : ∃ x, L2.atI xs i = some x ∧ x ∈ xs := by
  rw [atI_pos xs h]
  have : i.toNat < xs.length := by omega
  exact ⟨_, List.getElem?_eq_getElem this, List.getElem_mem _⟩
@[simp] theorem lt_size_1 : 1 < sizeLine ↔ True := ⟨fun _ => trivial, fun _ => by decide⟩
@[simp] theorem lt_size_2 : 2 < sizeLine ↔ True := ⟨fun _ => trivial, fun _ => by decide⟩
@[simp] theorem lt_size_3 : 3 < sizeLine ↔ True := ⟨fun _ => trivial, fun _ => by decide⟩
@[simp] theorem lt_size_4 : 4 < sizeLine ↔ True := ⟨fun _ => trivial, fun _ => by decide⟩
@[simp] theorem lt_size_5 : 5 < sizeLine ↔ True := ⟨fun _ => trivial, fun _ => by decide⟩
@[simp] theorem lt_size_6 : 6 < sizeLine ↔ True := ⟨fun _ => trivial, fun _ => by decide⟩
@[simp] theorem lt_size_7 : 7 < sizeLine ↔ True := ⟨fun _ => trivial, fun _ => by decide⟩
@[simp] theorem lt_size_8 : 8 < sizeLine ↔ True := ⟨fun _ => trivial, fun _ => by decide⟩
@[simp] theorem lt_size_9 : 9 < sizeLine ↔ True := ⟨fun _ => trivial, fun _ => by decide⟩
@[simp] theorem lt_size_10 : 10 < sizeLine ↔ True := ⟨fun _ => trivial, fun _ => by decide⟩
@[simp] theorem lt_size_11 : 11 < sizeLine ↔ True := ⟨fun _ => trivial, fun _ => by decide⟩
@[simp] theorem lt_size_12 : 12 < sizeLine ↔ True := ⟨fun _ => trivial, fun _ => by decide⟩
@[simp] theorem lt_size_13 : 13 < sizeLine ↔ True := ⟨fun _ => trivial, fun _ => by decide⟩
@[simp] theorem lt_size_14 : 14 < sizeLine ↔ True := ⟨fun _ => trivial, fun _ => by decide⟩
@[simp] theorem lt_size_15 : 15 < sizeLine ↔ True := ⟨fun _ => trivial, fun _ => by decide⟩
@[simp] theorem lt_size_16 : 16 < sizeLine ↔ True := ⟨fun _ => trivial, fun _ => by decide⟩
@[simp] theorem lt_size_17 : 17 < sizeLine ↔ True := ⟨fun _ => trivial, fun _ => by decide⟩
@[simp] theorem lt_size_18 : 18 < sizeLine ↔ True := ⟨fun _ => trivial, fun _ => by decide⟩
@[simp] theorem lt_size_19 : 19 < sizeLine ↔ True := ⟨fun _ => trivial, fun _ => by decide⟩
@[simp] theorem lt_size_20 : 20 < sizeLine ↔ True := ⟨fun _ => trivial, fun _ => by decide⟩
@[simp] theorem lt_size_21 : 21 < sizeLine ↔ True := ⟨fun _ => trivial, fun _ => by decide⟩
@[simp] theorem lt_size_22 : 22 < sizeLine ↔ True := ⟨fun _ => trivial, fun _ => by decide⟩
@[simp] theorem lt_size_23 : 23 < sizeLine ↔ True := ⟨fun _ => trivial, fun _ => by decide⟩
@[simp] theorem lt_size_24 : 24 < sizeLine ↔ True := ⟨fun _ => trivial, fun _ => by decide⟩
@[simp] theorem lt_size_25 : 25 < sizeLine ↔ True := ⟨fun _ => trivial, fun _ => by decide⟩
@[simp] theorem lt_size_26 : 26 < sizeLine ↔ True := ⟨fun _ => trivial, fun _ => by decide⟩
@[simp] theorem lt_size_27 : 27 < sizeLine ↔ True := ⟨fun _ => trivial, fun _ => by decide⟩
@[simp] theorem lt_size_28 : 28 < sizeLine ↔ True := ⟨fun _ => trivial, fun _ => by decide⟩
@[simp] theorem lt_size_29 : 29 < sizeLine ↔ True := ⟨fun _ => trivial, fun _ => by decide⟩
@[simp] theorem lt_size_30 : 30 < sizeLine ↔ True := ⟨fun _ => trivial, fun _ => by decide⟩
theorem int_ite (c : Prop) [Decidable c] : D.int (if c then 1 else 0) = .int 0 ∨ D.int (if c then 1 else 0) = .int 1 := by split <;> simp
end Br

namespace Ka
open PySem PySem.Spec PyProof.Rows L2 Br
/-! ### the text and the terms -/
def top (i : Nat) : Stmt := PySem.Challenge.pw_barredtables_k40_kinds_and_edges_by_anyb.main.body.getD i noStmt
def b_is_whole : Ss :=
(.cons (.ret (.and (.isi (.var 0) .int) (.not (.isi (.var 0) .bool))))
 .nil)
def d_is_whole : Fn := ⟨1, 1, b_is_whole⟩
def b_is_from (c_is_whole : Nat) : Ss :=
(.cons (.ret (.and (.call c_is_whole (.cons (.var 0) .nil)) (.cmp2 .le .le (.var 1) (.var 0) (.var 2))))
 .nil)
def d_is_from (c_is_whole : Nat) : Fn := ⟨3, 3, b_is_from c_is_whole⟩
def b_is_kind (c_is_from : Nat) : Ss :=
(.cons (.ite (.or (.not (.isi (.var 0) .tuple)) (.or (.cmp .ne (.b1 .len (.var 0)) (.con (.int 2))) (.or (.not (.isi (.idx (.var 0) (.con (.int 0))) .str)) (.gin true (.idx (.var 0) (.con (.int 0))) "LOW" [("row", 1), ("column", 1), ("slant", 1), ("rise", 1), ("corner", 0)]))))
(.cons (.ret (.con (.bl false)))
 .nil)
.nil)
 (.cons (.ret (.call c_is_from (.cons (.idx (.var 0) (.con (.int 1))) (.cons (.gix "LOW" [("row", 1), ("column", 1), ("slant", 1), ("rise", 1), ("corner", 0)] (.idx (.var 0) (.con (.int 0)))) (.cons (.con (.int 3)) .nil)))))
 .nil))
def d_is_kind (c_is_from : Nat) : Fn := ⟨1, 1, b_is_kind c_is_from⟩
def b_is_edge (c_is_from : Nat) : Ss :=
(.cons (.ret (.and (.isi (.var 0) .tuple) (.and (.cmp .eq (.b1 .len (.var 0)) (.con (.int 4))) (.b1 .all (.comp false (.call c_is_from (.cons (.var 1) (.cons (.con (.int 0)) (.cons (.con (.int 2)) .nil)))) (.name 1) (.seq (.var 0)) .none [1])))))
 .nil)
def d_is_edge (c_is_from : Nat) : Fn := ⟨1, 2, b_is_edge c_is_from⟩
def b_law_cell : Ss :=
(.cons (.ite (.cmp .lt (.var 1) (.b1 .len (.var 0)))
(.cons (.ret (.idx (.var 0) (.var 1)))
 .nil)
.nil)
 (.cons (.ret (.con (.int 0)))
 .nil))
def d_law_cell : Fn := ⟨2, 2, b_law_cell⟩
def b_law_pen : Ss :=
(.cons (.ret (.lst true (.cons (.var 0) (.cons (.b1 .int (.cmp .ge (.var 0) (.op .pow (.con (.int 10)) (.con (.int 18))))) .nil))))
 .nil)
def d_law_pen : Fn := ⟨1, 1, b_law_pen⟩
def b_law_draw : Ss :=
(.cons (.ite (.cmp .eq (.idx (.var 0) (.con (.int 1))) (.con (.int 1)))
(.cons (.set 2 (.op .mod (.idx (.var 0) (.con (.int 0))) (.var 1)))
 (.cons (.seti (.var 0) (.con (.int 0)) (.op .fdiv (.idx (.var 0) (.con (.int 0))) (.var 1)))
 (.cons (.ret (.var 2))
 .nil)))
.nil)
 (.cons (.seti (.var 0) (.con (.int 0)) (.op .mod (.op .add (.op .mul (.op .mod (.idx (.var 0) (.con (.int 0))) (.con (.int 2147483629))) (.con (.int 48271))) (.con (.int 11))) (.con (.int 2147483629))))
 (.cons (.ret (.op .mod (.op .fdiv (.op .mod (.op .add (.op .mul (.idx (.var 0) (.con (.int 0))) (.idx (.var 0) (.con (.int 0)))) (.op .mul (.con (.int 40692)) (.idx (.var 0) (.con (.int 0))))) (.con (.int 2147483647))) (.con (.int 8))) (.var 1)))
 .nil)))
def d_law_draw : Fn := ⟨2, 3, b_law_draw⟩
def b_law_whole : Ss :=
(.cons (.ret (.and (.isi (.var 0) .int) (.not (.isi (.var 0) .bool))))
 .nil)
def d_law_whole : Fn := ⟨1, 1, b_law_whole⟩
def b_law_odd (c_law_draw : Nat) : Ss :=
(.cons (.set 1 (.lst false (.cons (.con .non) (.cons (.con (.bl true)) (.cons (.con (.bl false)) (.cons (.neg (.con (.int 1))) (.cons (.con (.int 7)) (.cons (.op .pow (.con (.int 10)) (.con (.int 30))) (.cons (.con (.str "")) (.cons (.con (.str "0")) (.cons (.tup .nil) (.cons (.tup (.cons (.con (.int 0)) .nil)) (.cons (.tup (.cons (.con (.int 0)) (.cons (.con (.int 0)) .nil))) (.cons (.lst false (.cons (.con (.int 0)) .nil)) (.cons .dct0 (.cons (.tup (.cons (.tup (.cons (.con (.int 0)) (.cons (.con (.int 0)) .nil))) .nil)) (.cons (.lst false (.cons (.tup (.cons (.con (.int 0)) (.cons (.con (.int 0)) .nil))) .nil)) (.cons (.tup (.cons (.tup (.cons (.con (.int 1)) .nil)) .nil)) .nil))))))))))))))))))
 (.cons (.ret (.idx (.var 1) (.call c_law_draw (.cons (.var 0) (.cons (.con (.int 16)) .nil)))))
 .nil))
def d_law_odd (c_law_draw : Nat) : Fn := ⟨1, 2, b_law_odd c_law_draw⟩
def b_law_kind (c_law_draw : Nat) : Ss :=
(.cons (.set 1 (.idx (.lst false (.cons (.con (.str "row")) (.cons (.con (.str "column")) (.cons (.con (.str "slant")) (.cons (.con (.str "rise")) (.cons (.con (.str "corner")) .nil)))))) (.call c_law_draw (.cons (.var 0) (.cons (.con (.int 5)) .nil)))))
 (.cons (.ret (.tup (.cons (.var 1) (.cons (.ite (.cmp .eq (.var 1) (.con (.str "corner"))) (.call c_law_draw (.cons (.var 0) (.cons (.con (.int 4)) .nil))) (.op .add (.con (.int 1)) (.call c_law_draw (.cons (.var 0) (.cons (.con (.int 3)) .nil))))) .nil))))
 .nil))
def d_law_kind (c_law_draw : Nat) : Fn := ⟨1, 2, b_law_kind c_law_draw⟩
def b_law_is_kind (c_law_whole : Nat) : Ss :=
(.cons (.ite (.or (.not (.isi (.var 0) .tuple)) (.or (.cmp .ne (.b1 .len (.var 0)) (.con (.int 2))) (.or (.not (.isi (.idx (.var 0) (.con (.int 0))) .str)) (.not (.call c_law_whole (.cons (.idx (.var 0) (.con (.int 1))) .nil))))))
(.cons (.ret (.con (.bl false)))
 .nil)
.nil)
 (.cons (.ite (.cmp .eq (.idx (.var 0) (.con (.int 0))) (.con (.str "corner")))
(.cons (.ret (.cmp2 .le .le (.con (.int 0)) (.idx (.var 0) (.con (.int 1))) (.con (.int 3))))
 .nil)
.nil)
 (.cons (.ret (.and (.cmp .isin (.idx (.var 0) (.con (.int 0))) (.lst false (.cons (.con (.str "row")) (.cons (.con (.str "column")) (.cons (.con (.str "slant")) (.cons (.con (.str "rise")) .nil)))))) (.cmp2 .le .le (.con (.int 1)) (.idx (.var 0) (.con (.int 1))) (.con (.int 3)))))
 .nil)))
def d_law_is_kind (c_law_whole : Nat) : Fn := ⟨1, 1, b_law_is_kind c_law_whole⟩
def b_law_edge (c_law_draw : Nat) : Ss :=
(.cons (.set 2 (.dgetK [("row", 1), ("corner", 2)] (.idx (.var 1) (.con (.int 0))) (.idx (.var 1) (.con (.int 1)))))
 (.cons (.set 3 (.dgetK [("column", 1), ("corner", 2)] (.idx (.var 1) (.con (.int 0))) (.idx (.var 1) (.con (.int 1)))))
 (.cons (.set 4 (.lst false .nil))
 (.cons (.for (.name 5) (.seq (.tup (.cons (.op .sub (.con (.int 3)) (.var 2)) (.cons (.op .sub (.con (.int 3)) (.var 3)) .nil))))
(.cons (.set 6 (.call c_law_draw (.cons (.var 0) (.cons (.op .add (.var 5) (.con (.int 1))) .nil))))
 (.cons (.set 4 (.op .add (.var 4) (.lst false (.cons (.var 6) (.cons (.call c_law_draw (.cons (.var 0) (.cons (.op .add (.op .sub (.var 5) (.var 6)) (.con (.int 1))) .nil))) .nil)))))
 .nil)))
 (.cons (.ret (.b1 .tuple (.var 4)))
 .nil)))))
def d_law_edge (c_law_draw : Nat) : Fn := ⟨2, 7, b_law_edge c_law_draw⟩
def b_law_is_edge (c_law_whole : Nat) : Ss :=
(.cons (.ite (.or (.not (.isi (.var 0) .tuple)) (.cmp .ne (.b1 .len (.var 0)) (.con (.int 4))))
(.cons (.ret (.con (.bl false)))
 .nil)
.nil)
 (.cons (.ret (.b1 .all (.comp false (.and (.call c_law_whole (.cons (.var 1) .nil)) (.cmp2 .le .le (.con (.int 0)) (.var 1) (.con (.int 2)))) (.name 1) (.seq (.var 0)) .none [1])))
 .nil))
def d_law_is_edge (c_law_whole : Nat) : Fn := ⟨1, 2, b_law_is_edge c_law_whole⟩
def b_law_no_kind (c_law_draw c_law_is_kind : Nat) : Ss :=
(.cons (.set 2 (.lst false (.cons (.tup (.cons (.con (.str "row")) (.cons (.con (.int 0)) .nil))) (.cons (.tup (.cons (.con (.str "slant")) (.cons (.con (.int 4)) .nil))) (.cons (.tup (.cons (.con (.str "corner")) (.cons (.con (.int 4)) .nil))) (.cons (.tup (.cons (.con (.str "corner")) (.cons (.neg (.con (.int 1))) .nil))) (.cons (.tup (.cons (.con (.str "rise")) (.cons (.con (.bl true)) .nil))) (.cons (.tup (.cons (.con (.str "Row")) (.cons (.con (.int 2)) .nil))) (.cons (.tup (.cons (.con (.str "square")) (.cons (.con (.int 2)) .nil))) .nil)))))))))
 (.cons (.set 2 (.op .add (.var 2) (.lst false (.cons (.tup (.cons (.con (.int 2)) (.cons (.con (.int 2)) .nil))) (.cons (.b1 .list (.var 1)) (.cons (.sl (.var 1) .none (.some (.con (.int 1)))) (.cons (.op .add (.var 1) (.tup (.cons (.con (.int 1)) .nil))) (.cons (.rev (.var 1)) (.cons (.con .non) (.cons (.con (.str "row")) (.cons (.con (.int 3)) (.cons .dct0 (.cons (.tup (.cons (.var 1) .nil)) .nil)))))))))))))
 (.cons (.set 2 (.op .add (.var 2) (.lst false (.cons (.tup (.cons (.lst false (.cons (.con (.str "row")) .nil)) (.cons (.con (.int 2)) .nil))) (.cons (.tup (.cons (.con (.str "")) (.cons (.con (.int 1)) .nil))) .nil)))))
 (.cons (.set 3 (.idx (.op .add (.var 2) (.lst false (.cons (.tup (.cons (.op .add (.idx (.var 1) (.con (.int 0))) (.con (.str " "))) (.cons (.con (.int 2)) .nil))) (.cons (.tup (.cons (.idx (.var 1) (.con (.int 0))) (.cons (.strI (.idx (.var 1) (.con (.int 1)))) .nil))) (.cons (.tup (.cons (.idx (.var 1) (.con (.int 0))) (.cons (.op .pow (.con (.int 10)) (.con (.int 30))) .nil))) .nil))))) (.call c_law_draw (.cons (.var 0) (.cons (.con (.int 22)) .nil)))))
 (.cons (.ret (.ite (.call c_law_is_kind (.cons (.var 3) .nil)) (.con .non) (.var 3)))
 .nil)))))
def d_law_no_kind (c_law_draw c_law_is_kind : Nat) : Fn := ⟨2, 4, b_law_no_kind c_law_draw c_law_is_kind⟩
def b_law_no_edge (c_law_draw : Nat) : Ss :=
(.cons (.set 2 (.call c_law_draw (.cons (.var 0) (.cons (.con (.int 4)) .nil))))
 (.cons (.set 3 (.idx (.lst false (.cons (.con (.int 3)) (.cons (.neg (.con (.int 1))) (.cons (.con (.bl true)) (.cons (.con .non) (.cons (.con (.str "0")) (.cons (.tup (.cons (.con (.int 0)) .nil)) (.cons (.op .pow (.con (.int 10)) (.con (.int 30))) .nil)))))))) (.call c_law_draw (.cons (.var 0) (.cons (.con (.int 7)) .nil)))))
 (.cons (.set 4 (.op .add (.op .add (.sl (.var 1) .none (.some (.var 2))) (.tup (.cons (.var 3) .nil))) (.sl (.var 1) (.some (.op .add (.var 2) (.con (.int 1)))) .none)))
 (.cons (.ret (.idx (.lst false (.cons (.var 4) (.cons (.var 4) (.cons (.var 4) (.cons (.sl (.var 1) .none (.some (.con (.int 3)))) (.cons (.op .add (.var 1) (.tup (.cons (.con (.int 0)) .nil))) (.cons (.b1 .list (.var 1)) (.cons (.con .non) (.cons (.con (.int 0)) (.cons (.con (.str "0000")) (.cons .dct0 (.cons (.tup (.cons (.var 1) .nil)) .nil)))))))))))) (.call c_law_draw (.cons (.var 0) (.cons (.con (.int 11)) .nil)))))
 .nil))))
def d_law_no_edge (c_law_draw : Nat) : Fn := ⟨2, 5, b_law_no_edge c_law_draw⟩
def b_law_right (c_is_kind c_is_edge c_law_is_kind c_law_is_edge : Nat) : Ss :=
(.cons (.set 1 (.rep (.var 0)))
 (.cons (.for (.name 2) (.range1 (.con (.int 2)))
(.cons (.setP [3, 4] (.cons (.call c_is_kind (.cons (.var 0) .nil)) (.cons (.call c_is_edge (.cons (.var 0) .nil)) .nil)))
 (.cons (.ite (.or (.not (.isi (.var 3) .bool)) (.or (.cmp .ne (.var 3) (.call c_law_is_kind (.cons (.var 0) .nil))) (.cmp .ne (.rep (.var 0)) (.var 1))))
(.cons (.ret (.con (.bl false)))
 .nil)
.nil)
 (.cons (.ite (.or (.not (.isi (.var 4) .bool)) (.cmp .ne (.var 4) (.call c_law_is_edge (.cons (.var 0) .nil))))
(.cons (.ret (.con (.bl false)))
 .nil)
.nil)
 .nil))))
 (.cons (.ret (.con (.bl true)))
 .nil)))
def d_law_right (c_is_kind c_is_edge c_law_is_kind c_law_is_edge : Nat) : Fn := ⟨1, 5, b_law_right c_is_kind c_is_edge c_law_is_kind c_law_is_edge⟩
def b_law (c_law_right c_law_cell c_law_pen c_law_kind c_law_draw c_law_odd c_law_edge c_law_no_kind c_law_no_edge : Nat) : Ss :=
(.cons (.set 1 (.lst false (.cons (.tup (.cons (.con (.str "row")) (.cons (.con (.int 1)) .nil))) (.cons (.tup (.cons (.con (.str "row")) (.cons (.con (.int 3)) .nil))) (.cons (.tup (.cons (.con (.str "row")) (.cons (.con (.int 4)) .nil))) (.cons (.tup (.cons (.con (.str "corner")) (.cons (.con (.int 0)) .nil))) (.cons (.tup (.cons (.con (.str "corner")) (.cons (.con (.int 3)) .nil))) .nil)))))))
 (.cons (.set 1 (.op .add (.var 1) (.lst false (.cons (.tup (.cons (.con (.int 0)) (.cons (.con (.int 0)) (.cons (.con (.int 0)) (.cons (.con (.int 0)) .nil))))) (.cons (.tup (.cons (.con (.int 2)) (.cons (.con (.int 2)) (.cons (.con (.int 2)) (.cons (.con (.int 2)) .nil))))) (.cons (.tup (.cons (.con (.int 0)) (.cons (.con (.int 0)) (.cons (.con (.int 0)) (.cons (.con (.int 3)) .nil))))) .nil))))))
 (.cons (.for (.name 2) (.seq (.lst false (.cons (.con (.str "row")) (.cons (.con (.str "column")) (.cons (.con (.str "slant")) (.cons (.con (.str "rise")) (.cons (.con (.str "corner")) .nil)))))))
(.cons (.set 1 (.op .add (.var 1) (.comp false (.tup (.cons (.var 2) (.cons (.var 9) .nil))) (.name 9) (.seq (.lst false (.cons (.neg (.con (.int 1))) (.cons (.con (.int 0)) (.cons (.con (.int 1)) (.cons (.con (.int 2)) (.cons (.con (.int 3)) (.cons (.con (.int 4)) (.cons (.con (.bl true)) (.cons (.con (.bl false)) .nil)))))))))) .none [9])))
 .nil))
 (.cons (.ite (.not (.b1 .all (.comp false (.call c_law_right (.cons (.var 10) .nil)) (.name 10) (.seq (.var 1)) .none [10])))
(.cons (.ret (.con (.bl false)))
 .nil)
.nil)
 (.cons (.for (.name 3) (.seq (.op .add (.lst false (.cons (.call c_law_cell (.cons (.var 0) (.cons (.con (.int 0)) .nil))) .nil)) (.sl (.var 0) (.some (.con (.int 1))) (.some (.con (.int 10))))))
(.cons (.set 4 (.callo c_law_pen (.cons (.var 3) .nil)))
 (.cons (.set 5 (.call c_law_kind (.cons (.var 4) .nil)))
 (.cons (.set 6 (.b1 .tuple (.comp false (.call c_law_draw (.cons (.var 4) (.cons (.con (.int 3)) .nil))) (.name 8) (.range1 (.con (.int 4))) .none [8])))
 (.cons (.set 7 (.lst false (.cons (.var 5) (.cons (.var 6) (.cons (.call c_law_odd (.cons (.var 4) .nil)) (.cons (.call c_law_edge (.cons (.var 4) (.cons (.var 5) .nil))) .nil))))))
 (.cons (.for (.name 8) (.range1 (.con (.int 3)))
(.cons (.set 7 (.op .add (.var 7) (.lst false (.cons (.call c_law_no_kind (.cons (.var 4) (.cons (.var 5) .nil))) (.cons (.call c_law_no_edge (.cons (.var 4) (.cons (.var 6) .nil))) .nil)))))
 .nil))
 (.cons (.ite (.not (.b1 .all (.comp false (.call c_law_right (.cons (.var 10) .nil)) (.name 10) (.seq (.var 7)) .none [10])))
(.cons (.ret (.con (.bl false)))
 .nil)
.nil)
 .nil)))))))
 (.cons (.ret (.con (.bl true)))
 .nil))))))
def d_law (c_law_right c_law_cell c_law_pen c_law_kind c_law_draw c_law_odd c_law_edge c_law_no_kind c_law_no_edge : Nat) : Fn := ⟨1, 11, b_law c_law_right c_law_cell c_law_pen c_law_kind c_law_draw c_law_odd c_law_edge c_law_no_kind c_law_no_edge⟩
def fns : List FnI := [
  ⟨"is_whole", 1, ["thing"], false, b_is_whole, false⟩,
  ⟨"is_from", 3, ["thing", "low", "high"], false, b_is_from 0, false⟩,
  ⟨"is_kind", 1, ["thing"], false, b_is_kind 1, false⟩,
  ⟨"is_edge", 1, ["thing", "one"], false, b_is_edge 1, false⟩,
  ⟨"_law_cell", 2, ["_law_script", "_law_k"], false, b_law_cell, false⟩,
  ⟨"_law_pen", 1, ["_law_cell_here"], false, b_law_pen, false⟩,
  ⟨"_law_draw", 2, ["_law_pen_here", "_law_many", "_law_found"], false, b_law_draw, false⟩,
  ⟨"_law_whole", 1, ["_law_thing"], false, b_law_whole, false⟩,
  ⟨"_law_odd", 1, ["_law_pen_here", "_law_some"], false, b_law_odd 6, false⟩,
  ⟨"_law_kind", 1, ["_law_pen_here", "_law_word"], false, b_law_kind 6, false⟩,
  ⟨"_law_is_kind", 1, ["_law_thing"], false, b_law_is_kind 7, false⟩,
  ⟨"_law_edge", 2, ["_law_pen_here", "_law_kind_here", "_law_high", "_law_wide", "_law_found", "_law_room", "_law_one"], false, b_law_edge 6, false⟩,
  ⟨"_law_is_edge", 1, ["_law_thing", "_law_one"], false, b_law_is_edge 7, false⟩,
  ⟨"_law_no_kind", 2, ["_law_pen_here", "_law_kind_here", "_law_some", "_law_thing"], false, b_law_no_kind 6 10, false⟩,
  ⟨"_law_no_edge", 2, ["_law_pen_here", "_law_edge_here", "_law_at", "_law_odd_here", "_law_bent"], false, b_law_no_edge 6, false⟩,
  ⟨"_law_right", 1, ["_law_thing", "_law_kept", "_law_turn", "_law_found", "_law_other"], false, b_law_right 2 3 10 12, false⟩,
  ⟨"law", 1, ["_law_script", "_law_some", "_law_word", "_law_cell_here", "_law_pen_here", "_law_kind_here", "_law_edge_here", "_law_things", "_law_turn", "_law_number", "_law_thing"], false, b_law 15 4 5 9 6 8 11 13 14, false⟩]
def pg : Pg := ⟨fns, [], none, [], ["isinstance", "int", "bool", "tuple", "len", "str", "all", "list", "repr", "range"], [("LOW", [("row", 1), ("column", 1), ("slant", 1), ("rise", 1), ("corner", 0)])], []⟩
def sts : List Stmt := [top 1, top 2, top 5, top 6, top 8, top 9, top 10, top 11, top 12, top 13, top 14, top 15, top 16, top 17, top 18, top 19, top 20]
theorem chk_all : chkAll pg fns sts = true := by decide +kernel
end Ka
namespace Ka
open PySem Br
def isOd : D → Bool
  | .fn _ => false
  | .xc _ _ => false
  | _ => true
def okD (x : D) : Prop := isOd x = true
def whole : D → Bool
  | .int _ => true
  | _ => false
def bit : D → Bool
  | .int i => decide (0 ≤ i) && decide (i ≤ 1)
  | _ => false
def between (a b : Int) : D → Bool
  | .int i => decide (a ≤ i) && decide (i ≤ b)
  | _ => false
/-- a def of data that touches nothing and gives x -/
def Gives (C : Oracle) (k : Nat) (ds : List D) (x : D) : Prop := ∀ st : Store, fin st (C k (ds.map .d) st) = .ok (.d x) st
theorem Gives.at1 {C : Oracle} {k : Nat} {a x : D} (h : Gives C k [a] x) (st : Store) : fin st (C k [.d a] st) = .ok (.d x) st := h st
theorem Gives.at2 {C : Oracle} {k : Nat} {a b x : D} (h : Gives C k [a, b] x) (st : Store) : fin st (C k [.d a, .d b] st) = .ok (.d x) st := h st
theorem Gives.at3 {C : Oracle} {k : Nat} {a b c x : D} (h : Gives C k [a, b, c] x) (st : Store) : fin st (C k [.d a, .d b, .d c] st) = .ok (.d x) st := h st
theorem gives_of {T : List Fn} {n k : Nat} {ds : List D} {x : D} {f : Fn} (e : T[k]? = some f) (hl : ds.length = f.np) (h : ∀ st, Ok (evSs (orc T n) f.body (start f (ds.map .d)) st) fun fl st1 => flV fl = .d x ∧ Stand [] st st1) : Gives (orc T (n + 1)) k ds x := fun st =>
  fin_eq e (by rw [List.length_map]; exact hl) rfl (h st)
def Is_whole (C : Oracle) (k : Nat) : Prop := ∀ x, okD x → Gives C k [x] (.bl (whole x))
theorem s_is_whole {T : List Fn} {n k : Nat} (e : T[k]? = some d_is_whole) : Is_whole (orc T (n + 1)) k := fun x h => gives_of e rfl fun st => by
  show Ok (evSs _ b_is_whole [some (.d x)] st) _
  cases x with
  | fn k => cases h
  | xc _ _ => cases h
  | _ => simp [b_is_whole, whole]
def Is_from (C : Oracle) (k : Nat) : Prop := ∀ x a b, okD x → Gives C k [x, .int a, .int b] (.bl (between a b x))
theorem s_is_from {T : List Fn} {n k k1 : Nat} (e : T[k]? = some (d_is_from k1)) (h1 : Is_whole (orc T n) k1) : Is_from (orc T (n + 1)) k := fun x a b h => gives_of e rfl fun st => by
  show Ok (evSs _ (b_is_from k1) [some (.d x), some (.d (.int a)), some (.d (.int b))] st) _
  simp [b_is_from, (h1 x h).at1]
  cases x <;> simp [whole, between]
  rename_i i
  by_cases h1 : a ≤ i <;> simp [h1] <;> omega
@[simp] theorem between01 (x : D) : between 0 1 x = bit x := by cases x <;> rfl
def okT (x : D) : Prop := okD x ∧ ∀ xs, x = .tup xs → ∀ s ∈ xs, okD s ∧ ∀ ys, s = .tup ys → ∀ y ∈ ys, okD y
def wid : List D → Nat
  | .tup ys :: _ => ys.length
  | _ => 0
def stripOk (w : Nat) : D → Bool
  | .tup ys => decide (1 ≤ ys.length) && decide (ys.length ≤ 6) && decide (ys.length = w) && ys.all bit
  | _ => false
def isTab : D → Bool
  | .tup xs => decide (1 ≤ xs.length) && decide (xs.length ≤ 6) && xs.all (stripOk (wid xs))
  | _ => false
/-- all the strips before the i-th are good -/
def Good (xs : List D) (i : Nat) : Prop := ∀ (j : Nat) d, j < i → xs[j]? = some d → stripOk (wid xs) d = true
theorem good_all {xs : List D} (h : Good xs xs.length) : xs.all (stripOk (wid xs)) = true := List.all_eq_true.mpr fun d hd => by
  obtain ⟨j, hj, rfl⟩ := List.getElem_of_mem hd
  exact h j _ hj (List.getElem?_eq_getElem hj)
theorem bad_one {xs : List D} {i : Nat} {d : D} (e : xs[i]? = some d) (h : stripOk (wid xs) d = false) : isTab (.tup xs) = false := by
  have : xs.all (stripOk (wid xs)) = false := by
    rw [List.all_eq_false]
    exact ⟨d, List.mem_of_getElem? e, by simp [h]⟩
  simp [isTab, this]
/-- the first strip, where the earlier ones are good or it is the present one -/
theorem first_wid {xs ys : List D} {i : Nat} (hg : Good xs i) (e : xs[i]? = some (.tup ys)) : ∃ zs, xs[0]? = some (.tup zs) ∧ wid xs = zs.length := by
  cases xs with
  | nil => simp at e
  | cons x xs =>
    cases i with
    | zero => simp at e; subst e; exact ⟨ys, rfl, rfl⟩
    | succ i =>
      have := hg 0 x (by omega) rfl
      cases x with
      | tup zs => exact ⟨zs, rfl, rfl⟩
      | _ => cases this
def Is_table (C : Oracle) (k : Nat) : Prop := ∀ x, okT x → Gives C k [x] (.bl (isTab x))
theorem s_law_whole {T : List Fn} {n k : Nat} (e : T[k]? = some d_law_whole) : Is_whole (orc T (n + 1)) k := fun x h => gives_of e rfl fun st => by
  show Ok (evSs _ b_law_whole [some (.d x)] st) _
  cases x with
  | fn k => cases h
  | xc _ _ => cases h
  | _ => simp [b_law_whole, whole]

/-- a pen stands at p -/
def PenAt (st : Store) (p : Nat) : Prop := ∃ a b, st[p]? = some (.lst [.int a, .int b])
/-- only the pen at p has moved -/
def PenTo (p : Nat) (st st' : Store) : Prop := Stand [p] st st' ∧ st'.length = st.length ∧ PenAt st' p
theorem PenTo.refl {p : Nat} {st : Store} (h : PenAt st p) : PenTo p st st := ⟨Stand.refl _ _, rfl, h⟩
theorem PenTo.trans {p : Nat} {a b c : Store} (h : PenTo p a b) (k : PenTo p b c) : PenTo p a c := ⟨h.1.trans k.1, k.2.1.trans h.2.1, k.2.2⟩
theorem PenAt.lt {st : Store} {p : Nat} (h : PenAt st p) : p < st.length := by
  obtain ⟨a, b, e⟩ := h
  exact (List.getElem?_eq_some_iff.mp e).1
theorem PenAt.app {st : Store} {p : Nat} (h : PenAt st p) (c : List Cell) : PenAt (st ++ c) p := by
  obtain ⟨a, b, e⟩ := h
  exact ⟨a, b, by rw [List.getElem?_append_left (List.getElem?_eq_some_iff.mp e).1]; exact e⟩
/-- within a def: the pen and what the def itself made may change -/
def In (p : Nat) (st st' : Store) : Prop := Stand [p] st st' ∧ PenAt st' p
theorem In.refl {p : Nat} {st : Store} (h : PenAt st p) : In p st st := ⟨Stand.refl _ _, h⟩
theorem In.to {p : Nat} {a b c : Store} (h : In p a b) (k : PenTo p b c) : In p a c := ⟨h.1.trans k.1, k.2.2⟩
theorem In.app {p : Nat} {a b : Store} (h : In p a b) (c : List Cell) : In p a (b ++ c) := ⟨h.1.grow c, h.2.app c⟩
theorem In.set {p : Nat} {a b : Store} (h : In p a b) {i : Nat} {c : Cell} (hi : a.length ≤ i) (hp : p < a.length) : In p a (b.set i c) := ⟨h.1.set (.inr hi), by
  obtain ⟨x, y, e⟩ := h.2
  exact ⟨x, y, by rw [List.getElem?_set_ne (by omega)]; exact e⟩⟩
theorem In.back {p : Nat} {st st' : Store} (hp : p < st.length) (h : In p st st') : PenTo p st (st'.take st.length) := by
  refine ⟨h.1.take, ?_, ?_⟩
  · rw [List.length_take]
    have := h.1.1
    omega
  · obtain ⟨a, b, e⟩ := h.2
    exact ⟨a, b, by rw [List.getElem?_take_of_lt hp]; exact e⟩
/-- a call that moves the pen and gives data of P -/
theorem ok_pen {T : List Fn} {n k p : Nat} {vs : List Vl} {st : Store} {f : Fn} {P : D → Prop} (e : T[k]? = some f) (hl : vs.length = f.np) (hp : PenAt st p)
    (h : Ok (evSs (orc T n) f.body (start f vs) st) fun fl st' => In p st st' ∧ ∃ x, (flV fl = .d x ∨ ∃ i xs, flV fl = .r i ∧ st.length ≤ i ∧ st'[i]? = some (.lst xs) ∧ x = .lst xs) ∧ P x) :
    Ok (fin st (orc T (n + 1) k vs st)) fun v st' => PenTo p st st' ∧ ∃ x, v = .d x ∧ P x := by
  refine ok_fin (ps := [p]) (ok_orc e hl rfl (h.mono fun fl st' ⟨h1, x, h2, h3⟩ => ⟨h1.1, fun i hi _ => ?_, x, h2, h1.back hp.lt, x, rfl, h3⟩))
  rw [List.mem_singleton] at hi
  subst hi
  obtain ⟨a, b, e⟩ := h1.2
  exact ⟨_, e⟩
/-- a pen of a cell's number -/
def Pen (C : Oracle) (k : Nat) : Prop := ∀ (st : Store) (c : Int), ∃ b, fino st (C k [.d (.int c)] st) = .ok (.r st.length) (st ++ [.lst [.int c, .int b]])
theorem s_law_pen {T : List Fn} {n k : Nat} (e : T[k]? = some d_law_pen) : Pen (orc T (n + 1)) k := fun st c => by
  refine ⟨if 10 ^ 18 ≤ c then 1 else 0, ?_⟩
  refine eq_of_ok (ok_fino (ps := []) (ok_orc e rfl rfl ?_))
  show Ok (evSs _ b_law_pen [some (.d (.int c))] st) _
  simp [b_law_pen]
  exact (Stand.refl _ _).grow _
def Draws (C : Oracle) (k : Nat) : Prop := ∀ (st : Store) (p : Nat) (m : Int), PenAt st p → 1 ≤ m → m ≤ 2 ^ 80 → Ok (fin st (C k [.r p, .d (.int m)] st)) fun v st' => PenTo p st st' ∧ ∃ x, v = .d x ∧ ∃ r, x = .int r ∧ 0 ≤ r ∧ r < m
theorem s_law_draw {T : List Fn} {n k : Nat} (e : T[k]? = some d_law_draw) : Draws (orc T (n + 1)) k := fun st p m hp h1 h2 => ok_pen e rfl hp (by
  show Ok (evSs _ b_law_draw [some (.r p), some (.d (.int m)), none] st) _
  obtain ⟨a, b, ep⟩ := hp
  have hpl : p < st.length := (List.getElem?_eq_some_iff.mp ep).1
  have hlog : m.natAbs.log2 < 9000 := by
    have : m.natAbs < 2 ^ 81 := by omega
    have := (Nat.log2_lt (n := m.natAbs) (k := 81) (by omega)).mpr this
    omega
  have q1 : small64 48271 = true := by decide
  have q2 : small64 40692 = true := by decide
  have q3 : ∀ z : Int, small64 (z % 2147483629) = true := fun z => small64_of (by omega) (by omega)
  have hs : ∀ c : Cell, (st.set p c)[p]? = some c := fun c => List.getElem?_set_self hpl
  have hm : 0 < m := by omega
  have h8 : Nat.log2 8 < 9000 := by decide
  have pen : ∀ x y : Int, In p st (st.set p (.lst [.int x, .int y])) := fun x y => ⟨(Stand.refl _ _).set (.inl (by simp)), x, y, hs _⟩
  have em : ∀ z : Int, 0 ≤ z % m ∧ z % m < m := fun z => ⟨Int.emod_nonneg _ (by omega), Int.emod_lt_of_pos _ hm⟩
  simp [b_law_draw, dr, ep, two, hs, q1, q2, q3, hm, hlog, h8, pen, em]
  omega)

/-- w noughts and ones -/
def Bits (w : Nat) (ys : List D) : Prop := ys.length = w ∧ ∀ y ∈ ys, y = .int 0 ∨ y = .int 1
def Row (w : Nat) (d : D) : Prop := ∃ ys, d = .tup ys ∧ Bits w ys
def Grid (h w : Nat) (xs : List D) : Prop := xs.length = h ∧ ∀ s ∈ xs, Row w s
theorem bits_map {w : Nat} {xs : List D} (hl : xs.length = w) (p : D → Bool) : Bits w (xs.map fun x => .int (if p x then 1 else 0)) := ⟨by simp [hl], fun y hy => by
  obtain ⟨x, _, rfl⟩ := List.mem_map.mp hy
  by_cases h : p x = true
  · exact .inr (by rw [if_pos h])
  · exact .inl (by rw [if_neg h])⟩
theorem bits_rep {w : Nat} (y : D) (h : y = .int 0 ∨ y = .int 1) : Bits w (List.replicate w y) := ⟨List.length_replicate, fun z hz => by
  rw [(List.mem_replicate.mp hz).2]
  exact h⟩
theorem flat_one {w : Nat} (y : D) : (List.replicate w [y]).flatten = List.replicate w y := by
  induction w with
  | zero => rfl
  | succ w ih => rw [List.replicate_succ, List.flatten_cons, ih, List.replicate_succ]; rfl
theorem PenTo.get {p : Nat} {a b : Store} (h : PenTo p a b) {i : Nat} (hi : i < a.length) (hp : i ≠ p) : b[i]? = a[i]? := h.1.2 i hi (by simpa using hp)
theorem asInt_get {xs : List D} {w : Nat} {i : Nat} {d : D} (hx : Bits w xs) (e : xs[i]? = some d) : d = .int 0 ∨ d = .int 1 := hx.2 d (List.mem_of_getElem? e)
def Fills (C : Oracle) (k : Nat) : Prop := ∀ (st : Store) (p : Nat) (h w : Nat), PenAt st p → 1 ≤ h → h ≤ 1000 → 1 ≤ w → w ≤ 1000 → Ok (fin st (C k [.r p, .d (.int h), .d (.int w)] st)) fun v st' => PenTo p st st' ∧ ∃ x, v = .d x ∧ ∃ g, x = .tup g ∧ Grid h w g
def Anys (C : Oracle) (k : Nat) : Prop := ∀ (st : Store) (p : Nat) (mh mw : Nat), PenAt st p → 1 ≤ mh → mh ≤ 1000 → 1 ≤ mw → mw ≤ 1000 → Ok (fin st (C k [.r p, .d (.int mh), .d (.int mw)] st)) fun v st' => PenTo p st st' ∧ ∃ x, v = .d x ∧ ∃ g h w, x = .tup g ∧ 1 ≤ h ∧ h ≤ mh ∧ 1 ≤ w ∧ w ≤ mw ∧ Grid h w g
mutual
def clean : D → Bool
  | .tup xs => cleans xs
  | .lst xs => cleans xs
  | .kst xs => cleans xs
  | .fn _ => false
  | .xc _ _ => false
  | _ => true
def cleans : List D → Bool
  | [] => true
  | x :: r => clean x && cleans r
end
theorem cleans_iff : ∀ {xs : List D}, cleans xs = true ↔ ∀ x ∈ xs, clean x = true
  | [] => by simp [cleans]
  | x :: r => by simp [cleans, cleans_iff (xs := r)]
theorem clean_okD {x : D} (h : clean x = true) : okD x := by
  cases x <;> first | rfl | cases h
theorem clean_okT {x : D} (h : clean x = true) : okT x := ⟨clean_okD h, fun xs e s hs => by
  subst e
  have h2 := cleans_iff.mp (by simpa [clean] using h) s hs
  exact ⟨clean_okD h2, fun ys e y hy => by
    subst e
    exact clean_okD (cleans_iff.mp (by simpa [clean] using h2) y hy)⟩⟩
@[simp] theorem cleans_app (xs ys : List D) : cleans (xs ++ ys) = (cleans xs && cleans ys) := by
  induction xs with
  | nil => simp [cleans]
  | cons x xs ih => simp [cleans, ih, Bool.and_assoc]
theorem cleans_sub {xs ys : List D} (h : cleans xs = true) (k : ∀ y ∈ ys, y ∈ xs) : cleans ys = true := cleans_iff.mpr fun y hy => cleans_iff.mp h y (k y hy)
theorem cleans_cut {xs : List D} (h : cleans xs = true) (a b : Option Int) : cleans (cut xs a b) = true := cleans_sub h fun y hy => by
  unfold cut at hy
  exact List.mem_of_mem_drop (List.mem_of_mem_take hy)
theorem cleans_rep {xs : List D} (h : cleans xs = true) (k : Nat) : cleans (List.replicate k xs).flatten = true := cleans_sub h fun y hy => by
  obtain ⟨l, hl, hy⟩ := List.mem_flatten.mp hy
  rw [(List.mem_replicate.mp hl).2] at hy
  exact hy
theorem cut_le (xs : List D) (a b : Option Int) : (cut xs a b).length ≤ xs.length := by
  unfold cut
  rw [List.length_take, List.length_drop]
  omega
theorem row_clean {w : Nat} {d : D} (h : Row w d) : clean d = true := by
  obtain ⟨ys, rfl, hb⟩ := h
  refine cleans_iff.mpr fun y hy => ?_
  rcases hb.2 y hy with rfl | rfl <;> rfl
theorem grid_clean {h w : Nat} {g : List D} (hg : Grid h w g) : cleans g = true := cleans_iff.mpr fun s hs => row_clean (hg.2 s hs)
theorem pick {xs : List D} {i : Int} {P : D → Prop} (h : 0 ≤ i) (hl : i < xs.length) (hc : cleans xs = true) (k : ∀ x, clean x = true → P x) : ∃ x, L2.atI xs i = some x ∧ P x := by
  obtain ⟨x, e1, e2⟩ := atI_mem h hl
  exact ⟨x, e1, k x (cleans_iff.mp hc x e2)⟩

def Bents (C : Oracle) (k : Nat) : Prop := ∀ (st : Store) (p : Nat) (g : List D) (h w : Nat), PenAt st p → Grid h w g → 1 ≤ h → h ≤ 6 → 1 ≤ w → w ≤ 6 → Ok (fin st (C k [.r p, .d (.tup g)] st)) fun v st' => PenTo p st st' ∧ ∃ x, v = .d x ∧ clean x = true
/-! tables as lists of lists of numbers -/
def rowD (r : List Int) : D := .tup (r.map .int)
def tabD (G : List (List Int)) : D := .tup (G.map rowD)
/-- h rows of w noughts and ones -/
def Mat (h w : Nat) (G : List (List Int)) : Prop := G.length = h ∧ ∀ r ∈ G, r.length = w ∧ ∀ b ∈ r, b = 0 ∨ b = 1
def Tab (G : List (List Int)) : Prop := ∃ h w, 1 ≤ h ∧ h ≤ 6 ∧ 1 ≤ w ∧ w ≤ 6 ∧ Mat h w G
theorem map_of_all {α β : Type} {f : α → β} : ∀ {l : List β}, (∀ y ∈ l, ∃ x : α, y = f x) → ∃ l' : List α, l = l'.map f
  | [], _ => ⟨[], rfl⟩
  | y :: l, h => by
    obtain ⟨x, rfl⟩ := h y List.mem_cons_self
    obtain ⟨l', rfl⟩ := map_of_all fun z hz => h z (List.mem_cons_of_mem _ hz)
    exact ⟨x :: l', rfl⟩
theorem bits_of {w : Nat} {ys : List D} (h : Bits w ys) : ∃ r : List Int, ys = r.map .int ∧ r.length = w ∧ ∀ b ∈ r, b = 0 ∨ b = 1 := by
  obtain ⟨r, rfl⟩ := map_of_all (f := D.int) fun y hy => by
    rcases h.2 y hy with rfl | rfl
    · exact ⟨_, rfl⟩
    · exact ⟨_, rfl⟩
  refine ⟨r, rfl, by simpa using h.1, fun b hb => ?_⟩
  have := h.2 (.int b) (List.mem_map.mpr ⟨b, hb, rfl⟩)
  simpa using this
theorem grid_mat {h w : Nat} {g : List D} (hg : Grid h w g) : ∃ G, g = G.map rowD ∧ Mat h w G := by
  obtain ⟨G, rfl⟩ := map_of_all (f := rowD) fun y hy => by
    obtain ⟨ys, rfl, hb⟩ := hg.2 y hy
    obtain ⟨r, rfl, _, _⟩ := bits_of hb
    exact ⟨r, rfl⟩
  refine ⟨G, rfl, by simpa using hg.1, fun r hr => ?_⟩
  obtain ⟨ys, e, hb⟩ := hg.2 (rowD r) (List.mem_map.mpr ⟨r, hr, rfl⟩)
  cases e
  exact ⟨by simpa using hb.1, fun b hb' => by simpa using hb.2 (.int b) (List.mem_map.mpr ⟨b, hb', rfl⟩)⟩
theorem mat_grid {h w : Nat} {G : List (List Int)} (hG : Mat h w G) : Grid h w (G.map rowD) := ⟨by simpa using hG.1, fun s hs => by
  obtain ⟨r, hr, rfl⟩ := List.mem_map.mp hs
  obtain ⟨h1, h2⟩ := hG.2 r hr
  exact ⟨_, rfl, by simpa using h1, fun y hy => by
    obtain ⟨b, hb, rfl⟩ := List.mem_map.mp hy
    simpa using h2 b hb⟩⟩
theorem isTab_tab {G : List (List Int)} (h : Tab G) : isTab (tabD G) = true := by
  obtain ⟨h, w, h1, h2, w1, w2, hl, hr⟩ := h
  cases G with
  | nil => simp at hl; omega
  | cons r G =>
    have hw := (hr r List.mem_cons_self).1
    simp only [tabD, isTab, Bool.and_eq_true, decide_eq_true_eq, List.length_map, List.all_eq_true]
    refine ⟨⟨by omega, by omega⟩, fun d hd => ?_⟩
    obtain ⟨q, hq, rfl⟩ := List.mem_map.mp hd
    obtain ⟨e1, e2⟩ := hr q hq
    simp only [rowD, stripOk, List.map_cons, wid, Bool.and_eq_true, decide_eq_true_eq, List.length_map, List.all_eq_true]
    refine ⟨⟨⟨by omega, by omega⟩, by omega⟩, fun y hy => ?_⟩
    obtain ⟨b, hb, rfl⟩ := List.mem_map.mp hy
    rcases e2 b hb with rfl | rfl <;> rfl
theorem tab_isTab {x : D} (h : isTab x = true) : ∃ G, x = tabD G ∧ Tab G := by
  cases x with
  | tup xs =>
    simp only [isTab, Bool.and_eq_true, decide_eq_true_eq, List.all_eq_true] at h
    obtain ⟨⟨h1, h2⟩, h3⟩ := h
    have key : ∀ d ∈ xs, ∃ r, d = rowD r ∧ 1 ≤ r.length ∧ r.length ≤ 6 ∧ r.length = wid xs ∧ ∀ b ∈ r, b = 0 ∨ b = 1 := fun d hd => by
      have := h3 d hd
      cases d with
      | tup ys =>
        simp only [stripOk, Bool.and_eq_true, decide_eq_true_eq, List.all_eq_true] at this
        obtain ⟨⟨⟨k1, k2⟩, k3⟩, k4⟩ := this
        have hb : Bits (wid xs) ys := ⟨k3, fun y hy => by
          have := k4 y hy
          cases y with
          | int i =>
            simp only [bit, Bool.and_eq_true, decide_eq_true_eq] at this
            have : i = 0 ∨ i = 1 := by omega
            rcases this with rfl | rfl
            · exact .inl rfl
            · exact .inr rfl
          | _ => cases this⟩
        obtain ⟨r, rfl, e1, e2⟩ := bits_of hb
        exact ⟨r, rfl, by simpa using k1, by simpa using k2, e1, e2⟩
      | _ => cases this
    obtain ⟨G, rfl⟩ := map_of_all (f := rowD) fun d hd => (key d hd).imp fun r h => h.1
    have key2 : ∀ r ∈ G, 1 ≤ r.length ∧ r.length ≤ 6 ∧ r.length = wid (G.map rowD) ∧ ∀ b ∈ r, b = 0 ∨ b = 1 := fun r hr => by
      obtain ⟨q, e, h⟩ := key (rowD r) (List.mem_map.mpr ⟨r, hr, rfl⟩)
      have : r = q := by
        have e : r.map D.int = q.map D.int := by simpa [rowD] using e
        exact List.map_inj_right (fun x y h => by cases h; rfl) |>.mp e
      subst this
      exact h
    rw [List.length_map] at h1 h2
    refine ⟨G, rfl, G.length, wid (G.map rowD), h1, h2, ?_, ?_, rfl, fun r hr => (key2 r hr).2.2⟩
    · cases G with
      | nil => simp at h1
      | cons r G => have := key2 r List.mem_cons_self; omega
    · cases G with
      | nil => simp at h1
      | cons r G => have := key2 r List.mem_cons_self; omega
  | _ => cases h
theorem Tab.mat {G : List (List Int)} (h : Tab G) : 1 ≤ G.length ∧ G.length ≤ 6 ∧ ∃ w, 1 ≤ w ∧ w ≤ 6 ∧ Mat G.length w G := by
  obtain ⟨h, w, h1, h2, w1, w2, hm⟩ := h
  have := hm.1
  subst this
  exact ⟨h1, h2, w, w1, w2, hm⟩
theorem tabD_inj {G G' : List (List Int)} (h : tabD G = tabD G') : G = G' := by
  have e : G.map rowD = G'.map rowD := by simpa [tabD] using h
  refine List.map_inj_right (fun x y h => ?_) |>.mp e
  have e : x.map D.int = y.map D.int := by simpa [rowD] using h
  exact List.map_inj_right (fun x y h => by cases h; rfl) |>.mp e
/-! sums -/
@[simp] theorem dInts_ints (r : List Int) : dInts (r.map .int) = some r := by
  induction r with
  | nil => rfl
  | cons b r ih => simp [dInts, ih]
theorem dInts_map {α : Type} (l : List α) (f : α → Int) : dInts (l.map fun x => .int (f x)) = some (l.map f) := by
  have := dInts_ints (l.map f)
  rwa [List.map_map] at this
theorem enumD_map {α : Type} (f : α → D) : ∀ (l : List α) (k : Nat), enumD k (l.map f) = (l.zipIdx k).map fun p => .tup [.int p.2, f p.1]
  | [], _ => rfl
  | x :: l, k => by simp [enumD, enumD_map f l (k + 1)]
/-- the places of a number -/
def cellsN (G : List (List Int)) (n : Int) : List (Nat × Nat) := (G.zipIdx).flatMap fun p => (p.1.zipIdx).filterMap fun q => if q.1 = n then some (p.2, q.2) else none
def cellD (p : Nat × Nat) : D := .tup [.int p.1, .int p.2]
def onesN (G : List (List Int)) : Int := (G.map List.sum).sum
/-- a loop, by what it has behind it -/
theorem ok_forP {α : Type} {X : Nat → List D → Store → Prop} {f : Br.Env → Store → Res Fl} {t : Tg} {Q : Fl → Store → Prop} {l : List α} {g : α → Vl} {ρ : Br.Env} {st : Store} (J : List α → Br.Env → Store → Prop) (h0 : J [] ρ st)
    (step : ∀ pre x post ρ st, l = pre ++ x :: post → J pre ρ st → ∃ ρ', put t (g x) ρ = some ρ' ∧ OkX X (f ρ' st) fun fl st' => match fl with
      | .next ρ2 => J (pre ++ [x]) ρ2 st'
      | .ret v => Q (.ret v) st') (done : ∀ ρ st, J l ρ st → Q (.next ρ) st) : OkX X (forL f t (l.map g) ρ st) Q := by
  refine ok_for (fun i ρ st => J (l.take i) ρ st) (by simpa using h0) (fun i v ρ st hv hJ => ?_) fun ρ st hJ => done ρ st (by simpa using hJ)
  rw [List.getElem?_map] at hv
  cases e : l[i]? with
  | none => rw [e] at hv; cases hv
  | some x =>
    rw [e] at hv
    cases hv
    obtain ⟨hi, ex⟩ := List.getElem?_eq_some_iff.mp e
    have e2 : l.take (i + 1) = l.take i ++ [x] := by rw [List.take_add_one, e]; rfl
    have e3 : l = l.take i ++ x :: l.drop (i + 1) := by
      conv => lhs; rw [← List.take_append_drop i l]
      rw [List.drop_eq_getElem_cons hi, ex]
    obtain ⟨ρ', h1, h2⟩ := step _ x _ ρ st e3 hJ
    refine ⟨ρ', h1, h2.mono fun fl st' h => ?_⟩
    cases fl with
    | next ρ2 => rw [e2]; exact h
    | ret v => exact h
theorem vls_map {α : Type} (f : α → D) (l : List α) : vls (l.map f) = l.map fun x => .d (f x) := by
  unfold vls
  rw [List.map_map]
  rfl
theorem vls_enum {α : Type} (f : α → D) (l : List α) : vls (enumD 0 (l.map f)) = l.zipIdx.map fun p => .d (.tup [.int p.2, f p.1]) := by
  rw [enumD_map, vls_map]
@[simp] theorem enumD_len : ∀ (xs : List D) (k : Nat), (enumD k xs).length = xs.length
  | [], _ => rfl
  | x :: xs, k => by simp [enumD, enumD_len xs (k + 1)]

/-- the number of ones of a table -/
def Ones_of (C : Oracle) (k : Nat) : Prop := ∀ G : List (List Int), G.length ≤ 1000 → Gives C k [tabD G] (.int (onesN G))
/-- the cells of a number, row by row -/
def LCells (C : Oracle) (k : Nat) : Prop := ∀ (G : List (List Int)) (n : Int) (h w : Nat), h ≤ 100 → w ≤ 100 → Mat h w G → Gives C k [tabD G, .int n] (.lst ((cellsN G n).map cellD))
def cellsOf (n : Int) (p : List Int × Nat) : List (Nat × Nat) := (p.1.zipIdx).filterMap fun q => if q.1 = n then some (p.2, q.2) else none
theorem cellsN_eq (G : List (List Int)) (n : Int) : cellsN G n = (G.zipIdx).flatMap (cellsOf n) := rfl
theorem cellsOf_len (n : Int) (p : List Int × Nat) : (cellsOf n p).length ≤ p.1.length := by
  unfold cellsOf
  refine Nat.le_trans (List.length_filterMap_le _ _) ?_
  simp
theorem flat_len {α β : Type} {f : α → List β} {m : Nat} : ∀ {l : List α}, (∀ x ∈ l, (f x).length ≤ m) → (l.flatMap f).length ≤ l.length * m
  | [], _ => by simp
  | x :: l, h => by
    have h1 := h x List.mem_cons_self
    have h2 := flat_len (f := f) (m := m) (l := l) fun y hy => h y (List.mem_cons_of_mem _ hy)
    rw [List.flatMap_cons, List.length_append, List.length_cons, Nat.add_mul]
    omega
theorem mem_zip {α : Type} {l : List α} {p : α × Nat} (h : p ∈ l.zipIdx) : p.1 ∈ l ∧ p.2 < l.length := by
  obtain ⟨x, i⟩ := p
  have := List.mem_zipIdx h
  simp at this
  obtain ⟨h1, h2⟩ := this
  exact ⟨h2 ▸ List.getElem_mem _, h1⟩

def Cells (C : Oracle) (k : Nat) : Prop := ∀ (ns : List Int) (i : Nat), ∃ c : Int, Gives C k [.kst (ns.map .int), .int i] (.int c)
theorem s_law_cell {T : List Fn} {n k : Nat} (e : T[k]? = some d_law_cell) : Cells (orc T (n + 1)) k := fun ns i => by
  refine ⟨ns.getD i 0, gives_of e rfl fun st => ?_⟩
  show Ok (evSs _ b_law_cell [some (.d (.kst (ns.map .int))), some (.d (.int i))] st) _
  simp [b_law_cell]
  by_cases h : i < ns.length
  · refine .inr ⟨h, ?_⟩
    simp [h]
  · refine .inl ⟨by omega, ?_⟩
    simp [List.getElem?_eq_none (Nat.le_of_not_lt h)]

/-! rising rows of alike data -/
def chainD : List D → Bool
  | x :: y :: r => ltX x y && chainD (y :: r)
  | _ => true
theorem ltX_trans {a b c : D} (h : ltX a b = true) (k : ltX b c = true) : ltX a c = true := PyProof.Rows.lex_trans (O := PyProof.Rows.itemOrd) _ _ _ h k
theorem ltX_irr (a : D) : ltX a a = false := PyProof.Rows.lex_irrefl (O := PyProof.Rows.itemOrd) _
theorem chain_pw : ∀ {xs : List D}, chainD xs = true ↔ xs.Pairwise fun a b => ltX a b = true
  | [] => by simp [chainD]
  | [x] => by simp [chainD]
  | x :: y :: r => by
    have ih := chain_pw (xs := y :: r)
    simp only [chainD, Bool.and_eq_true, ih]
    constructor
    · rintro ⟨h1, h2⟩
      refine List.pairwise_cons.mpr ⟨fun z hz => ?_, h2⟩
      rcases List.mem_cons.mp hz with rfl | hz
      · exact h1
      · exact ltX_trans h1 ((List.pairwise_cons.mp h2).1 z hz)
    · intro h
      obtain ⟨h1, h2⟩ := List.pairwise_cons.mp h
      exact ⟨h1 y List.mem_cons_self, h2⟩
theorem chain_zip : ∀ xs : List D, (xs.zip (xs.drop 1)).all (fun p => ltX p.1 p.2) = chainD xs
  | [] => rfl
  | [x] => rfl
  | x :: y :: r => by
    have ih := chain_zip (y :: r)
    simp only [List.drop_succ_cons, List.drop_zero, List.zip_cons_cons, List.all_cons, chainD] at ih ⊢
    rw [ih]
theorem chain_sort {xs : List D} (num : ∀ x ∈ xs, numD x = true) (al : ∀ x ∈ xs, ∀ y ∈ xs, PySem.W.alike (toPy x) (toPy y) = true) : chainD xs = true ↔ xs = sortD (nubD xs) := by
  rw [chain_pw]
  constructor
  · intro h
    refine sort_one num al (h.imp fun {a b} k e => ?_) (fun d => Iff.rfl) (h.imp fun {a b} k => ltX_asym a b k)
    rw [e, ltX_irr] at k
    cases k
  · intro e
    have nd : xs.Nodup := by
      rw [e]
      exact (sortD_perm _).nodup_iff.mpr (nubD_nodup num)
    have st : xs.Pairwise fun a b => ltX b a = false := by
      rw [e]
      exact sortD_sorted _
    refine List.Pairwise.imp_of_mem (fun {a b} ha hb h => ?_) (List.pairwise_and_iff.mpr ⟨nd, st⟩)
    cases q : ltX a b with
    | true => rfl
    | false => exact absurd (le_anti (num a ha) (num b hb) (al a ha b hb) q h.2) h.1
theorem numsD_of : ∀ {xs : List D}, (∀ x ∈ xs, numD x = true) → numsD xs = true
  | [], _ => rfl
  | x :: l, h => by
    simp only [numsD, Bool.and_eq_true]
    exact ⟨h x List.mem_cons_self, numsD_of fun y hy => h y (List.mem_cons_of_mem _ hy)⟩
theorem eqD_lst {xs ys : List D} (hx : ∀ x ∈ xs, numD x = true) (hy : ∀ y ∈ ys, numD y = true) : eqD (.lst xs) (.lst ys) = true ↔ xs = ys := by
  have e : eqD (.lst xs) (.lst ys) = PyData.eqvAll (toPys xs) (toPys ys) := by simp [eqD, toPy, PyData.eqv]
  rw [e]
  exact ⟨numsD_eq (numsD_of hx) (numsD_of hy), fun h => by
    subst h
    exact numsD_refl (numsD_of hx)⟩
theorem plains_num {xs : List D} (h : ∀ x ∈ xs, numD x = true) : plains xs = true := plains_of fun d hd => num_plain (h d hd)
theorem eqO_lst_num {xs ys : List D} (hx : ∀ x ∈ xs, numD x = true) (hy : ∀ y ∈ ys, numD y = true) (hd : ∀ x ∈ xs, (toPy x).depth ≤ 100) : eqO (.lst xs) (.lst ys) = some (eqD (.lst xs) (.lst ys)) := by
  have h1 : (toPy (.lst xs)).depth ≤ 150 := by
    have := depthAll_le (ds := xs) hd
    simp only [toPy, PyData.depth]
    omega
  simp [eqO, Br.plain, plains_num hx, plains_num hy, h1]
theorem cut_from (xs : List D) (k : Nat) : cut xs (some (k : Int)) none = xs.drop k := by
  unfold cut
  rw [HT.sIx_nat, HT.sIx_none]
  rcases Nat.le_total k xs.length with h | h
  · rw [Nat.min_eq_left h, List.take_of_length_le (by rw [List.length_drop]; omega)]
  · rw [Nat.min_eq_right h, List.drop_eq_nil_of_le (Nat.le_refl _), List.drop_eq_nil_of_le h, List.take_nil]
theorem cut_one (xs : List D) : cut xs (some 1) none = xs.drop 1 := cut_from xs 1
/-! rows and tables as data -/
theorem numsD_ints (r : List Int) : numsD (r.map .int) = true := by
  induction r with
  | nil => rfl
  | cons b r ih => simp [numsD, numD, ih]
@[simp] theorem numD_row (r : List Int) : numD (rowD r) = true := numsD_ints r
theorem numsD_rows (G : List (List Int)) : numsD (G.map rowD) = true := by
  induction G with
  | nil => rfl
  | cons r G ih => simp [numsD, ih]
@[simp] theorem numD_tab (G : List (List Int)) : numD (tabD G) = true := numsD_rows G
theorem alike_row (r q : List Int) : PySem.W.alike (toPy (rowD r)) (toPy (rowD q)) = true := by
  simp only [rowD, toPy, PySem.W.alike, toPys_ints]
  exact PySem.W.alike_ints r q
theorem alike_rows : ∀ G F : List (List Int), PySem.W.alikeAll (toPys (G.map rowD)) (toPys (F.map rowD)) = true
  | [], F => by simp [toPys, PySem.W.alikeAll]
  | _ :: _, [] => by simp [toPys, PySem.W.alikeAll]
  | r :: G, q :: F => by simp [toPys, PySem.W.alikeAll, alike_row, alike_rows G F]
theorem alike_tab (G F : List (List Int)) : PySem.W.alike (toPy (tabD G)) (toPy (tabD F)) = true := by
  simp only [tabD, toPy, PySem.W.alike]
  exact alike_rows G F
theorem depth_row (r : List Int) : (toPy (rowD r)).depth = 1 := by
  simp only [rowD, toPy, toPys_ints, PyData.depth, PySem.W.depth_ints]
theorem depth_tab (G : List (List Int)) : (toPy (tabD G)).depth ≤ 2 := by
  have := depthAll_le (ds := G.map rowD) (n := 1) fun d hd => by
    obtain ⟨r, _, rfl⟩ := List.mem_map.mp hd
    exact Nat.le_of_eq (depth_row r)
  simp only [tabD, toPy, PyData.depth]
  omega
theorem lt_tab (G F : List (List Int)) : cmpD .lt (tabD G) (tabD F) = some (ltX (tabD G) (tabD F)) := by
  have h1 := alike_tab G F
  have h2 : Br.plain (tabD G) = true := num_plain (numD_tab G)
  have h3 : Br.plain (tabD F) = true := num_plain (numD_tab F)
  have h4 := depth_tab G
  show ordO ltX (tabD G) (tabD F) = _
  simp only [ordO, h1, h2, h3, Bool.true_and, decide_eq_true_eq]
  rw [if_pos (by omega)]
theorem zipD_eq : ∀ xs ys : List D, zipD xs ys = (xs.zip ys).map fun p => .tup [p.1, p.2]
  | [], _ => by simp [zipD]
  | _ :: _, [] => by simp [zipD]
  | x :: xs, y :: ys => by simp [zipD, zipD_eq xs ys]
theorem dBls_map {α : Type} (p : α → Bool) : ∀ l : List α, dBls (l.map fun x => .bl (p x)) = some (l.map p)
  | [] => rfl
  | x :: l => by simp [dBls, dBls_map p l]
theorem vls_zip (xs ys : List D) : vls (zipD xs ys) = (xs.zip ys).map fun p => .d (.tup [p.1, p.2]) := by
  rw [zipD_eq, vls_map]
theorem fm_some {α β : Type} (f : α → β) : ∀ l : List α, l.filterMap (fun x => some (f x)) = l.map f
  | [] => rfl
  | x :: l => by simp
theorem zipD_len (xs ys : List D) : (zipD xs ys).length = min xs.length ys.length := by rw [zipD_eq]; simp

/-! defs that may raise -/
inductive Out where
  | val (x : D)
  | exc (c : Nat) (fs : List D)
def Out.res (o : Out) (st : Store) : Res Vl := match o with
  | .val x => .ok (.d x) st
  | .exc c fs => .exc c fs st
@[simp] theorem res_val (x : D) (st : Store) : (Out.val x).res st = .ok (.d x) st := rfl
@[simp] theorem res_exc (c : Nat) (fs : List D) (st : Store) : (Out.exc c fs).res st = .exc c fs st := rfl
def Outs (C : Oracle) (k : Nat) (ds : List D) (o : Out) : Prop := ∀ st : Store, fin st (C k (ds.map .d) st) = o.res st
theorem Outs.at1 {C : Oracle} {k : Nat} {a : D} {o : Out} (h : Outs C k [a] o) (st : Store) : fin st (C k [.d a] st) = o.res st := h st
theorem Outs.at2 {C : Oracle} {k : Nat} {a b : D} {o : Out} (h : Outs C k [a, b] o) (st : Store) : fin st (C k [.d a, .d b] st) = o.res st := h st
theorem Outs.at3 {C : Oracle} {k : Nat} {a b c : D} {o : Out} (h : Outs C k [a, b, c] o) (st : Store) : fin st (C k [.d a, .d b, .d c] st) = o.res st := h st
theorem Outs.at4 {C : Oracle} {k : Nat} {a b c d : D} {o : Out} (h : Outs C k [a, b, c, d] o) (st : Store) : fin st (C k [.d a, .d b, .d c, .d d] st) = o.res st := h st
theorem Gives.outs {C : Oracle} {k : Nat} {ds : List D} {x : D} (h : Gives C k ds x) : Outs C k ds (.val x) := h
theorem Outs.gives {C : Oracle} {k : Nat} {ds : List D} {x : D} (h : Outs C k ds (.val x)) : Gives C k ds x := h
def OutX (o : Out) (st : Store) : Nat → List D → Store → Prop := fun c fs st1 => o = .exc c fs ∧ Stand [] st st1
def OutQ (o : Out) (st : Store) : Fl → Store → Prop := fun fl st1 => ∃ x, o = .val x ∧ (flV fl = .d x ∨ ∃ k xs, flV fl = .r k ∧ st.length ≤ k ∧ st1[k]? = some (.lst xs) ∧ x = .lst xs) ∧ Stand [] st st1
@[simp] theorem outX_app (o : Out) (st : Store) (c : Nat) (fs : List D) (st1 : Store) : OutX o st c fs st1 = (o = .exc c fs ∧ Stand [] st st1) := rfl
@[simp] theorem outQ_ret (o : Out) (st : Store) (x : D) (st1 : Store) : OutQ o st (.ret (.d x)) st1 = (o = .val x ∧ Stand [] st st1) := by
  refine propext ⟨fun ⟨y, e, h, s⟩ => ?_, fun ⟨e, s⟩ => ⟨x, e, .inl rfl, s⟩⟩
  rcases h with h | ⟨_, _, h, _⟩
  · cases h; exact ⟨e, s⟩
  · cases h
@[simp] theorem outQ_next (o : Out) (st : Store) (ρ : Br.Env) (st1 : Store) : OutQ o st (.next ρ) st1 = (o = .val .non ∧ Stand [] st st1) := by
  refine propext ⟨fun ⟨y, e, h, s⟩ => ?_, fun ⟨e, s⟩ => ⟨.non, e, .inl rfl, s⟩⟩
  rcases h with h | ⟨_, _, h, _⟩
  · cases h; exact ⟨e, s⟩
  · cases h
theorem outs_of {T : List Fn} {n k : Nat} {ds : List D} {o : Out} {f : Fn} (e : T[k]? = some f) (hl : ds.length = f.np) (h : ∀ st, OkX (OutX o st) (evSs (orc T n) f.body (start f (ds.map .d)) st) (OutQ o st)) : Outs (orc T (n + 1)) k ds o := fun st => by
  have hl' : (ds.map Vl.d).length = f.np := by rw [List.length_map]; exact hl
  cases o with
  | val x =>
    refine eq_of_ok (ok_fin0 (ok_orc e hl' rfl ((h st).mono2 (fun fl st1 ⟨y, ey, hy, hs⟩ => ?_) fun c fs st1 z => by cases z.1)))
    cases ey
    exact ⟨hs, x, hy, rfl, rfl⟩
  | exc c fs =>
    refine finX_eq e hl' rfl ((h st).mono2 (fun fl st1 ⟨y, ey, _⟩ => by cases ey) fun c' fs' st1 z => ?_)
    obtain ⟨z, hs⟩ := z
    cases z
    exact ⟨rfl, rfl, hs⟩
@[simp] theorem tryX_app (C : Oracle) (n i : Nat) (hs : Ss) (m : Nat) (Q : Fl → Store → Prop) (c : Nat) (fs : List D) (st1 : Store) : TryX C n i hs m Q c fs st1 = (c < n ∧ ∃ is, dInts fs = some is ∧ Ok (evSs C hs (tryEnv m i c is) []) fun fl _ => ∃ y, fl = .ret (.d y) ∧ noX y = true ∧ Q (.ret (.d y)) st1) := rfl
@[simp] theorem dInts_nil : dInts [] = some [] := rfl
@[simp] theorem dInts_two (i j : Int) : dInts [.int i, .int j] = some [i, j] := rfl
@[simp] theorem noX_str (s : Str) : noX (.str s) = true := rfl
@[simp] theorem noX_int (i : Int) : noX (.int i) = true := rfl
@[simp] theorem noX_lst (xs : List D) : noX (.lst xs) = noXs xs := rfl
@[simp] theorem noXs_nil : noXs [] = true := rfl
@[simp] theorem noXs_cons (x : D) (r : List D) : noXs (x :: r) = (noX x && noXs r) := rfl
/-- what a class is told by -/
def wordsL : List Str := ["table", "number", "cells", "cell", "picks", "fit", "little", "littles", "barred", "kind", "edge", "order", "way", "paper", "text", "line", "deed", "great"]
def word (c : Nat) : Str := wordsL.getD (c - 1) "other"
def Kinds (C : Oracle) (k : Nat) : Prop := ∀ c fs, 1 ≤ c → c ≤ 18 → ∀ st, fin st (C k [.d (.xc c fs)] st) = .ok (.d (.str (word c))) st
def marks (c : Nat) : List D := [.bl (c == 1), .bl (c == 2), .bl (c == 3), .bl (c == 4), .bl (c == 5), .bl (c == 6), .bl (c == 7), .bl (c == 8), .bl (c == 9), .bl (c == 10), .bl (c == 11), .bl (c == 12), .bl (c == 13), .bl (c == 14), .bl (c == 15), .bl (c == 16), .bl (c == 17), .bl (c == 18)]
theorem cls_cases {c : Nat} (h1 : 1 ≤ c) (h2 : c ≤ 18) : c = 1 ∨ c = 2 ∨ c = 3 ∨ c = 4 ∨ c = 5 ∨ c = 6 ∨ c = 7 ∨ c = 8 ∨ c = 9 ∨ c = 10 ∨ c = 11 ∨ c = 12 ∨ c = 13 ∨ c = 14 ∨ c = 15 ∨ c = 16 ∨ c = 17 ∨ c = 18 := by omega
theorem marks_count {c : Nat} (h1 : 1 ≤ c) (h2 : c ≤ 18) : m1D .count (.lst (marks c)) (.bl true) = some (.int 1) := by
  rcases cls_cases h1 h2 with rfl | rfl | rfl | rfl | rfl | rfl | rfl | rfl | rfl | rfl | rfl | rfl | rfl | rfl | rfl | rfl | rfl | rfl <;> rfl
theorem marks_index {c : Nat} (h1 : 1 ≤ c) (h2 : c ≤ 18) : m1D .index (.lst (marks c)) (.bl true) = some (.int ((c - 1 : Nat) : Int)) := by
  rcases cls_cases h1 h2 with rfl | rfl | rfl | rfl | rfl | rfl | rfl | rfl | rfl | rfl | rfl | rfl | rfl | rfl | rfl | rfl | rfl | rfl <;> rfl
theorem words_at {c : Nat} (h1 : 1 ≤ c) (h2 : c ≤ 18) : (wordsL.map D.str)[c - 1]? = some (.str (word c)) := by
  unfold word
  rw [List.getElem?_map, List.getD_eq_getElem?_getD]
  have : c - 1 < wordsL.length := by show c - 1 < 18; omega
  rw [List.getElem?_eq_getElem this]
  rfl
/-! numbers from 1 to a greatest one, where none refuses -/
def Must_numberG (C : Oracle) (k : Nat) : Prop := ∀ h hi : Int, 1 ≤ h → h ≤ hi → Gives C k [.int h, .int hi] .non
def Must_sizeG (C : Oracle) (k : Nat) : Prop := ∀ h w : Nat, 1 ≤ h → h ≤ 6 → 1 ≤ w → w ≤ 6 → Gives C k [.int h, .int w] .non
/-! tables of a size -/
theorem rangeD_len (lo : Int) (n : Nat) : (rangeD lo n).length = n := by simp [rangeD]
/-- all cells of a size -/
def placesN (h w : Nat) : List (Nat × Nat) := (List.range h).flatMap fun r => (List.range w).map fun c => (r, c)
theorem mem_places {h w r c : Nat} : (r, c) ∈ placesN h w ↔ r < h ∧ c < w := by
  simp [placesN]
theorem catD_lsts : ∀ (ls : List (List D)), catD (ls.map D.lst) = some ls.flatten
  | [] => rfl
  | l :: r => by
    show (catD (r.map D.lst)).map (l ++ ·) = _
    rw [catD_lsts r]
    rfl
theorem places_len (h w : Nat) : (placesN h w).length = h * w := by
  unfold placesN
  rw [List.length_flatMap]
  simp [List.map_const']
def Places (C : Oracle) (k : Nat) : Prop := ∀ h w : Nat, h ≤ 100 → w ≤ 100 → Gives C k [.int h, .int w] (.lst ((placesN h w).map cellD))
/-- the table of a size with ones where p says -/
def bldM (h w : Nat) (p : Nat → Nat → Bool) : List (List Int) := (List.range h).map fun r => (List.range w).map fun c => if p r c then 1 else 0
theorem eqD_cell (p q : Nat × Nat) : eqD (cellD p) (cellD q) = decide (p = q) := by
  obtain ⟨a, b⟩ := p
  obtain ⟨c, d⟩ := q
  simp [eqD, cellD, toPy, toPys, PyData.eqv, PyData.eqvAll]
  rw [Bool.eq_iff_iff]
  simp
  omega
theorem inO_cells (p : Nat × Nat) (l : List (Nat × Nat)) : inO (cellD p) (l.map cellD) = some (decide (p ∈ l)) := by
  have h1 : plains (l.map cellD) = true := by
    induction l with
    | nil => rfl
    | cons q l ih => simp [plains, ih, cellD, Br.plain]
  have h2 : Br.plain (cellD p) = true := by simp [cellD, Br.plain, plains]
  have h3 : (toPy (cellD p)).depth ≤ 150 := by simp [cellD, toPy, toPys, PyData.depth, PyData.depthAll]
  unfold inO
  simp only [h1, h2, h3, Bool.and_self, decide_true, Bool.true_or, if_true, Option.some.injEq]
  rw [Bool.eq_iff_iff]
  simp only [List.any_map, List.any_eq_true, Function.comp, eqD_cell, decide_eq_true_eq]
  constructor
  · rintro ⟨q, hq, rfl⟩
    exact hq
  · exact fun h => ⟨p, h, rfl⟩
def Builts (C : Oracle) (k : Nat) : Prop := ∀ (h w : Nat) (l : List (Nat × Nat)), h ≤ 100 → w ≤ 100 → Gives C k [.int h, .int w, .lst (l.map cellD)] (tabD (bldM h w fun r c => decide ((r, c) ∈ l)))
theorem bldM_congr {h w : Nat} {p q : Nat → Nat → Bool} (e : ∀ r c, r < h → c < w → p r c = q r c) : bldM h w p = bldM h w q := by
  unfold bldM
  refine List.map_congr_left fun r hr => List.map_congr_left fun c hc => ?_
  rw [e r c (List.mem_range.mp hr) (List.mem_range.mp hc)]
theorem between_nat {h : Nat} {a b : Int} (h1 : a ≤ h) (h2 : (h : Int) ≤ b) : between a b (.int h) = true := by
  simp [between, h1, h2]
def Sized (C : Oracle) (k : Nat) (p : Nat → Nat → Bool) : Prop := (∀ h w : Nat, 1 ≤ h → h ≤ 6 → 1 ≤ w → w ≤ 6 → Gives C k [.int h, .int w] (tabD (bldM h w p))) ∧ ∀ x y, okD x → okD y → (between 1 6 x && between 1 6 y) = false → Outs C k [x, y] (.exc 2 [])
def Bares (C : Oracle) (k : Nat) : Prop := Sized C k fun _ _ => false
def Fulls (C : Oracle) (k : Nat) : Prop := Sized C k fun _ _ => true
def Units (C : Oracle) (k : Nat) : Prop := (∀ h : Nat, 1 ≤ h → h ≤ 6 → Gives C k [.int h] (tabD (bldM h h fun r c => decide (r = c)))) ∧ ∀ x, okD x → between 1 6 x = false → Outs C k [x] (.exc 2 [])
/-! kinds and edges -/
def LOWs : List (Str × Int) := [("row", 1), ("column", 1), ("slant", 1), ("rise", 1), ("corner", 0)]
def isKindD : D → Bool
  | .tup [.str s, x] => match getS LOWs s with
    | some lo => between lo 3 x
    | none => false
  | _ => false
def isEdgeD : D → Bool
  | .tup xs => decide (xs.length = 4) && xs.all (between 0 2)
  | _ => false
def IsKind (C : Oracle) (k : Nat) : Prop := ∀ x, clean x = true → Gives C k [x] (.bl (isKindD x))
theorem s_is_kind {T : List Fn} {n k k1 : Nat} (e : T[k]? = some (d_is_kind k1)) (g1 : Is_from (orc T n) k1) : IsKind (orc T (n + 1)) k := fun x hx => gives_of e rfl fun st => by
  show Ok (evSs _ (b_is_kind k1) [some (.d x)] st) _
  cases x with
  | fn k => cases hx
  | xc _ _ => cases hx
  | tup xs =>
    have hc : cleans xs = true := by simpa [clean] using hx
    match xs, hc with
    | [], _ => simp [b_is_kind, isKindD]
    | [a], _ => simp [b_is_kind, isKindD]
    | [a, b], hc =>
      have ca := cleans_iff.mp hc a (by simp)
      have cb := cleans_iff.mp hc b (by simp)
      cases a with
      | fn k => cases ca
      | xc _ _ => cases ca
      | str s =>
        show Ok (evSs _ (b_is_kind k1) [some (.d (.tup [.str s, b]))] st) _
        cases es : getS LOWs s with
        | none =>
          have es' := es
          unfold LOWs at es'
          simp [b_is_kind, isKindD, es, es']
        | some lo =>
          have es' := es
          unfold LOWs at es'
          have q := (g1 b lo 3 (clean_okD cb)).at3
          simp [b_is_kind, isKindD, es, es', q]
      | _ => simp [b_is_kind, isKindD]
    | a :: b :: c :: r, _ =>
      have : ¬ ((r.length : Int) + 1 + 1 + 1 = 2) := by omega
      simp [b_is_kind, isKindD, this]
  | _ => simp [b_is_kind, isKindD]
def IsEdge (C : Oracle) (k : Nat) : Prop := ∀ x, clean x = true → Gives C k [x] (.bl (isEdgeD x))
theorem s_is_edge {T : List Fn} {n k k1 : Nat} (e : T[k]? = some (d_is_edge k1)) (g1 : Is_from (orc T n) k1) : IsEdge (orc T (n + 1)) k := fun x hx => gives_of e rfl fun st => by
  show Ok (evSs _ (b_is_edge k1) [some (.d x), none] st) _
  cases x with
  | fn k => cases hx
  | xc _ _ => cases hx
  | tup xs =>
    have hc : cleans xs = true := by simpa [clean] using hx
    by_cases h4 : xs.length = 4
    · have sz : (4 : Nat) ≤ sizeLine := size_ok (by omega)
      simp [b_is_edge, isEdgeD, h4]
      refine ok_map (fun y => .bl (between 0 2 y)) (fun y hy => ⟨_, rfl, ?_⟩) ?_
      · have q := (g1 y 0 2 (clean_okD (cleans_iff.mp hc y hy))).at3
        simp [q]
      · simp [h4, sz]
    · have h5 : ¬ ((xs.length : Int) = 4) := by omega
      simp [b_is_edge, isEdgeD, h4, h5]
  | _ => simp [b_is_edge, isEdgeD]
def keOut (x y : D) : Out := if isKindD x = true then (if isEdgeD y = true then .val .non else .exc 11 []) else .exc 10 []
def KEdge (C : Oracle) (k : Nat) : Prop := ∀ x y, clean x = true → clean y = true → Outs C k [x, y] (keOut x y)
def kwL : List Str := ["row", "column", "slant", "rise", "corner"]
def kwS (w : Nat) : Str := kwL.getD w ""
def kindD (w n : Nat) : D := .tup [.str (kwS w), .int n]
def edgeD (a b c d : Nat) : D := .tup [.int a, .int b, .int c, .int d]
def kOk (w n : Nat) : Prop := w < 5 ∧ n ≤ 3 ∧ (w ≠ 4 → 1 ≤ n)
theorem str_ne {a b : Str} (h : decide (a = b) = false) : (a = b) = False := eq_false (of_decide_eq_false h)
@[simp] theorem put_names (is : List Nat) (xs : List D) (ρ : Br.Env) : put (.names is) (.d (.tup xs)) ρ = putN is (xs.map .d) ρ := rfl
@[simp] theorem kw01 : (("row" : Str) = "column") = False := str_ne (by decide)
@[simp] theorem kw02 : (("row" : Str) = "slant") = False := str_ne (by decide)
@[simp] theorem kw03 : (("row" : Str) = "rise") = False := str_ne (by decide)
@[simp] theorem kw04 : (("row" : Str) = "corner") = False := str_ne (by decide)
@[simp] theorem kw10 : (("column" : Str) = "row") = False := str_ne (by decide)
@[simp] theorem kw12 : (("column" : Str) = "slant") = False := str_ne (by decide)
@[simp] theorem kw13 : (("column" : Str) = "rise") = False := str_ne (by decide)
@[simp] theorem kw14 : (("column" : Str) = "corner") = False := str_ne (by decide)
@[simp] theorem kw20 : (("slant" : Str) = "row") = False := str_ne (by decide)
@[simp] theorem kw21 : (("slant" : Str) = "column") = False := str_ne (by decide)
@[simp] theorem kw23 : (("slant" : Str) = "rise") = False := str_ne (by decide)
@[simp] theorem kw24 : (("slant" : Str) = "corner") = False := str_ne (by decide)
@[simp] theorem kw30 : (("rise" : Str) = "row") = False := str_ne (by decide)
@[simp] theorem kw31 : (("rise" : Str) = "column") = False := str_ne (by decide)
@[simp] theorem kw32 : (("rise" : Str) = "slant") = False := str_ne (by decide)
@[simp] theorem kw34 : (("rise" : Str) = "corner") = False := str_ne (by decide)
@[simp] theorem kw40 : (("corner" : Str) = "row") = False := str_ne (by decide)
@[simp] theorem kw41 : (("corner" : Str) = "column") = False := str_ne (by decide)
@[simp] theorem kw42 : (("corner" : Str) = "slant") = False := str_ne (by decide)
@[simp] theorem kw43 : (("corner" : Str) = "rise") = False := str_ne (by decide)
theorem five {w : Nat} (h : w < 5) : w = 0 ∨ w = 1 ∨ w = 2 ∨ w = 3 ∨ w = 4 := by omega
theorem kind_ok {w n : Nat} (h : kOk w n) : isKindD (kindD w n) = true ∧ clean (kindD w n) = true := by
  obtain ⟨h1, h2, h3⟩ := h
  rcases five h1 with rfl | rfl | rfl | rfl | rfl
  · exact ⟨by have := h3 (by omega); simp [isKindD, kindD, kwS, kwL, getS, LOWs, between]; omega, rfl⟩
  · exact ⟨by have := h3 (by omega); simp [isKindD, kindD, kwS, kwL, getS, LOWs, between]; omega, rfl⟩
  · exact ⟨by have := h3 (by omega); simp [isKindD, kindD, kwS, kwL, getS, LOWs, between]; omega, rfl⟩
  · exact ⟨by have := h3 (by omega); simp [isKindD, kindD, kwS, kwL, getS, LOWs, between]; omega, rfl⟩
  · exact ⟨by simp [isKindD, kindD, kwS, kwL, getS, LOWs, between]; omega, rfl⟩
theorem edge_ok {a b c d : Nat} (ha : a ≤ 2) (hb : b ≤ 2) (hc : c ≤ 2) (hd : d ≤ 2) : isEdgeD (edgeD a b c d) = true ∧ clean (edgeD a b c d) = true := ⟨by simp [isEdgeD, edgeD, between]; omega, rfl⟩
/-- a kind's little table -/
def coreM (w n : Nat) : List (List Int) := match w with
  | 0 => [List.replicate n 1]
  | 1 => List.replicate n [1]
  | 2 => bldM n n fun r c => decide (r = c)
  | 3 => (bldM n n fun r c => decide (r = c)).map List.reverse
  | _ => [[if 0 = n then 0 else 1, if 1 = n then 0 else 1], [if 2 = n then 0 else 1, if 3 = n then 0 else 1]]
def coreH (w n : Nat) : Nat := if w = 0 then 1 else if w = 4 then 2 else n
def coreW (w n : Nat) : Nat := if w = 1 then 1 else if w = 4 then 2 else n
def Core (C : Oracle) (k : Nat) : Prop := ∀ w n, kOk w n → Gives C k [kindD w n] (tabD (coreM w n))
theorem core_len {w n : Nat} (h : kOk w n) : (coreM w n).length = coreH w n ∧ ∀ r ∈ coreM w n, r.length = coreW w n := by
  obtain ⟨h1, h2, h3⟩ := h
  rcases five h1 with rfl | rfl | rfl | rfl | rfl
  · exact ⟨rfl, fun r hr => by simp [coreM] at hr; subst hr; simp [coreW]⟩
  · exact ⟨by simp [coreM, coreH], fun r hr => by simp [coreM] at hr; rw [hr.2]; simp [coreW]⟩
  · exact ⟨by simp [coreM, coreH, bldM], fun r hr => by
      obtain ⟨i, _, rfl⟩ := List.mem_map.mp hr
      simp [coreW]⟩
  · exact ⟨by simp [coreM, coreH, bldM], fun r hr => by
      obtain ⟨q, hq, rfl⟩ := List.mem_map.mp hr
      obtain ⟨i, _, rfl⟩ := List.mem_map.mp hq
      simp [coreW]⟩
  · exact ⟨rfl, fun r hr => by simp [coreM] at hr; rcases hr with rfl | rfl <;> simp [coreW]⟩
theorem core_pos {w n : Nat} (h : kOk w n) : 1 ≤ coreH w n ∧ coreH w n ≤ 3 ∧ 1 ≤ coreW w n ∧ coreW w n ≤ 3 := by
  obtain ⟨h1, h2, h3⟩ := h
  rcases five h1 with rfl | rfl | rfl | rfl | rfl
  · have := h3 (by omega); simp [coreH, coreW]; omega
  · have := h3 (by omega); simp [coreH, coreW]; omega
  · have := h3 (by omega); simp [coreH, coreW]; omega
  · have := h3 (by omega); simp [coreH, coreW]; omega
  · simp [coreH, coreW]
theorem core_head {w n : Nat} (h : kOk w n) : ∃ r, (coreM w n)[0]? = some r ∧ r.length = coreW w n := by
  obtain ⟨h1, h2⟩ := core_len h
  have h3 := (core_pos h).1
  have : 0 < (coreM w n).length := by omega
  exact ⟨_, List.getElem?_eq_getElem this, h2 _ (List.getElem_mem _)⟩
/-- the greater of how many rows and columns there would be -/
def sideK (w n a b c d : Nat) : Nat := max (coreH w n + a + b) (coreW w n + c + d)
def MustLit (C : Oracle) (k : Nat) : Prop := ∀ w n a b c d : Nat, kOk w n → a ≤ 2 → b ≤ 2 → c ≤ 2 → d ≤ 2 → Outs C k [kindD w n, edgeD a b c d] (if sideK w n a b c d ≤ 3 then .val .non else .exc 18 [.int (sideK w n a b c d : Nat), .int 3])
def edgeM (a b c d wd : Nat) (F : List (List Int)) : List (List Int) := List.replicate a (List.replicate (c + wd + d) 0) ++ F.map (fun r => List.replicate c 0 ++ r ++ List.replicate d 0) ++ List.replicate b (List.replicate (c + wd + d) 0)
def LitBy (C : Oracle) (k : Nat) : Prop := ∀ w n a b c d : Nat, kOk w n → a ≤ 2 → b ≤ 2 → c ≤ 2 → d ≤ 2 → Gives C k [kindD w n, edgeD a b c d] (tabD (edgeM a b c d (coreW w n) (coreM w n)))
theorem rowD_app (a b : List Int) : rowD (a ++ b) = .tup (a.map D.int ++ b.map D.int) := by simp [rowD]
/-! kinds and edges drawn -/
def KindDraw (C : Oracle) (k : Nat) : Prop := ∀ (st : Store) (p : Nat), PenAt st p → Ok (fin st (C k [.r p] st)) fun v st' => PenTo p st st' ∧ ∃ x, v = .d x ∧ ∃ w n, kOk w n ∧ x = kindD w n
theorem s_law_kind {T : List Fn} {n k k1 : Nat} (e : T[k]? = some (d_law_kind k1)) (g1 : Draws (orc T n) k1) : KindDraw (orc T (n + 1)) k := fun st p hp => ok_pen e rfl hp (by
  show Ok (evSs _ (b_law_kind k1) [some (.r p), none] st) _
  simp [b_law_kind]
  refine (g1 st p 5 hp (by decide) (by decide)).mono fun v s1 ⟨m1, x1, e1, r, e2, ha, hb⟩ => ?_
  subst e1 e2
  obtain ⟨j, rfl⟩ : ∃ j : Nat, r = j := ⟨r.toNat, by omega⟩
  have hj : j < 5 := by omega
  have i1 := (In.refl hp).to m1
  have low : ∀ w : Nat, w < 4 → Ok (fin s1 (orc T n k1 [.r p, .d (.int 3)] s1)) fun y st2 => OkX NoX (two st2 (.d (.int 1)) y fun d e => rD st2 (opD .add d e)) fun v st1 => ∃ x, v = .d x ∧ In p st st1 ∧ ∃ w' m, kOk w' m ∧ D.tup [.str (kwS w), x] = kindD w' m := fun w hw => by
    refine (g1 s1 p 3 m1.2.2 (by decide) (by decide)).mono fun v s2 ⟨m2, x2, e1, u, e2, ua, ub⟩ => ?_
    subst e1 e2
    simp
    refine ⟨i1.to m2, w, (1 + u).toNat, ⟨by omega, by omega, fun _ => by omega⟩, ?_⟩
    have : ((1 + u).toNat : Int) = 1 + u := by omega
    simp [kindD, this]
  refine ⟨_, rfl, ?_⟩
  match j, hj with
  | 0, _ => exact ⟨_, rfl, .inl ⟨by simp, low 0 (by omega)⟩⟩
  | 1, _ => exact ⟨_, rfl, .inl ⟨by simp, low 1 (by omega)⟩⟩
  | 2, _ => exact ⟨_, rfl, .inl ⟨by simp, low 2 (by omega)⟩⟩
  | 3, _ => exact ⟨_, rfl, .inl ⟨by simp, low 3 (by omega)⟩⟩
  | 4, _ =>
    refine ⟨_, rfl, .inr ⟨by simp, ?_⟩⟩
    refine (g1 s1 p 4 m1.2.2 (by decide) (by decide)).mono fun v s2 ⟨m2, x2, e1, u, e2, ua, ub⟩ => ?_
    subst e1 e2
    refine ⟨_, rfl, i1.to m2, 4, u.toNat, ⟨by omega, by omega, fun h => absurd rfl h⟩, ?_⟩
    have : (u.toNat : Int) = u := by omega
    simp [kindD, this, kwS, kwL])
theorem kw_high {w n : Nat} (h : kOk w n) : (getS [("row", 1), ("corner", 2)] (kwS w)).getD (n : Int) = (coreH w n : Nat) := by
  rcases five h.1 with rfl | rfl | rfl | rfl | rfl <;> simp [getS, kwS, kwL, coreH, List.find?_cons]
theorem kw_wide {w n : Nat} (h : kOk w n) : (getS [("column", 1), ("corner", 2)] (kwS w)).getD (n : Int) = (coreW w n : Nat) := by
  rcases five h.1 with rfl | rfl | rfl | rfl | rfl <;> simp [getS, kwS, kwL, coreW, List.find?_cons]
def EdgeDraw (C : Oracle) (k : Nat) : Prop := ∀ (st : Store) (p w n : Nat), PenAt st p → kOk w n → Ok (fin st (C k [.r p, .d (kindD w n)] st)) fun v st' => PenTo p st st' ∧ ∃ x, v = .d x ∧ ∃ a b c d, x = edgeD a b c d ∧ coreH w n + a + b ≤ 3 ∧ coreW w n + c + d ≤ 3
theorem s_law_edge {T : List Fn} {n k k1 : Nat} (e : T[k]? = some (d_law_edge k1)) (g1 : Draws (orc T n) k1) : EdgeDraw (orc T (n + 1)) k := fun st p w m hp hk => ok_pen e rfl hp (by
  show Ok (evSs _ (b_law_edge k1) [some (.r p), some (.d (.tup [.str (kwS w), .int m])), none, none, none, none, none] st) _
  obtain ⟨p1, p2, p3, p4⟩ := core_pos hk
  simp [b_law_edge, kw_high hk, kw_wide hk]
  generalize coreH w m = hh at p1 p2
  generalize coreW w m = ww at p3 p4
  refine ok_for (fun i ρ s => In p st s ∧ ∃ x5 x6 fs, ρ = [some (.r p), some (.d (.tup [.str (kwS w), .int m])), some (.d (.int hh)), some (.d (.int ww)), some (.d (.lst fs)), x5, x6] ∧
      ((i = 0 ∧ fs = []) ∨ (i = 1 ∧ ∃ a b : Nat, fs = [.int a, .int b] ∧ hh + a + b ≤ 3) ∨ (i = 2 ∧ ∃ a b c d : Nat, fs = [.int a, .int b, .int c, .int d] ∧ hh + a + b ≤ 3 ∧ ww + c + d ≤ 3))) ⟨In.refl hp, _, _, _, rfl, .inl ⟨rfl, rfl⟩⟩ (fun i x ρ s hv hJ => ?_) fun ρ s hJ => ?_
  · obtain ⟨hin, x5, x6, fs, rfl, hf⟩ := hJ
    have hi : i < 2 := (List.getElem?_eq_some_iff.mp hv).1
    have room : ∃ r : Nat, r ≤ 2 ∧ x = .d (.int r) ∧ (i = 0 → hh + r = 3) ∧ (i = 1 → ww + r = 3) := by
      rcases (by omega : i = 0 ∨ i = 1) with rfl | rfl
      · refine ⟨3 - hh, by omega, ?_, fun _ => by omega, fun h => by omega⟩
        have : x = .d (.int (3 - (hh : Int))) := by simpa [vls] using hv.symm
        rw [this]
        have : ((3 - hh : Nat) : Int) = 3 - (hh : Int) := by omega
        rw [this]
      · refine ⟨3 - ww, by omega, ?_, fun h => by omega, fun _ => by omega⟩
        have : x = .d (.int (3 - (ww : Int))) := by simpa [vls] using hv.symm
        rw [this]
        have : ((3 - ww : Nat) : Int) = 3 - (ww : Int) := by omega
        rw [this]
    obtain ⟨r, hr, rfl, hr0, hr1⟩ := room
    refine ⟨_, rfl, ?_⟩
    simp
    refine (g1 s p ((r : Int) + 1) hin.2 (by omega) (by omega)).mono fun v s1 ⟨m1, x1, e1, u, e2, ua, ub⟩ => ?_
    subst e1 e2
    simp
    refine (g1 s1 p ((r : Int) - u + 1) m1.2.2 (by omega) (by omega)).mono fun v s2 ⟨m2, x2, e1, t, e2, ta, tb⟩ => ?_
    subst e1 e2
    have lf : fs.length ≤ 2 := by
      rcases hf with ⟨_, rfl⟩ | ⟨_, a, b, rfl, _⟩ | ⟨h2, _⟩
      · simp
      · simp
      · omega
    have sz : fs.length + 2 ≤ sizeLine := size_ok (by omega)
    obtain ⟨a', ea⟩ : ∃ a' : Nat, u = a' := ⟨u.toNat, by omega⟩
    obtain ⟨b', eb⟩ : ∃ b' : Nat, t = b' := ⟨t.toNat, by omega⟩
    subst ea eb
    refine ⟨_, rfl, _, ⟨sz, rfl⟩, (hin.to m1).to m2, _, _, _, ⟨rfl, rfl, rfl⟩, ?_⟩
    rcases hf with ⟨rfl, rfl⟩ | ⟨rfl, a, b, rfl, hab⟩ | ⟨h2, _⟩
    · exact .inl ⟨rfl, a', b', rfl, by have := hr0 rfl; omega⟩
    · exact .inr ⟨rfl, a, b, a', b', rfl, hab, by have := hr1 rfl; omega⟩
    · omega
  · obtain ⟨hin, x5, x6, fs, rfl, hf⟩ := hJ
    simp only [vls_len, List.length_cons, List.length_nil] at hf
    rcases hf with ⟨h, _⟩ | ⟨h, _⟩ | ⟨_, a, b, c, d, rfl, h1, h2⟩
    · omega
    · omega
    · simp [hin]
      exact ⟨a, b, c, d, rfl, h1, h2⟩)
theorem edge_small {w n a b c d : Nat} (hk : kOk w n) (h1 : coreH w n + a + b ≤ 3) (h2 : coreW w n + c + d ≤ 3) : a ≤ 2 ∧ b ≤ 2 ∧ c ≤ 2 ∧ d ≤ 2 ∧ sideK w n a b c d ≤ 3 := by
  obtain ⟨p1, p2, p3, p4⟩ := core_pos hk
  unfold sideK
  omega

def LIsKind (C : Oracle) (k : Nat) : Prop := ∀ x, clean x = true → Gives C k [x] (.bl (isKindD x))
theorem in4 (s : Str) : inO (.str s) [.str "row", .str "column", .str "slant", .str "rise"] = some (decide (s = "row") || decide (s = "column") || decide (s = "slant") || decide (s = "rise")) := by
  simp [inO, Br.plain, plains, toPy, toPys, PyData.depth, PyData.depthAll, eqD, PyData.eqv]
  rw [Bool.eq_iff_iff]
  simp
  constructor
  · rintro (h | h | h | h) <;> simp [h]
  · rintro (((h | h) | h) | h) <;> simp [h]
theorem s_law_is_kind {T : List Fn} {n k k1 : Nat} (e : T[k]? = some (d_law_is_kind k1)) (g1 : Is_whole (orc T n) k1) : LIsKind (orc T (n + 1)) k := fun x hx => gives_of e rfl fun st => by
  show Ok (evSs _ (b_law_is_kind k1) [some (.d x)] st) _
  cases x with
  | fn k => cases hx
  | xc _ _ => cases hx
  | tup xs =>
    have hc : cleans xs = true := by simpa [clean] using hx
    match xs, hc with
    | [], _ => simp [b_law_is_kind, isKindD]
    | [a], _ => simp [b_law_is_kind, isKindD]
    | [a, b], hc =>
      have ca := cleans_iff.mp hc a (by simp)
      have cb := cleans_iff.mp hc b (by simp)
      have q := (g1 b (clean_okD cb)).at1
      cases a with
      | fn k => cases ca
      | xc _ _ => cases ca
      | str s =>
        have ek : isKindD (.tup [.str s, b]) = (if s = "corner" then between 0 3 b else (decide (s = "row") || decide (s = "column") || decide (s = "slant") || decide (s = "rise")) && between 1 3 b) := by
          unfold isKindD
          by_cases z4 : s = "corner"
          · subst z4
            simp [getS, LOWs, List.find?_cons]
          · by_cases z0 : s = "row"
            · subst z0; simp [getS, LOWs, List.find?_cons]
            · by_cases z1 : s = "column"
              · subst z1; simp [getS, LOWs, List.find?_cons]
              · by_cases z2 : s = "slant"
                · subst z2; simp [getS, LOWs, List.find?_cons]
                · by_cases z3 : s = "rise"
                  · subst z3; simp [getS, LOWs, List.find?_cons]
                  · have e0 : ¬ "row" = s := fun h => z0 h.symm
                    have e1 : ¬ "column" = s := fun h => z1 h.symm
                    have e2 : ¬ "slant" = s := fun h => z2 h.symm
                    have e3 : ¬ "rise" = s := fun h => z3 h.symm
                    have e4 : ¬ "corner" = s := fun h => z4 h.symm
                    simp [getS, LOWs, List.find?_cons, z0, z1, z2, z3, z4, e0, e1, e2, e3, e4]
        rw [ek]
        cases b with
        | int i =>
          simp only [whole] at q
          by_cases z4 : s = "corner"
          · subst z4
            simp [b_law_is_kind, q, between]
            by_cases h1 : 0 ≤ i <;> simp [h1] <;> omega
          · simp [b_law_is_kind, q, between, z4, in4]
            by_cases z : (((s = "row" ∨ s = "column") ∨ s = "slant") ∨ s = "rise")
            · simp only [z, true_and]
              by_cases h1 : 1 ≤ i <;> simp [h1] <;> omega
            · have z' := z
              simp only [not_or] at z'
              simp [z']
        | fn k => cases cb
        | xc _ _ => cases cb
        | _ =>
          simp only [whole] at q
          simp [b_law_is_kind, q, between]
      | _ => simp [b_law_is_kind, isKindD]
    | a :: b :: c :: r, _ =>
      have : ¬ ((r.length : Int) + 1 + 1 + 1 = 2) := by omega
      simp [b_law_is_kind, isKindD, this]
  | _ => simp [b_law_is_kind, isKindD]
theorem kw_blank {w : Nat} (hw : w < 5) : (PySem.PyData.strOk (kwS w ++ " ") && decide ((kwS w ++ " ").length ≤ sizeLine)) = true := by
  rcases five hw with rfl | rfl | rfl | rfl | rfl <;> decide +kernel
theorem str_small {n : Nat} (h : n ≤ 3) : strID (.int n) = some (.str (toString (n : Int))) := by
  have : n = 0 ∨ n = 1 ∨ n = 2 ∨ n = 3 := by omega
  rcases this with rfl | rfl | rfl | rfl <;> (simp only [strID]; rw [if_pos]; decide +kernel)

/-! k40: things whose text is told -/
def repG (x : D) : Bool := (reprD x).isSome
theorem repG_str {x : D} (h : repG x = true) : ∃ t, reprD x = some (.str t) := by
  unfold repG at h
  cases e : reprD x with
  | none => rw [e] at h; cases h
  | some r =>
    obtain ⟨t, rfl, _⟩ := reprD_str e
    exact ⟨t, rfl⟩
def LIsEdge (C : Oracle) (k : Nat) : Prop := ∀ x, clean x = true → Gives C k [x] (.bl (isEdgeD x))
theorem s_law_is_edge {T : List Fn} {n k k1 : Nat} (e : T[k]? = some (d_law_is_edge k1)) (g1 : Is_whole (orc T n) k1) : LIsEdge (orc T (n + 1)) k := fun x hx => gives_of e rfl fun st => by
  show Ok (evSs _ (b_law_is_edge k1) [some (.d x), none] st) _
  cases x with
  | fn k => cases hx
  | xc _ _ => cases hx
  | tup xs =>
    have hc : cleans xs = true := by simpa [clean] using hx
    by_cases h4 : xs.length = 4
    · have sz : (4 : Nat) ≤ sizeLine := size_ok (by omega)
      simp [b_law_is_edge, isEdgeD, h4]
      refine ok_map (fun y => .bl (between 0 2 y)) (fun y hy => ⟨_, rfl, ?_⟩) ?_
      · have q := (g1 y (clean_okD (cleans_iff.mp hc y hy))).at1
        cases y with
        | int i =>
          simp [q, whole, between]
          by_cases h1 : 0 ≤ i <;> simp [h1] <;> omega
        | _ => simp [q, whole, between]
      · simp [h4, sz]
    · have h5 : ¬ ((xs.length : Int) = 4) := by omega
      simp [b_law_is_edge, isEdgeD, h4, h5]
  | _ => simp [b_law_is_edge, isEdgeD]
def Right40 (C : Oracle) (k : Nat) : Prop := ∀ x, clean x = true → repG x = true → Gives C k [x] (.bl true)
theorem s_law_right {T : List Fn} {n k k1 k2 k3 k4 : Nat} (e : T[k]? = some (d_law_right k1 k2 k3 k4)) (g1 : IsKind (orc T n) k1) (g2 : IsEdge (orc T n) k2) (g3 : LIsKind (orc T n) k3) (g4 : LIsEdge (orc T n) k4) : Right40 (orc T (n + 1)) k := fun x hx hr => gives_of e rfl fun st => by
  show Ok (evSs _ (b_law_right k1 k2 k3 k4) [some (.d x), none, none, none, none] st) _
  obtain ⟨t, er⟩ := repG_str hr
  have q1 := (g1 x hx).at1
  have q2 := (g2 x hx).at1
  have q3 := (g3 x hx).at1
  have q4 := (g4 x hx).at1
  have r2 : r62 2 = true := by decide
  simp [b_law_right, er, r2]
  refine ok_for (fun i ρ s => s = st ∧ ∃ a b c, ρ = [some (.d x), some (.d (.str t)), a, b, c]) ⟨rfl, _, _, _, rfl⟩ (fun i v ρ s hv hJ => ?_) fun ρ s hJ => ?_
  · obtain ⟨rfl, a, b, c, rfl⟩ := hJ
    obtain ⟨hi, rfl⟩ := range_get hv
    refine ⟨_, rfl, ?_⟩
    simp [q1, q2, q3, q4, er]
  · obtain ⟨rfl, a, b, c, rfl⟩ := hJ
    simp
def OddD (C : Oracle) (k : Nat) : Prop := ∀ (st : Store) (p : Nat), PenAt st p → Ok (fin st (C k [.r p] st)) fun v st' => PenTo p st st' ∧ ∃ x, v = .d x ∧ clean x = true ∧ repG x = true
def oddL : List D := [.non, .bl true, .bl false, .int (-1), .int 7, .int (10 ^ 30), .str "", .str "0", .tup [], .tup [.int 0], .tup [.int 0, .int 0], .lst [.int 0], .dct, .tup [.tup [.int 0, .int 0]], .lst [.tup [.int 0, .int 0]], .tup [.tup [.int 1]]]
theorem odd_all : oddL.all (fun x => clean x && repG x) = true := by decide +kernel
theorem s_law_odd {T : List Fn} {n k k1 : Nat} (e : T[k]? = some (d_law_odd k1)) (g1 : Draws (orc T n) k1) : OddD (orc T (n + 1)) k := fun st p hp => ok_pen e rfl hp (by
  show Ok (evSs _ (b_law_odd k1) [some (.r p), none] st) _
  simp [b_law_odd]
  refine (g1 st p 16 hp (by decide) (by decide)).mono fun v s1 ⟨m1, x1, e1, r, e2, ha, hb⟩ => ?_
  subst e1 e2
  have i1 := (In.refl hp).to m1
  obtain ⟨x, ex, hx⟩ := atI_mem (xs := oddL) ha (by simpa [oddL] using hb)
  have h2 := List.all_eq_true.mp odd_all x hx
  rw [Bool.and_eq_true] at h2
  exact ⟨_, rfl, x, ex, i1, h2.1, h2.2⟩)
def NoKindsG (C : Oracle) (k : Nat) : Prop := ∀ (st : Store) (p w n : Nat), PenAt st p → kOk w n → Ok (fin st (C k [.r p, .d (kindD w n)] st)) fun v st' => PenTo p st st' ∧ ∃ x, v = .d x ∧ clean x = true ∧ repG x = true
def noKindL (w n : Nat) : List D := [.tup [.str "row", .int 0], .tup [.str "slant", .int 4], .tup [.str "corner", .int 4], .tup [.str "corner", .int (-1)], .tup [.str "rise", .bl true], .tup [.str "Row", .int 2], .tup [.str "square", .int 2],
  .tup [.int 2, .int 2], .lst [.str (kwS w), .int n], .tup [.str (kwS w)], .tup [.str (kwS w), .int n, .int 1], .tup [.int n, .str (kwS w)], .non, .str "row", .int 3, .dct, .tup [.tup [.str (kwS w), .int n]], .tup [.lst [.str "row"], .int 2], .tup [.str "", .int 1],
  .tup [.str (kwS w ++ " "), .int 2], .tup [.str (kwS w), .str (toString (n : Int))], .tup [.str (kwS w), .int (10 ^ 30)]]
theorem noKind_all : ((List.range 5).all fun w => (List.range 4).all fun n => (noKindL w n).all fun x => clean x && repG x) = true := by decide +kernel
theorem s_law_no_kind {T : List Fn} {n k k1 k2 : Nat} (e : T[k]? = some (d_law_no_kind k1 k2)) (g1 : Draws (orc T n) k1) (g2 : LIsKind (orc T n) k2) : NoKindsG (orc T (n + 1)) k := fun st p w m hp hk => ok_pen e rfl hp (by
  show Ok (evSs _ (b_law_no_kind k1 k2) [some (.r p), some (.d (.tup [.str (kwS w), .int m])), none, none] st) _
  have z1 := kw_blank hk.1
  have z2 := str_small hk.2.1
  have z3 : (7 : Int) ≤ ((sizeLine : Nat) : Int) := Int.ofNat_le.mpr (show 7 ≤ sizeLine by decide)
  simp only [Bool.and_eq_true, decide_eq_true_eq] at z1
  simp [b_law_no_kind, z1, z2]
  refine (g1 st p 22 hp (by decide) (by decide)).mono fun v s1 ⟨m1, x1, e1, r, e2, ha, hb⟩ => ?_
  subst e1 e2
  have i1 := (In.refl hp).to m1
  refine ⟨_, rfl, ?_⟩
  obtain ⟨y, ey, hy⟩ := atI_mem (xs := noKindL w m) ha (by simpa [noKindL] using hb)
  have h2 := List.all_eq_true.mp (List.all_eq_true.mp (List.all_eq_true.mp noKind_all w (List.mem_range.mpr hk.1)) m (List.mem_range.mpr (by have := hk.2.1; omega))) y hy
  rw [Bool.and_eq_true] at h2
  refine ⟨y, ey, ?_⟩
  have q := (g2 y h2.1).at1
  rw [q s1]
  have rn : repG .non = true := by decide +kernel
  cases z : isKindD y with
  | true => simp [i1, clean, rn]
  | false => simp [i1, h2.1, h2.2])

def oddsE : List D := [.int 3, .int (-1), .bl true, .non, .str "0", .tup [.int 0], .int 1000000000000000000000000000000]
def bentE (a b c d : Nat) (i : Nat) (y : D) : D := .tup (([.int a, .int b, .int c, .int d] : List D).set i y)
def othL (a b c d : Nat) : List D := [.tup [.int a, .int b, .int c], .tup [.int a, .int b, .int c, .int d, .int 0], .lst [.int a, .int b, .int c, .int d], .non, .int 0, .str "0000", .dct, .tup [.tup [.int a, .int b, .int c, .int d]]]
theorem oth_all : ((List.range 3).all fun a => (List.range 3).all fun b => (List.range 3).all fun c => (List.range 3).all fun d => (othL a b c d).all repG) = true := by decide +kernel
theorem bent0 : ((List.range 3).all fun b => (List.range 3).all fun c => (List.range 3).all fun d => oddsE.all fun y => repG (.tup [y, .int b, .int c, .int d])) = true := by decide +kernel
theorem bent1 : ((List.range 3).all fun a => (List.range 3).all fun c => (List.range 3).all fun d => oddsE.all fun y => repG (.tup [.int a, y, .int c, .int d])) = true := by decide +kernel
theorem bent2 : ((List.range 3).all fun a => (List.range 3).all fun b => (List.range 3).all fun d => oddsE.all fun y => repG (.tup [.int a, .int b, y, .int d])) = true := by decide +kernel
theorem bent3 : ((List.range 3).all fun a => (List.range 3).all fun b => (List.range 3).all fun c => oddsE.all fun y => repG (.tup [.int a, .int b, .int c, y])) = true := by decide +kernel
def NoEdgesG (C : Oracle) (k : Nat) : Prop := ∀ (st : Store) (p a b c d : Nat), PenAt st p → a ≤ 2 → b ≤ 2 → c ≤ 2 → d ≤ 2 → Ok (fin st (C k [.r p, .d (edgeD a b c d)] st)) fun v st' => PenTo p st st' ∧ ∃ x, v = .d x ∧ clean x = true ∧ repG x = true
theorem s_law_no_edge {T : List Fn} {n k k1 : Nat} (e : T[k]? = some (d_law_no_edge k1)) (g1 : Draws (orc T n) k1) : NoEdgesG (orc T (n + 1)) k := fun st p a b c d hp ha hb hc hd => ok_pen e rfl hp (by
  show Ok (evSs _ (b_law_no_edge k1) [some (.r p), some (.d (.tup [.int a, .int b, .int c, .int d])), none, none, none] st) _
  have z3 : (7 : Int) ≤ ((sizeLine : Nat) : Int) := Int.ofNat_le.mpr (show 7 ≤ sizeLine by decide)
  simp [b_law_no_edge]
  refine (g1 st p 4 hp (by decide) (by decide)).mono fun v s1 ⟨m1, x1, e1, r, e2, ra, rb⟩ => ?_
  subst e1 e2
  have i1 := (In.refl hp).to m1
  simp
  refine (g1 s1 p 7 m1.2.2 (by decide) (by decide)).mono fun v s2 ⟨m2, x2, e1, o, e2, oa, ob⟩ => ?_
  subst e1 e2
  have i2 := i1.to m2
  refine ⟨_, rfl, ?_⟩
  have key : ∀ (L : List D) (x : Int), 0 ≤ x → x < L.length → ∃ x_1, L2.atI L x = some x_1 ∧ x_1 ∈ L := fun L x h1 h2 => atI_mem h1 h2
  have ho : ∀ y ∈ ([.int 3, .int (-1), .bl true, .non, .str "0", .tup [.int 0], .int 1000000000000000000000000000000] : List D), clean y = true ∧ y ∈ oddsE := by
    intro y hy
    simp only [List.mem_cons, List.not_mem_nil, or_false] at hy
    rcases hy with rfl | rfl | rfl | rfl | rfl | rfl | rfl <;> exact ⟨rfl, by simp [oddsE]⟩
  refine (key _ o oa (by simpa using ob)).elim fun y ⟨ey, hy⟩ => ⟨y, ey, ?_⟩
  obtain ⟨cy, by2⟩ := ho y hy
  have oth : ∀ z ∈ othL a b c d, repG z = true := fun z hz => by
    have h := oth_all
    simp only [List.all_eq_true, List.mem_range] at h
    exact h a (by omega) b (by omega) c (by omega) d (by omega) z hz
  have b0 : repG (.tup [y, .int b, .int c, .int d]) = true := by
    have h := bent0
    simp only [List.all_eq_true, List.mem_range] at h
    exact h b (by omega) c (by omega) d (by omega) y by2
  have b1 : repG (.tup [.int a, y, .int c, .int d]) = true := by
    have h := bent1
    simp only [List.all_eq_true, List.mem_range] at h
    exact h a (by omega) c (by omega) d (by omega) y by2
  have b2 : repG (.tup [.int a, .int b, y, .int d]) = true := by
    have h := bent2
    simp only [List.all_eq_true, List.mem_range] at h
    exact h a (by omega) b (by omega) d (by omega) y by2
  have b3 : repG (.tup [.int a, .int b, .int c, y]) = true := by
    have h := bent3
    simp only [List.all_eq_true, List.mem_range] at h
    exact h a (by omega) b (by omega) c (by omega) y by2
  have rest : ∀ z : D, clean z = true → repG z = true → Ok (fin s2 (orc T n k1 [Vl.r p, Vl.d (D.int 11)] s2)) fun y st2 => ∃ x, y = Vl.d (D.int x) ∧ ∃ x_2, L2.atI [z, z, z, .tup [.int a, .int b, .int c], .tup [.int a, .int b, .int c, .int d, .int 0], .lst [.int a, .int b, .int c, .int d], .non, .int 0, .str "0000", .dct, .tup [.tup [.int a, .int b, .int c, .int d]]] x = some x_2 ∧ In p st st2 ∧ clean x_2 = true ∧ repG x_2 = true := fun z cz ez => by
    refine (g1 s2 p 11 m2.2.2 (by decide) (by decide)).mono fun v s3 ⟨m3, x3, e1, t, e2, ta, tb⟩ => ?_
    subst e1 e2
    refine ⟨_, rfl, ?_⟩
    refine (key _ t ta (by simpa using tb)).elim fun u ⟨eu, hu⟩ => ⟨u, eu, i2.to m3, ?_⟩
    simp only [List.mem_cons, List.not_mem_nil, or_false] at hu
    rcases hu with rfl | rfl | rfl | rfl | rfl | rfl | rfl | rfl | rfl | rfl | rfl
    · exact ⟨cz, ez⟩
    · exact ⟨cz, ez⟩
    · exact ⟨cz, ez⟩
    all_goals exact ⟨rfl, oth _ (by simp [othL])⟩
  have s4 : ∀ u v w z : D, clean u = true → clean v = true → clean w = true → clean z = true → clean (.tup [u, v, w, z]) = true := fun u v w z h1 h2 h3 h4 => by simp [clean, cleans, h1, h2, h3, h4]
  have sz1 : ∀ i : Nat, i ≤ 7 → i ≤ sizeLine := fun i h => size_ok (by omega)
  rcases (by omega : r = 0 ∨ r = 1 ∨ r = 2 ∨ r = 3) with rfl | rfl | rfl | rfl
  · have c1 : cut [.int a, .int b, .int c, .int d] none (some (0 : Int)) = ([] : List D) := rfl
    have c2 : cut [.int a, .int b, .int c, .int d] (some ((0 : Int) + 1)) none = ([.int b, .int c, .int d] : List D) := rfl
    simp only [c1, c2]
    refine ⟨_, ⟨sz1 _ (by simp), rfl⟩, .tup [y, .int b, .int c, .int d], ?_, rest _ (s4 _ _ _ _ cy rfl rfl rfl) b0⟩
    simp
  · have c1 : cut [.int a, .int b, .int c, .int d] none (some (1 : Int)) = ([.int a] : List D) := rfl
    have c2 : cut [.int a, .int b, .int c, .int d] (some ((1 : Int) + 1)) none = ([.int c, .int d] : List D) := rfl
    simp only [c1, c2]
    refine ⟨_, ⟨sz1 _ (by simp), rfl⟩, .tup [.int a, y, .int c, .int d], ?_, rest _ (s4 _ _ _ _ rfl cy rfl rfl) b1⟩
    simp
  · have c1 : cut [.int a, .int b, .int c, .int d] none (some (2 : Int)) = ([.int a, .int b] : List D) := rfl
    have c2 : cut [.int a, .int b, .int c, .int d] (some ((2 : Int) + 1)) none = ([.int d] : List D) := rfl
    simp only [c1, c2]
    refine ⟨_, ⟨sz1 _ (by simp), rfl⟩, .tup [.int a, .int b, y, .int d], ?_, rest _ (s4 _ _ _ _ rfl rfl cy rfl) b2⟩
    simp
  · have c1 : cut [.int a, .int b, .int c, .int d] none (some (3 : Int)) = ([.int a, .int b, .int c] : List D) := rfl
    have c2 : cut [.int a, .int b, .int c, .int d] (some ((3 : Int) + 1)) none = ([] : List D) := rfl
    simp only [c1, c2]
    refine ⟨_, ⟨sz1 _ (by simp), rfl⟩, .tup [.int a, .int b, .int c, y], ?_, rest _ (s4 _ _ _ _ rfl rfl rfl cy) b3⟩
    simp)

/-! k40 -/
def numL : List D := [.int (-1), .int 0, .int 1, .int 2, .int 3, .int 4, .bl true, .bl false]
def base8 : List D := [.tup [.str "row", .int 1], .tup [.str "row", .int 3], .tup [.str "row", .int 4], .tup [.str "corner", .int 0], .tup [.str "corner", .int 3], .tup [.int 0, .int 0, .int 0, .int 0], .tup [.int 2, .int 2, .int 2, .int 2], .tup [.int 0, .int 0, .int 0, .int 3]]
def someK (i : Nat) : List D := base8 ++ (kwL.take i).flatMap fun s => numL.map fun y => .tup [.str s, y]
theorem some_all : (someK 5).all (fun x => clean x && repG x) = true := by decide +kernel
theorem kinds_all : ((List.range 5).all fun w => (List.range 4).all fun n => repG (kindD w n)) = true := by decide +kernel
theorem edges_all : ((List.range 3).all fun a => (List.range 3).all fun b => (List.range 3).all fun c => (List.range 3).all fun d => repG (edgeD a b c d)) = true := by decide +kernel
theorem dBls_true' {α : Type} : ∀ l : List α, dBls (l.map fun _ => D.bl true) = some (l.map fun _ => true)
  | [] => rfl
  | _ :: l => by simp [dBls, dBls_true' l]
theorem law_ok : ∀ ns : List Int, ns.length ≤ 63 → (∀ z ∈ ns, Builtin.Int.intBits z ≤ 1048576) → ∃ st, orc pg.fn 12 16 [.d (.kst (ns.map .int))] [] = .ok (.d (.bl true)) st := fun ns hl _ => by
  have g0 : ∀ m, Is_whole (orc pg.fn (m + 1)) 0 := fun m => s_is_whole rfl
  have g1 : ∀ m, Is_from (orc pg.fn (m + 2)) 1 := fun m => s_is_from rfl (g0 m)
  have g2 : ∀ m, IsKind (orc pg.fn (m + 3)) 2 := fun m => s_is_kind rfl (g1 m)
  have g3 : ∀ m, IsEdge (orc pg.fn (m + 3)) 3 := fun m => s_is_edge rfl (g1 m)
  have g4 : ∀ m, Cells (orc pg.fn (m + 1)) 4 := fun m => s_law_cell rfl
  have g5 : ∀ m, Pen (orc pg.fn (m + 1)) 5 := fun m => s_law_pen rfl
  have g6 : ∀ m, Draws (orc pg.fn (m + 1)) 6 := fun m => s_law_draw rfl
  have g7 : ∀ m, Is_whole (orc pg.fn (m + 1)) 7 := fun m => s_law_whole rfl
  have g8 : ∀ m, OddD (orc pg.fn (m + 2)) 8 := fun m => s_law_odd rfl (g6 m)
  have g9 : ∀ m, KindDraw (orc pg.fn (m + 2)) 9 := fun m => s_law_kind rfl (g6 m)
  have g10 : ∀ m, LIsKind (orc pg.fn (m + 2)) 10 := fun m => s_law_is_kind rfl (g7 m)
  have g11 : ∀ m, EdgeDraw (orc pg.fn (m + 2)) 11 := fun m => s_law_edge rfl (g6 m)
  have g12 : ∀ m, LIsEdge (orc pg.fn (m + 2)) 12 := fun m => s_law_is_edge rfl (g7 m)
  have g13 : ∀ m, NoKindsG (orc pg.fn (m + 3)) 13 := fun m => s_law_no_kind rfl (g6 (m + 1)) (g10 m)
  have g14 : ∀ m, NoEdgesG (orc pg.fn (m + 2)) 14 := fun m => s_law_no_edge rfl (g6 m)
  have g15 : ∀ m, Right40 (orc pg.fn (m + 4)) 15 := fun m => s_law_right rfl (g2 m) (g3 m) (g10 (m + 1)) (g12 (m + 1))
  have h15 : Right40 (orc pg.fn 11) 15 := g15 7
  have h4 : Cells (orc pg.fn 11) 4 := g4 10
  have h5 : Pen (orc pg.fn 11) 5 := g5 10
  have h9 : KindDraw (orc pg.fn 11) 9 := g9 9
  have h6 : Draws (orc pg.fn 11) 6 := g6 10
  have h8 : OddD (orc pg.fn 11) 8 := g8 9
  have h11 : EdgeDraw (orc pg.fn 11) 11 := g11 9
  have h13 : NoKindsG (orc pg.fn 11) 13 := g13 8
  have h14 : NoEdgesG (orc pg.fn 11) 14 := g14 9
  have main : Ok (orc pg.fn 12 16 [.d (.kst (ns.map .int))] []) fun v st => v = .d (.bl true) := by
    refine ok_orc (f := d_law 15 4 5 9 6 8 11 13 14) rfl rfl rfl ?_
    show Ok (evSs _ (b_law 15 4 5 9 6 8 11 13 14) [some (.d (.kst (ns.map .int))), none, none, none, none, none, none, none, none, none, none] []) _
    have R : ∀ x, clean x = true → repG x = true → ∀ s, fin s (orc pg.fn 11 15 [.d x] s) = .ok (.d (.bl true)) s := fun x h1 h2 => (h15 x h1 h2).at1
    obtain ⟨c, hc⟩ := h4 ns 0
    have hc0 : ∀ st, fin st (orc pg.fn 11 4 [.d (.kst (ns.map .int)), .d (.int 0)] st) = .ok (.d (.int c)) st := fun st => hc.at2 st
    have hlc : (cut (ns.map D.int) (some 1) (some 10)).length ≤ 63 := Nat.le_trans (cut_le _ _ _) (by simpa using hl)
    have hin : ∀ x ∈ cut (ns.map D.int) (some 1) (some 10), ∃ z, x = .int z := fun x hx => by
      unfold cut at hx
      obtain ⟨z, _, rfl⟩ := List.mem_map.mp (List.mem_of_mem_drop (List.mem_of_mem_take hx))
      exact ⟨z, rfl⟩
    generalize hcs : cut (ns.map D.int) (some 1) (some 10) = cs at hlc hin
    have r4 : r62 4 = true := by decide
    have r3 : r62 3 = true := by decide
    have sz8 : ∀ i : Nat, i ≤ 100 → i ≤ sizeLine := fun i h => size_ok (by omega)
    simp [b_law, sz8]
    refine ok_for (fun i ρ st => ∃ a, ρ = [some (.d (.kst (ns.map .int))), some (.d (.lst (someK i))), a, none, none, none, none, none, none, none, none]) ⟨_, rfl⟩ (fun i v ρ st hv hJ => ?_) fun ρ st hJ => ?_
    · obtain ⟨a, rfl⟩ := hJ
      obtain ⟨x, ex, rfl⟩ := vls_get hv
      have hi : i < 5 := by
        have := (List.getElem?_eq_some_iff.mp ex).1
        simpa using this
      obtain ⟨s, rfl, hs⟩ : ∃ s : PySem.Str, x = .str s ∧ kwL.take (i + 1) = kwL.take i ++ [s] := by
        match i, hi with
        | 0, _ => exact ⟨"row", by simpa using ex.symm, rfl⟩
        | 1, _ => exact ⟨"column", by simpa using ex.symm, rfl⟩
        | 2, _ => exact ⟨"slant", by simpa using ex.symm, rfl⟩
        | 3, _ => exact ⟨"rise", by simpa using ex.symm, rfl⟩
        | 4, _ => exact ⟨"corner", by simpa using ex.symm, rfl⟩
      refine ⟨_, rfl, ?_⟩
      simp
      refine ok_map (fun y => .tup [.str s, y]) (fun y hy => ⟨_, rfl, by simp⟩) ?_
      have e1 : someK (i + 1) = someK i ++ numL.map fun y => .tup [.str s, y] := by
        unfold someK
        rw [hs, List.flatMap_append, List.flatMap_singleton, List.append_assoc]
      have l1 : (someK i).length ≤ 48 := by
        have : i = 0 ∨ i = 1 ∨ i = 2 ∨ i = 3 ∨ i = 4 := by omega
        rcases this with rfl | rfl | rfl | rfl | rfl <;> decide +kernel
      refine ⟨size_ok (by simp; omega), ?_⟩
      rw [e1]
      rfl
    · obtain ⟨a, rfl⟩ := hJ
      have l5 : (someK 5).length = 48 := by decide +kernel
      have s48 : (48 : Nat) ≤ sizeLine := size_ok (by omega)
      have e5 : (vls [D.str "row", D.str "column", D.str "slant", D.str "rise", D.str "corner"]).length = 5 := rfl
      rw [e5]
      simp
      refine ok_map (fun _ => .bl true) (fun x hx => ⟨_, rfl, ?_⟩) ?_
      · have h2 := List.all_eq_true.mp some_all x hx
        rw [Bool.and_eq_true] at h2
        simp [R x h2.1 h2.2]
      have lz : 1 + cs.length ≤ sizeLine := size_ok (by omega)
      simp [l5, s48, dBls_true', hc0, hcs, lz]
      refine ok_for (fun i ρ st => ∃ a b c d e f g h i j, ρ = [some (.d (.kst (ns.map .int))), a, b, c, d, e, f, g, h, i, j]) ⟨_, _, _, _, _, _, _, _, _, _, rfl⟩ (fun i v ρ st hv hJ => ?_) fun ρ st hJ => ?_
      · obtain ⟨a1, a2, a3, a4, a5, a6, a7, a8, a9, a10, rfl⟩ := hJ
        obtain ⟨x, ex, rfl⟩ := vls_get hv
        obtain ⟨z, rfl⟩ : ∃ z, x = .int z := by
          rcases List.mem_cons.mp (List.mem_of_getElem? ex) with rfl | hx
          · exact ⟨c, rfl⟩
          · exact hin x hx
        refine ⟨_, rfl, ?_⟩
        obtain ⟨bb, hpen⟩ := h5 st z
        simp [hpen]
        have hp : PenAt (st ++ [.lst [.int z, .int bb]]) st.length := ⟨z, bb, by simp⟩
        generalize st.length = p at hp
        generalize st ++ [.lst [.int z, .int bb]] = s0 at hp
        refine (h9 s0 p hp).mono fun v s1 ⟨m1, x1, e1, w, n, hk, e2⟩ => ?_
        subst e1 e2
        simp [r4]
        refine ok_comp1 (fun s => PenAt s p) (fun _ d => ∃ m : Nat, m ≤ 2 ∧ d = .int m) m1.2.2 (fun j v s hv hps => ?_) fun ys s hps hl hy => ?_
        · obtain ⟨hj, rfl⟩ := range_get hv
          refine ⟨_, rfl, ?_⟩
          simp
          refine (h6 s p 3 hps (by decide) (by decide)).mono fun v s2 ⟨m2, x2, e1, u, e2, u1, u2⟩ => ?_
          subst e1 e2
          exact ⟨_, rfl, m2.2.2, u.toNat, by omega, by congr 1; omega⟩
        · rw [vls_len, range_len] at hl
          obtain ⟨y0, y1, y2, y3, rfl⟩ : ∃ y0 y1 y2 y3, ys = [y0, y1, y2, y3] := by
            match ys, hl with
            | [y0, y1, y2, y3], _ => exact ⟨_, _, _, _, rfl⟩
          obtain ⟨b0, h0, rfl⟩ := hy 0 y0 rfl
          obtain ⟨b1, h1, rfl⟩ := hy 1 y1 rfl
          obtain ⟨b2, h2, rfl⟩ := hy 2 y2 rfl
          obtain ⟨b3, h3, rfl⟩ := hy 3 y3 rfl
          have z4 : (4 : Int) ≤ ((sizeLine : Nat) : Int) := Int.ofNat_le.mpr (show 4 ≤ sizeLine by decide)
          have gk : repG (kindD w n) = true := by
            have h := kinds_all
            simp only [List.all_eq_true, List.mem_range] at h
            exact h w hk.1 n (by have := hk.2.1; omega)
          have ge : ∀ a b c d : Nat, a ≤ 2 → b ≤ 2 → c ≤ 2 → d ≤ 2 → repG (edgeD a b c d) = true := fun a b c d ha hb hc hd => by
            have h := edges_all
            simp only [List.all_eq_true, List.mem_range] at h
            exact h a (by omega) b (by omega) c (by omega) d (by omega)
          simp [z4]
          refine (h8 s p hps).mono fun v s3 ⟨m3, x3, e1, oc, og⟩ => ?_
          subst e1
          refine ⟨_, rfl, ?_⟩
          refine (h11 s3 p w n m3.2.2 hk).mono fun v s4 ⟨m4, x4, e1, a, b, cc, d, e2, hab, hcd⟩ => ?_
          subst e1 e2
          obtain ⟨p1, p2, p3, p4⟩ := core_pos hk
          simp [r3]
          refine ok_for (fun i ρ s => PenAt s p ∧ ∃ xs g, xs.length = 4 + 2 * i ∧ (∀ x ∈ xs, clean x = true ∧ repG x = true) ∧ ρ = [some (.d (.kst (ns.map .int))), a1, a2, some (.d (.int z)), some (.r p), some (.d (kindD w n)), some (.d (.tup [.int b0, .int b1, .int b2, .int b3])), some (.d (.lst xs)), g, a9, a10]) ⟨m4.2.2, _, _, rfl, ?_, rfl⟩ (fun i x ρ s hv hJ => ?_) fun ρ s hJ => ?_
          · intro x hx
            simp only [List.mem_cons, List.not_mem_nil, or_false] at hx
            rcases hx with rfl | rfl | rfl | rfl
            · exact ⟨(kind_ok hk).2, gk⟩
            · exact ⟨rfl, ge b0 b1 b2 b3 h0 h1 h2 h3⟩
            · exact ⟨oc, og⟩
            · exact ⟨rfl, ge _ _ _ _ (by omega) (by omega) (by omega) (by omega)⟩
          · obtain ⟨hps, xs, g, lx, ax, rfl⟩ := hJ
            obtain ⟨hi, rfl⟩ := range_get hv
            refine ⟨_, rfl, ?_⟩
            simp
            refine (h13 s p w n hps hk).mono fun v s5 ⟨m5, x5, e1, kc, kg⟩ => ?_
            subst e1
            refine ⟨_, rfl, ?_⟩
            refine (h14 s5 p b0 b1 b2 b3 m5.2.2 h0 h1 h2 h3).mono fun v s6 ⟨m6, x6, e1, ec, eg⟩ => ?_
            subst e1
            refine ⟨_, rfl, _, ⟨size_ok (by omega), rfl⟩, m6.2.2, _, ?_, ?_, rfl⟩
            · simp
              omega
            · intro x hx
              rcases List.mem_append.mp hx with hx | hx
              · exact ax x hx
              · simp only [List.mem_cons, List.not_mem_nil, or_false] at hx
                rcases hx with rfl | rfl
                · exact ⟨kc, kg⟩
                · exact ⟨ec, eg⟩
          · obtain ⟨hps, xs, g, lx, ax, rfl⟩ := hJ
            simp
            refine ok_map (fun _ => .bl true) (fun x hx => ⟨_, rfl, ?_⟩) ?_
            · simp [R x (ax x hx).1 (ax x hx).2]
            have lxs : xs.length ≤ sizeLine := size_ok (by rw [vls_len, range_len] at lx; omega)
            refine ⟨lxs, _, ⟨_, dBls_true' xs, rfl⟩, ?_⟩
            simp
      · obtain ⟨a1, a2, a3, a4, a5, a6, a7, a8, a9, a10, rfl⟩ := hJ
        simp
  obtain ⟨v, st, e, rfl⟩ := main.eq
  exact ⟨st, e⟩

end Ka
namespace Ka
open PySem PySem.Spec PyProof.Rows L2 Br
theorem all_mk {P : Program} {w : World} {K : PySem.W.Frag} {h : Heap} {mg : Str → Option Value} {fa : Addr} (X : K.In h) (G : h.Ns mainGlobals mg) (hfa : mg "law" = some (.ref fa))
    {f0 : Addr} {oc0 kV0 dc0 pm0 cd0 ct0 : Value} {od0 an0 : Option Addr} {sl0 : Array (Option Value)}
    (a0 : PySem.W.nsIn K mainGlobals "is_whole" = some (some (.ref f0))) (l0 : K.lookup f0 = some ⟨oc0, od0, .func (PySem.W.fnOf "is_whole" "is_whole" (defArgs (top 1)) (defBody (top 1)) (defScope (top 1)) .none kV0 dc0 pm0 an0 cd0 ct0), sl0⟩) (c0 : PySem.W.codeIn K cd0 "is_whole" = true) (k0 : PySem.W.keepIn K (.ref f0) = true)
    {f1 : Addr} {oc1 kV1 dc1 pm1 cd1 ct1 : Value} {od1 an1 : Option Addr} {sl1 : Array (Option Value)}
    (a1 : PySem.W.nsIn K mainGlobals "is_from" = some (some (.ref f1))) (l1 : K.lookup f1 = some ⟨oc1, od1, .func (PySem.W.fnOf "is_from" "is_from" (defArgs (top 2)) (defBody (top 2)) (defScope (top 2)) .none kV1 dc1 pm1 an1 cd1 ct1), sl1⟩) (c1 : PySem.W.codeIn K cd1 "is_from" = true) (k1 : PySem.W.keepIn K (.ref f1) = true)
    {f2 : Addr} {oc2 kV2 dc2 pm2 cd2 ct2 : Value} {od2 an2 : Option Addr} {sl2 : Array (Option Value)}
    (a2 : PySem.W.nsIn K mainGlobals "is_kind" = some (some (.ref f2))) (l2 : K.lookup f2 = some ⟨oc2, od2, .func (PySem.W.fnOf "is_kind" "is_kind" (defArgs (top 5)) (defBody (top 5)) (defScope (top 5)) .none kV2 dc2 pm2 an2 cd2 ct2), sl2⟩) (c2 : PySem.W.codeIn K cd2 "is_kind" = true) (k2 : PySem.W.keepIn K (.ref f2) = true)
    {f3 : Addr} {oc3 kV3 dc3 pm3 cd3 ct3 : Value} {od3 an3 : Option Addr} {sl3 : Array (Option Value)}
    (a3 : PySem.W.nsIn K mainGlobals "is_edge" = some (some (.ref f3))) (l3 : K.lookup f3 = some ⟨oc3, od3, .func (PySem.W.fnOf "is_edge" "is_edge" (defArgs (top 6)) (defBody (top 6)) (defScope (top 6)) .none kV3 dc3 pm3 an3 cd3 ct3), sl3⟩) (c3 : PySem.W.codeIn K cd3 "is_edge" = true) (k3 : PySem.W.keepIn K (.ref f3) = true)
    {f4 : Addr} {oc4 kV4 dc4 pm4 cd4 ct4 : Value} {od4 an4 : Option Addr} {sl4 : Array (Option Value)}
    (a4 : PySem.W.nsIn K mainGlobals "_law_cell" = some (some (.ref f4))) (l4 : K.lookup f4 = some ⟨oc4, od4, .func (PySem.W.fnOf "_law_cell" "_law_cell" (defArgs (top 8)) (defBody (top 8)) (defScope (top 8)) .none kV4 dc4 pm4 an4 cd4 ct4), sl4⟩) (c4 : PySem.W.codeIn K cd4 "_law_cell" = true) (k4 : PySem.W.keepIn K (.ref f4) = true)
    {f5 : Addr} {oc5 kV5 dc5 pm5 cd5 ct5 : Value} {od5 an5 : Option Addr} {sl5 : Array (Option Value)}
    (a5 : PySem.W.nsIn K mainGlobals "_law_pen" = some (some (.ref f5))) (l5 : K.lookup f5 = some ⟨oc5, od5, .func (PySem.W.fnOf "_law_pen" "_law_pen" (defArgs (top 9)) (defBody (top 9)) (defScope (top 9)) .none kV5 dc5 pm5 an5 cd5 ct5), sl5⟩) (c5 : PySem.W.codeIn K cd5 "_law_pen" = true) (k5 : PySem.W.keepIn K (.ref f5) = true)
    {f6 : Addr} {oc6 kV6 dc6 pm6 cd6 ct6 : Value} {od6 an6 : Option Addr} {sl6 : Array (Option Value)}
    (a6 : PySem.W.nsIn K mainGlobals "_law_draw" = some (some (.ref f6))) (l6 : K.lookup f6 = some ⟨oc6, od6, .func (PySem.W.fnOf "_law_draw" "_law_draw" (defArgs (top 10)) (defBody (top 10)) (defScope (top 10)) .none kV6 dc6 pm6 an6 cd6 ct6), sl6⟩) (c6 : PySem.W.codeIn K cd6 "_law_draw" = true) (k6 : PySem.W.keepIn K (.ref f6) = true)
    {f7 : Addr} {oc7 kV7 dc7 pm7 cd7 ct7 : Value} {od7 an7 : Option Addr} {sl7 : Array (Option Value)}
    (a7 : PySem.W.nsIn K mainGlobals "_law_whole" = some (some (.ref f7))) (l7 : K.lookup f7 = some ⟨oc7, od7, .func (PySem.W.fnOf "_law_whole" "_law_whole" (defArgs (top 11)) (defBody (top 11)) (defScope (top 11)) .none kV7 dc7 pm7 an7 cd7 ct7), sl7⟩) (c7 : PySem.W.codeIn K cd7 "_law_whole" = true) (k7 : PySem.W.keepIn K (.ref f7) = true)
    {f8 : Addr} {oc8 kV8 dc8 pm8 cd8 ct8 : Value} {od8 an8 : Option Addr} {sl8 : Array (Option Value)}
    (a8 : PySem.W.nsIn K mainGlobals "_law_odd" = some (some (.ref f8))) (l8 : K.lookup f8 = some ⟨oc8, od8, .func (PySem.W.fnOf "_law_odd" "_law_odd" (defArgs (top 12)) (defBody (top 12)) (defScope (top 12)) .none kV8 dc8 pm8 an8 cd8 ct8), sl8⟩) (c8 : PySem.W.codeIn K cd8 "_law_odd" = true) (k8 : PySem.W.keepIn K (.ref f8) = true)
    {f9 : Addr} {oc9 kV9 dc9 pm9 cd9 ct9 : Value} {od9 an9 : Option Addr} {sl9 : Array (Option Value)}
    (a9 : PySem.W.nsIn K mainGlobals "_law_kind" = some (some (.ref f9))) (l9 : K.lookup f9 = some ⟨oc9, od9, .func (PySem.W.fnOf "_law_kind" "_law_kind" (defArgs (top 13)) (defBody (top 13)) (defScope (top 13)) .none kV9 dc9 pm9 an9 cd9 ct9), sl9⟩) (c9 : PySem.W.codeIn K cd9 "_law_kind" = true) (k9 : PySem.W.keepIn K (.ref f9) = true)
    {f10 : Addr} {oc10 kV10 dc10 pm10 cd10 ct10 : Value} {od10 an10 : Option Addr} {sl10 : Array (Option Value)}
    (a10 : PySem.W.nsIn K mainGlobals "_law_is_kind" = some (some (.ref f10))) (l10 : K.lookup f10 = some ⟨oc10, od10, .func (PySem.W.fnOf "_law_is_kind" "_law_is_kind" (defArgs (top 14)) (defBody (top 14)) (defScope (top 14)) .none kV10 dc10 pm10 an10 cd10 ct10), sl10⟩) (c10 : PySem.W.codeIn K cd10 "_law_is_kind" = true) (k10 : PySem.W.keepIn K (.ref f10) = true)
    {f11 : Addr} {oc11 kV11 dc11 pm11 cd11 ct11 : Value} {od11 an11 : Option Addr} {sl11 : Array (Option Value)}
    (a11 : PySem.W.nsIn K mainGlobals "_law_edge" = some (some (.ref f11))) (l11 : K.lookup f11 = some ⟨oc11, od11, .func (PySem.W.fnOf "_law_edge" "_law_edge" (defArgs (top 15)) (defBody (top 15)) (defScope (top 15)) .none kV11 dc11 pm11 an11 cd11 ct11), sl11⟩) (c11 : PySem.W.codeIn K cd11 "_law_edge" = true) (k11 : PySem.W.keepIn K (.ref f11) = true)
    {f12 : Addr} {oc12 kV12 dc12 pm12 cd12 ct12 : Value} {od12 an12 : Option Addr} {sl12 : Array (Option Value)}
    (a12 : PySem.W.nsIn K mainGlobals "_law_is_edge" = some (some (.ref f12))) (l12 : K.lookup f12 = some ⟨oc12, od12, .func (PySem.W.fnOf "_law_is_edge" "_law_is_edge" (defArgs (top 16)) (defBody (top 16)) (defScope (top 16)) .none kV12 dc12 pm12 an12 cd12 ct12), sl12⟩) (c12 : PySem.W.codeIn K cd12 "_law_is_edge" = true) (k12 : PySem.W.keepIn K (.ref f12) = true)
    {f13 : Addr} {oc13 kV13 dc13 pm13 cd13 ct13 : Value} {od13 an13 : Option Addr} {sl13 : Array (Option Value)}
    (a13 : PySem.W.nsIn K mainGlobals "_law_no_kind" = some (some (.ref f13))) (l13 : K.lookup f13 = some ⟨oc13, od13, .func (PySem.W.fnOf "_law_no_kind" "_law_no_kind" (defArgs (top 17)) (defBody (top 17)) (defScope (top 17)) .none kV13 dc13 pm13 an13 cd13 ct13), sl13⟩) (c13 : PySem.W.codeIn K cd13 "_law_no_kind" = true) (k13 : PySem.W.keepIn K (.ref f13) = true)
    {f14 : Addr} {oc14 kV14 dc14 pm14 cd14 ct14 : Value} {od14 an14 : Option Addr} {sl14 : Array (Option Value)}
    (a14 : PySem.W.nsIn K mainGlobals "_law_no_edge" = some (some (.ref f14))) (l14 : K.lookup f14 = some ⟨oc14, od14, .func (PySem.W.fnOf "_law_no_edge" "_law_no_edge" (defArgs (top 18)) (defBody (top 18)) (defScope (top 18)) .none kV14 dc14 pm14 an14 cd14 ct14), sl14⟩) (c14 : PySem.W.codeIn K cd14 "_law_no_edge" = true) (k14 : PySem.W.keepIn K (.ref f14) = true)
    {f15 : Addr} {oc15 kV15 dc15 pm15 cd15 ct15 : Value} {od15 an15 : Option Addr} {sl15 : Array (Option Value)}
    (a15 : PySem.W.nsIn K mainGlobals "_law_right" = some (some (.ref f15))) (l15 : K.lookup f15 = some ⟨oc15, od15, .func (PySem.W.fnOf "_law_right" "_law_right" (defArgs (top 19)) (defBody (top 19)) (defScope (top 19)) .none kV15 dc15 pm15 an15 cd15 ct15), sl15⟩) (c15 : PySem.W.codeIn K cd15 "_law_right" = true) (k15 : PySem.W.keepIn K (.ref f15) = true)
    {f16 : Addr} {oc16 kV16 dc16 pm16 cd16 ct16 : Value} {od16 an16 : Option Addr} {sl16 : Array (Option Value)}
    (a16 : PySem.W.nsIn K mainGlobals "law" = some (some (.ref f16))) (l16 : K.lookup f16 = some ⟨oc16, od16, .func (PySem.W.fnOf "law" "law" (defArgs (top 20)) (defBody (top 20)) (defScope (top 20)) .none kV16 dc16 pm16 an16 cd16 ct16), sl16⟩) (c16 : PySem.W.codeIn K cd16 "law" = true) (k16 : PySem.W.keepIn K (.ref f16) = true)
    (z0 : PySem.W.nsIn K mainGlobals "isinstance" = some none)
    (z1 : PySem.W.nsIn K mainGlobals "int" = some none)
    (z2 : PySem.W.nsIn K mainGlobals "bool" = some none)
    (z3 : PySem.W.nsIn K mainGlobals "tuple" = some none)
    (z4 : PySem.W.nsIn K mainGlobals "len" = some none)
    (z5 : PySem.W.nsIn K mainGlobals "str" = some none)
    (z6 : PySem.W.nsIn K mainGlobals "all" = some none)
    (z7 : PySem.W.nsIn K mainGlobals "list" = some none)
    (z8 : PySem.W.nsIn K mainGlobals "repr" = some none)
    (z9 : PySem.W.nsIn K mainGlobals "range" = some none)
    {D0 : Addr} (q0 : PySem.W.nsIn K mainGlobals "LOW" = some (some (.ref D0))) {Ds0 : Array DictEntry} {Dn0 : Nat} (qa0 : K.lookup D0 = some ⟨.type "dict", none, .dict Ds0 Dn0, #[]⟩) (qb0 : PySem.W.KeysLit w.params Ds0.toList) (qc0 : (D0 == sysModules) = false) (qd0 : kdB Ds0.toList [("row", 1), ("column", 1), ("slant", 1), ("rise", 1), ("corner", 0)] = true)
    : ∃ fd : FuncData, (∀ (s : Shared) (v : Value), BindsTo s fd ⟨[v], []⟩ [("_law_script", v)]) ∧ ∀ base : Heap, K.In base → base.Ns mainGlobals mg → Br.FnG P w K mg base (L2N.CX P w) 14 fa fd ["_law_script"] (Br.spLaw K 63) := by
  have e := (Value.ref.inj (Option.some.inj (hfa.symm.trans (PySem.W.mg_of X G a16)))).symm
  subst e
  have D : AllD K mg fns sts [f0, f1, f2, f3, f4, f5, f6, f7, f8, f9, f10, f11, f12, f13, f14, f15, f16] := by
    refine allD_cons (f := ⟨"is_whole", 1, ["thing"], false, b_is_whole, false⟩) X G a0 l0 c0 k0 (fun _ _ _ _ _ _ us hl => match us, hl with | [_], _ => rfl) ?_
    refine allD_cons (f := ⟨"is_from", 3, ["thing", "low", "high"], false, b_is_from 0, false⟩) X G a1 l1 c1 k1 (fun _ _ _ _ _ _ us hl => match us, hl with | [_, _, _], _ => rfl) ?_
    refine allD_cons (f := ⟨"is_kind", 1, ["thing"], false, b_is_kind 1, false⟩) X G a2 l2 c2 k2 (fun _ _ _ _ _ _ us hl => match us, hl with | [_], _ => rfl) ?_
    refine allD_cons (f := ⟨"is_edge", 1, ["thing", "one"], false, b_is_edge 1, false⟩) X G a3 l3 c3 k3 (fun _ _ _ _ _ _ us hl => match us, hl with | [_], _ => rfl) ?_
    refine allD_cons (f := ⟨"_law_cell", 2, ["_law_script", "_law_k"], false, b_law_cell, false⟩) X G a4 l4 c4 k4 (fun _ _ _ _ _ _ us hl => match us, hl with | [_, _], _ => rfl) ?_
    refine allD_cons (f := ⟨"_law_pen", 1, ["_law_cell_here"], false, b_law_pen, false⟩) X G a5 l5 c5 k5 (fun _ _ _ _ _ _ us hl => match us, hl with | [_], _ => rfl) ?_
    refine allD_cons (f := ⟨"_law_draw", 2, ["_law_pen_here", "_law_many", "_law_found"], false, b_law_draw, false⟩) X G a6 l6 c6 k6 (fun _ _ _ _ _ _ us hl => match us, hl with | [_, _], _ => rfl) ?_
    refine allD_cons (f := ⟨"_law_whole", 1, ["_law_thing"], false, b_law_whole, false⟩) X G a7 l7 c7 k7 (fun _ _ _ _ _ _ us hl => match us, hl with | [_], _ => rfl) ?_
    refine allD_cons (f := ⟨"_law_odd", 1, ["_law_pen_here", "_law_some"], false, b_law_odd 6, false⟩) X G a8 l8 c8 k8 (fun _ _ _ _ _ _ us hl => match us, hl with | [_], _ => rfl) ?_
    refine allD_cons (f := ⟨"_law_kind", 1, ["_law_pen_here", "_law_word"], false, b_law_kind 6, false⟩) X G a9 l9 c9 k9 (fun _ _ _ _ _ _ us hl => match us, hl with | [_], _ => rfl) ?_
    refine allD_cons (f := ⟨"_law_is_kind", 1, ["_law_thing"], false, b_law_is_kind 7, false⟩) X G a10 l10 c10 k10 (fun _ _ _ _ _ _ us hl => match us, hl with | [_], _ => rfl) ?_
    refine allD_cons (f := ⟨"_law_edge", 2, ["_law_pen_here", "_law_kind_here", "_law_high", "_law_wide", "_law_found", "_law_room", "_law_one"], false, b_law_edge 6, false⟩) X G a11 l11 c11 k11 (fun _ _ _ _ _ _ us hl => match us, hl with | [_, _], _ => rfl) ?_
    refine allD_cons (f := ⟨"_law_is_edge", 1, ["_law_thing", "_law_one"], false, b_law_is_edge 7, false⟩) X G a12 l12 c12 k12 (fun _ _ _ _ _ _ us hl => match us, hl with | [_], _ => rfl) ?_
    refine allD_cons (f := ⟨"_law_no_kind", 2, ["_law_pen_here", "_law_kind_here", "_law_some", "_law_thing"], false, b_law_no_kind 6 10, false⟩) X G a13 l13 c13 k13 (fun _ _ _ _ _ _ us hl => match us, hl with | [_, _], _ => rfl) ?_
    refine allD_cons (f := ⟨"_law_no_edge", 2, ["_law_pen_here", "_law_edge_here", "_law_at", "_law_odd_here", "_law_bent"], false, b_law_no_edge 6, false⟩) X G a14 l14 c14 k14 (fun _ _ _ _ _ _ us hl => match us, hl with | [_, _], _ => rfl) ?_
    refine allD_cons (f := ⟨"_law_right", 1, ["_law_thing", "_law_kept", "_law_turn", "_law_found", "_law_other"], false, b_law_right 2 3 10 12, false⟩) X G a15 l15 c15 k15 (fun _ _ _ _ _ _ us hl => match us, hl with | [_], _ => rfl) ?_
    refine allD_cons (f := ⟨"law", 1, ["_law_script", "_law_some", "_law_word", "_law_cell_here", "_law_pen_here", "_law_kind_here", "_law_edge_here", "_law_things", "_law_turn", "_law_number", "_law_thing"], false, b_law 15 4 5 9 6 8 11 13 14, false⟩) X G a16 l16 c16 k16 (fun _ _ _ _ _ _ us hl => match us, hl with | [_], _ => rfl) ?_
    exact trivial
  have pc : ∀ base : Heap, Plc P w ⟨K, fun k => [f0, f1, f2, f3, f4, f5, f6, f7, f8, f9, f10, f11, f12, f13, f14, f15, f16].getD k 0, fun k => [].getD k 0, none, 0, none, fun k => ([] : List Addr).getD k 0⟩ pg sts [f0, f1, f2, f3, f4, f5, f6, f7, f8, f9, f10, f11, f12, f13, f14, f15, f16] mg base := fun base =>
    { fa := fun _ => rfl
      cold := rfl
      cls := fun _ _ e => by cases e
      cg := ⟨fun _ h => absurd h (Nat.not_lt_zero _), fun _ h => absurd h (Nat.not_lt_zero _), fun _ _ h => absurd h (Nat.not_lt_zero _), fun _ h => absurd h (Nat.not_lt_zero _), fun h => absurd h (Nat.not_lt_zero _), fun h => absurd h (Nat.not_lt_zero _)⟩
      gr := fun _ e => by cases e
      kd := fun x v e => by
        simp only [pg] at e
        rcases lookupK_cons e with ⟨rfl, rfl⟩ | e
        · exact ⟨D0, PySem.W.mg_of X G q0, Ds0, Dn0, qa0, qb0, qc0, qd0⟩
        cases e
      glb := fun x v e => by
        simp only [pg] at e
        cases e
      blt := fun x hx => by
        simp only [pg] at hx
        rcases List.mem_cons.mp hx with rfl | hx
        · exact PySem.W.mg_none_of X G z0
        rcases List.mem_cons.mp hx with rfl | hx
        · exact PySem.W.mg_none_of X G z1
        rcases List.mem_cons.mp hx with rfl | hx
        · exact PySem.W.mg_none_of X G z2
        rcases List.mem_cons.mp hx with rfl | hx
        · exact PySem.W.mg_none_of X G z3
        rcases List.mem_cons.mp hx with rfl | hx
        · exact PySem.W.mg_none_of X G z4
        rcases List.mem_cons.mp hx with rfl | hx
        · exact PySem.W.mg_none_of X G z5
        rcases List.mem_cons.mp hx with rfl | hx
        · exact PySem.W.mg_none_of X G z6
        rcases List.mem_cons.mp hx with rfl | hx
        · exact PySem.W.mg_none_of X G z7
        rcases List.mem_cons.mp hx with rfl | hx
        · exact PySem.W.mg_none_of X G z8
        rcases List.mem_cons.mp hx with rfl | hx
        · exact PySem.W.mg_none_of X G z9
        cases hx
      oc := fun c o e => by
        have e : ([] : List Ocl)[c]? = some o := e
        simp at e
      defs := D
      chk := chk_all }
  exact ⟨_, fun s v => .of_eq rfl, fun base _ _ => law_sound (pc base) (k := 16) (n := 12) (m := 63) (f := ⟨"law", 1, ["_law_script", "_law_some", "_law_word", "_law_cell_here", "_law_pen_here", "_law_kind_here", "_law_edge_here", "_law_things", "_law_turn", "_law_number", "_law_thing"], false, b_law 15 4 5 9 6 8 11 13 14, false⟩) rfl rfl (fun_mk l16 c16 k16) law_ok⟩
end Ka
open PySem PySem.W PyProof.Rows
set_option maxRecDepth 100000 in
set_option maxHeartbeats 0 in
theorem PySem.Challenge.cw_barredtables_k40_kinds_and_edges_by_anyb_holds : PySem.Challenge.rw_barredtables_k40_kinds_and_edges_by_anyb.Holds := by
  w_on; o_law; k_head; (case hw => w_witness2)
  k_fill
  refine Br.walk_ofG (l := PySem.Challenge.rw_barredtables_k40_kinds_and_edges_by_anyb) (n := 63) (lv := 14) (x := "_law_script") (CX := fun w => L2N.CX PySem.Challenge.rw_barredtables_k40_kinds_and_edges_by_anyb.prog w) (sp := fun w => Br.spLaw _ 63) rfl (by decide) rfl ⟨rfl, by decide, by decide⟩ (fun w h Y => PySem.W.kIn_of Y) ?F (fun _ _ a ns hl hb _ hS => ⟨a, ns, rfl, hS, hl, hb, fun _ => rfl⟩) (fun _ _ _ _ _ h => Br.cx_law h)
  case F =>
    intro w mg fa h KX G hmg
    refine' Ka.all_mk KX G hmg ?a0 ?l0 ?c0 ?k0 ?a1 ?l1 ?c1 ?k1 ?a2 ?l2 ?c2 ?k2 ?a3 ?l3 ?c3 ?k3 ?a4 ?l4 ?c4 ?k4 ?a5 ?l5 ?c5 ?k5 ?a6 ?l6 ?c6 ?k6 ?a7 ?l7 ?c7 ?k7 ?a8 ?l8 ?c8 ?k8 ?a9 ?l9 ?c9 ?k9 ?a10 ?l10 ?c10 ?k10 ?a11 ?l11 ?c11 ?k11 ?a12 ?l12 ?c12 ?k12 ?a13 ?l13 ?c13 ?k13 ?a14 ?l14 ?c14 ?k14 ?a15 ?l15 ?c15 ?k15 ?a16 ?l16 ?c16 ?k16 ?z0 ?z1 ?z2 ?z3 ?z4 ?z5 ?z6 ?z7 ?z8 ?z9 ?q0 ?qa0 ?qb0 ?qc0 ?qd0
    (case a0 => k_is)
    (case l0 => k_is)
    (case c0 => k_is)
    (case k0 => k_is)
    (case a1 => k_is)
    (case l1 => k_is)
    (case c1 => k_is)
    (case k1 => k_is)
    (case a2 => k_is)
    (case l2 => k_is)
    (case c2 => k_is)
    (case k2 => k_is)
    (case a3 => k_is)
    (case l3 => k_is)
    (case c3 => k_is)
    (case k3 => k_is)
    (case a4 => k_is)
    (case l4 => k_is)
    (case c4 => k_is)
    (case k4 => k_is)
    (case a5 => k_is)
    (case l5 => k_is)
    (case c5 => k_is)
    (case k5 => k_is)
    (case a6 => k_is)
    (case l6 => k_is)
    (case c6 => k_is)
    (case k6 => k_is)
    (case a7 => k_is)
    (case l7 => k_is)
    (case c7 => k_is)
    (case k7 => k_is)
    (case a8 => k_is)
    (case l8 => k_is)
    (case c8 => k_is)
    (case k8 => k_is)
    (case a9 => k_is)
    (case l9 => k_is)
    (case c9 => k_is)
    (case k9 => k_is)
    (case a10 => k_is)
    (case l10 => k_is)
    (case c10 => k_is)
    (case k10 => k_is)
    (case a11 => k_is)
    (case l11 => k_is)
    (case c11 => k_is)
    (case k11 => k_is)
    (case a12 => k_is)
    (case l12 => k_is)
    (case c12 => k_is)
    (case k12 => k_is)
    (case a13 => k_is)
    (case l13 => k_is)
    (case c13 => k_is)
    (case k13 => k_is)
    (case a14 => k_is)
    (case l14 => k_is)
    (case c14 => k_is)
    (case k14 => k_is)
    (case a15 => k_is)
    (case l15 => k_is)
    (case c15 => k_is)
    (case k15 => k_is)
    (case a16 => k_is)
    (case l16 => k_is)
    (case c16 => k_is)
    (case k16 => k_is)
    (case z0 => k_is)
    (case z1 => k_is)
    (case z2 => k_is)
    (case z3 => k_is)
    (case z4 => k_is)
    (case z5 => k_is)
    (case z6 => k_is)
    (case z7 => k_is)
    (case z8 => k_is)
    (case z9 => k_is)
    (case q0 => k_is)
    (case qa0 => k_is)
    (case qb0 => k_keys)
    (case qc0 => decide)
    (case qd0 => kernel_rfl)
